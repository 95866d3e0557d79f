import PyProof.Rows.All
import Wide.All
import OpenK.AllK
import Wide.FinOn
import HandS.ForMost
import HandS.Star
import HandS.Deep
import HandS.Walk
import HandS.IsInst
import HandS.Style
import PySem.Challenge.RW_packedbases_k35_whole_costs_of_changes
set_option Elab.async false
set_option linter.all false
set_option maxRecDepth 100000
set_option maxHeartbeats 4000000
/-! DL: a logic of plain data over the hand layer. No heap is seen by its user: a value is told by the data D that it stands for,
    what was ever made stays as it is (the frozen heap F), lists that a def fills are owned by their slot. -/
namespace DL
open PySem L2

/-! ### data -/
inductive D where
  | non | bl (b : Bool) | int (i : Int) | str (s : Str) | raw (v : V)
  | lst (xs : List D) | tup (xs : List D) | scr (ns : List Int)
  | dct (kvs : List (Key × D)) | own (xs : List D)
  | ins (C : Addr) (fs : List (Str × D))

mutual
def Rp (K : PySem.W.Frag) (F : Hp) : D → V → Prop
  | .non, v => v = .non
  | .bl b, v => v = .bl b
  | .int i, v => v = .int i
  | .str s, v => v = .str s
  | .raw u, v => v = u
  | .own _, _ => False
  | .lst ds, v => ∃ a xs, v = .ref a ∧ F a = some (.lst xs) ∧ RpL K F ds xs
  | .scr ns, v => ∃ a, v = .ref a ∧ SqL K F a (ns.map V.int)
  | .tup ds, v => ∃ a xs, v = .ref a ∧ SqT K F a xs ∧ RpL K F ds xs
  | .dct kds, v => ∃ a kvs, v = .ref a ∧ Rd F a (.dK kvs) ∧ RpK K F kds kvs
  | .ins C fds, v => ∃ a dx fs, v = .ref a ∧ F a = some (.ins C dx fs) ∧ RpF K F fds fs
def RpL (K : PySem.W.Frag) (F : Hp) : List D → List V → Prop
  | [], vs => vs = []
  | d :: ds, vs => ∃ v r, vs = v :: r ∧ Rp K F d v ∧ RpL K F ds r
def RpK (K : PySem.W.Frag) (F : Hp) : List (Key × D) → List (Key × V) → Prop
  | [], vs => vs = []
  | (k, d) :: ds, vs => ∃ v r, vs = (k, v) :: r ∧ Rp K F d v ∧ RpK K F ds r
def RpF (K : PySem.W.Frag) (F : Hp) : List (Str × D) → List (Str × V) → Prop
  | [], vs => vs = []
  | (k, d) :: ds, vs => ∃ v r, vs = (k, v) :: r ∧ Rp K F d v ∧ RpF K F ds r
end

section
variable {K : PySem.W.Frag} {F F' H : Hp} {a : Addr} {xs : List V}
theorem Same.rd {u : HO} (e : Same F F') (h : Rd F a u) : Rd F' a u := by
  rcases h with h | ⟨o, h⟩
  · exact Or.inl (e a _ h)
  · exact Or.inr ⟨o, e a _ h⟩
theorem Same.sqL (e : Same F F') (h : SqL K F a xs) : SqL K F' a xs := by
  rcases h with h | h
  · exact Or.inl (Same.rd e h)
  · exact Or.inr h
theorem Same.sqT (e : Same F F') (h : SqT K F a xs) : SqT K F' a xs := by
  rcases h with h | h
  · exact Or.inl (Same.rd e h)
  · exact Or.inr h
mutual
theorem Rp.mono (e : Same F F') : ∀ (d : D) (v : V), Rp K F d v → Rp K F' d v
  | .non, _, h => h
  | .bl _, _, h => h
  | .int _, _, h => h
  | .str _, _, h => h
  | .raw _, _, h => h
  | .own _, _, h => h
  | .lst ds, v, h => by
    rw [Rp] at h ⊢
    obtain ⟨a, xs, ev, hs, hl⟩ := h
    exact ⟨a, xs, ev, e _ _ hs, RpL.mono e ds xs hl⟩
  | .scr ns, v, h => by
    rw [Rp] at h ⊢
    obtain ⟨a, ev, hs⟩ := h
    exact ⟨a, ev, Same.sqL e hs⟩
  | .tup ds, v, h => by
    rw [Rp] at h ⊢
    obtain ⟨a, xs, ev, hs, hl⟩ := h
    exact ⟨a, xs, ev, Same.sqT e hs, RpL.mono e ds xs hl⟩
  | .dct ds, v, h => by
    rw [Rp] at h ⊢
    obtain ⟨a, xs, ev, hs, hl⟩ := h
    exact ⟨a, xs, ev, Same.rd e hs, RpK.mono e ds xs hl⟩
  | .ins C ds, v, h => by
    rw [Rp] at h ⊢
    obtain ⟨a, dx, fs, ev, hs, hl⟩ := h
    exact ⟨a, dx, fs, ev, e _ _ hs, RpF.mono e ds fs hl⟩
theorem RpL.mono (e : Same F F') : ∀ (ds : List D) (vs : List V), RpL K F ds vs → RpL K F' ds vs
  | [], _, h => h
  | d :: ds, vs, h => by
    rw [RpL] at h ⊢
    obtain ⟨v, r, ev, h1, h2⟩ := h
    exact ⟨v, r, ev, Rp.mono e d v h1, RpL.mono e ds r h2⟩
theorem RpK.mono (e : Same F F') : ∀ (ds : List (Key × D)) (vs : List (Key × V)), RpK K F ds vs → RpK K F' ds vs
  | [], _, h => h
  | (k, d) :: ds, vs, h => by
    rw [RpK] at h ⊢
    obtain ⟨v, r, ev, h1, h2⟩ := h
    exact ⟨v, r, ev, Rp.mono e d v h1, RpK.mono e ds r h2⟩
theorem RpF.mono (e : Same F F') : ∀ (ds : List (Str × D)) (vs : List (Str × V)), RpF K F ds vs → RpF K F' ds vs
  | [], _, h => h
  | (k, d) :: ds, vs, h => by
    rw [RpF] at h ⊢
    obtain ⟨v, r, ev, h1, h2⟩ := h
    exact ⟨v, r, ev, Rp.mono e d v h1, RpF.mono e ds r h2⟩
end
theorem RpL.length : ∀ {ds : List D} {vs : List V}, RpL K F ds vs → vs.length = ds.length
  | [], _, h => by rw [RpL] at h; rw [h]; rfl
  | d :: ds, vs, h => by
    rw [RpL] at h
    obtain ⟨v, r, rfl, _, h2⟩ := h
    rw [List.length_cons, List.length_cons, RpL.length h2]
theorem RpL.get : ∀ {ds : List D} {vs : List V} {i : Nat} {d : D}, RpL K F ds vs → ds[i]? = some d → ∃ v, vs[i]? = some v ∧ Rp K F d v
  | [], _, _, _, _, e => by simp at e
  | c :: ds, vs, i, d, h, e => by
    rw [RpL] at h
    obtain ⟨v, r, rfl, h1, h2⟩ := h
    cases i with
    | zero =>
      simp at e
      subst e
      exact ⟨v, rfl, h1⟩
    | succ i =>
      obtain ⟨w, e1, e2⟩ := RpL.get (i := i) (d := d) h2 (by simpa using e)
      exact ⟨w, by simpa using e1, e2⟩
theorem RpL.getV : ∀ {ds : List D} {vs : List V} {i : Nat} {v : V}, RpL K F ds vs → vs[i]? = some v → ∃ d, ds[i]? = some d ∧ Rp K F d v
  | [], _, _, _, h, e => by
    rw [RpL] at h
    subst h
    simp at e
  | c :: ds, vs, i, d, h, e => by
    rw [RpL] at h
    obtain ⟨v, r, rfl, h1, h2⟩ := h
    cases i with
    | zero =>
      simp at e
      subst e
      exact ⟨c, rfl, h1⟩
    | succ i =>
      obtain ⟨w, e1, e2⟩ := RpL.getV (i := i) (v := d) h2 (by simpa using e)
      exact ⟨w, by simpa using e1, e2⟩
theorem RpL.append : ∀ {ds es : List D} {vs ws : List V}, RpL K F ds vs → RpL K F es ws → RpL K F (ds ++ es) (vs ++ ws)
  | [], _, _, _, h, g => by
    rw [RpL] at h
    subst h
    exact g
  | d :: ds, es, vs, ws, h, g => by
    rw [RpL] at h
    obtain ⟨v, r, rfl, h1, h2⟩ := h
    show RpL K F (d :: (ds ++ es)) (v :: (r ++ ws))
    rw [RpL]
    exact ⟨v, r ++ ws, rfl, h1, RpL.append h2 g⟩
theorem RpL.one {d : D} {v : V} (h : Rp K F d v) : RpL K F [d] [v] := by
  rw [RpL]
  exact ⟨v, [], rfl, h, by rw [RpL]⟩
theorem RpL.nil : RpL K F [] [] := by rw [RpL]
theorem RpL.cons {d : D} {v : V} {ds : List D} {vs : List V} (h : Rp K F d v) (g : RpL K F ds vs) : RpL K F (d :: ds) (v :: vs) := by
  rw [RpL]
  exact ⟨v, vs, rfl, h, g⟩
theorem RpL.take : ∀ {ds : List D} {vs : List V} (n : Nat), RpL K F ds vs → RpL K F (ds.take n) (vs.take n)
  | _, _, 0, _ => by rw [List.take_zero, List.take_zero]; exact RpL.nil
  | [], _, n + 1, h => by
    rw [RpL] at h
    subst h
    exact RpL.nil
  | d :: ds, _, n + 1, h => by
    rw [RpL] at h
    obtain ⟨v, r, rfl, h1, h2⟩ := h
    exact RpL.cons h1 (RpL.take n h2)
theorem RpL.drop : ∀ {ds : List D} {vs : List V} (n : Nat), RpL K F ds vs → RpL K F (ds.drop n) (vs.drop n)
  | _, _, 0, h => h
  | [], _, n + 1, h => by
    rw [RpL] at h
    subst h
    exact RpL.nil
  | d :: ds, _, n + 1, h => by
    rw [RpL] at h
    obtain ⟨v, r, rfl, h1, h2⟩ := h
    exact RpL.drop n h2
theorem RpL.set {d : D} {v : V} (g : Rp K F d v) : ∀ {ds : List D} {vs : List V} (n : Nat), RpL K F ds vs → RpL K F (ds.set n d) (vs.set n v)
  | [], _, _, h => by
    rw [RpL] at h
    subst h
    exact RpL.nil
  | c :: ds, _, 0, h => by
    rw [RpL] at h
    obtain ⟨v, r, rfl, h1, h2⟩ := h
    exact RpL.cons g h2
  | c :: ds, _, n + 1, h => by
    rw [RpL] at h
    obtain ⟨v, r, rfl, h1, h2⟩ := h
    exact RpL.cons h1 (RpL.set g n h2)
theorem RpL.ints : ∀ {ns : List Int} {vs : List V}, RpL K F (ns.map D.int) vs → vs = ns.map V.int
  | [], _, h => by rw [List.map_nil, RpL] at h; rw [h]; rfl
  | n :: ns, _, h => by
    rw [List.map_cons, RpL] at h
    obtain ⟨v, r, rfl, h1, h2⟩ := h
    rw [Rp] at h1
    subst h1
    rw [RpL.ints h2]
    rfl
theorem RpL.of_ints : ∀ (ns : List Int), RpL K F (ns.map D.int) (ns.map V.int)
  | [] => RpL.nil
  | n :: ns => RpL.cons (by rw [Rp]) (RpL.of_ints ns)
theorem RpL.strs : ∀ {ns : List Str} {vs : List V}, RpL K F (ns.map D.str) vs → vs = ns.map V.str
  | [], _, h => by rw [List.map_nil, RpL] at h; rw [h]; rfl
  | n :: ns, _, h => by
    rw [List.map_cons, RpL] at h
    obtain ⟨v, r, rfl, h1, h2⟩ := h
    rw [Rp] at h1
    subst h1
    rw [RpL.strs h2]
    rfl
theorem RpL.bls : ∀ {ns : List Bool} {vs : List V}, RpL K F (ns.map D.bl) vs → vs = ns.map V.bl
  | [], _, h => by rw [List.map_nil, RpL] at h; rw [h]; rfl
  | n :: ns, _, h => by
    rw [List.map_cons, RpL] at h
    obtain ⟨v, r, rfl, h1, h2⟩ := h
    rw [Rp] at h1
    subst h1
    rw [RpL.bls h2]
    rfl
end

/-! ### what may change: the guard -/
structure Gd where
  own : Addr → Prop
  inv : Hp → Prop
  st : ∀ H H', inv H → (∀ a o, own a → H a = some o → H' a = some o) → inv H'
def g0 : Gd := ⟨fun _ => False, fun _ => True, fun _ _ _ _ => trivial⟩

structure Step (G G' : Gd) (H F H' F' : Hp) : Prop where
  fe : Same F F'
  fh : Same F' H'
  nw : ∀ a, F a = none → F' a ≠ none → H a = none
  kp : ∀ a o, ¬ G.own a → H a = some o → H' a = some o
  dm : ∀ a, H a ≠ none → H' a ≠ none
  iv : G'.inv H'
  ow : ∀ a, G'.own a → G.own a ∨ H a = none
  fo : ∀ a, G'.own a → F' a = none
  ex : ∀ a, G'.own a → H' a ≠ none
/-- a state in order -/
structure Ok (G : Gd) (H F : Hp) : Prop where
  fh : Same F H
  iv : G.inv H
  fo : ∀ a, G.own a → F a = none
  ex : ∀ a, G.own a → H a ≠ none
section
variable {G G1 G2 : Gd} {H F H1 F1 H2 F2 : Hp}
theorem Step.ok (s : Step G G1 H F H1 F1) : Ok G1 H1 F1 := ⟨s.fh, s.iv, s.fo, s.ex⟩
theorem Ok.refl (k : Ok G H F) : Step G G H F H F :=
  ⟨fun _ _ h => h, k.fh, fun a h q => absurd h q, fun _ _ _ h => h, fun _ h => h, k.iv, fun _ h => .inl h, k.fo, k.ex⟩
theorem Step.trans (s : Step G G1 H F H1 F1) (t : Step G1 G2 H1 F1 H2 F2) : Step G G2 H F H2 F2 where
  fe := fun a o h => t.fe a o (s.fe a o h)
  fh := t.fh
  nw := fun a h q => by
    cases e : F1 a with
    | some o => exact s.nw a h (by rw [e]; exact fun z => nomatch z)
    | none =>
      have n1 := t.nw a e q
      cases e2 : H a with
      | none => rfl
      | some o => exact absurd n1 (s.dm a (by rw [e2]; exact fun z => nomatch z))
  kp := fun a o n h => by
    refine t.kp a o (fun z => ?_) (s.kp a o n h)
    rcases s.ow a z with z | z
    · exact n z
    · rw [z] at h
      cases h
  dm := fun a h => t.dm a (s.dm a h)
  iv := t.iv
  ow := fun a z => by
    rcases t.ow a z with z | z
    · exact s.ow a z
    · right
      cases e2 : H a with
      | none => rfl
      | some o => exact absurd z (s.dm a (by rw [e2]; exact fun z => nomatch z))
  fo := t.fo
  ex := t.ex
theorem ne_none {α : Type} {o : Option α} {x : α} (h : o = some x) : o ≠ none := by rw [h]; exact fun z => nomatch z
/-- a new object, laid and frozen -/
theorem Ok.laid {p : Addr} {o : HO} (k : Ok G H F) (hp : H p = none) : Step G G H F (upd H p o) (upd F p o) := by
  have fp : F p = none := by
    cases e : F p with
    | none => rfl
    | some u => rw [k.fh p u e] at hp; cases hp
  refine ⟨fun a u h => ?_, fun a u h => ?_, fun a h q => ?_, fun a u _ h => ?_, fun a h => ?_, ?_, fun _ h => .inl h, fun a h => ?_, fun a h => ?_⟩
  · rw [upd_ne (ne_of_none h fp)]
    exact h
  · by_cases e : a = p
    · subst e
      rw [upd_same] at h ⊢
      exact h
    · rw [upd_ne e] at h ⊢
      exact k.fh a u h
  · by_cases e : a = p
    · subst e
      exact hp
    · rw [upd_ne e] at q
      exact absurd h q
  · rw [upd_ne (ne_of_none h hp)]
    exact h
  · by_cases e : a = p
    · subst e
      exact absurd hp h
    · rw [upd_ne e]
      exact h
  · refine G.st H _ k.iv fun a u _ h => ?_
    rw [upd_ne (ne_of_none h hp)]
    exact h
  · by_cases e : a = p
    · subst e
      exact absurd hp (k.ex a h)
    · rw [upd_ne e]
      exact k.fo a h
  · by_cases e : a = p
    · subst e
      rw [upd_same]
      exact fun z => nomatch z
    · rw [upd_ne e]
      exact k.ex a h
/-- an object that is not frozen and stood not at the beginning is changed -/
theorem Step.loose {p : Addr} {o : HO} (q : Step G G1 H F H1 F1) (h0 : H p = none) (fp : F1 p = none) (gp : ¬ G1.own p) (hp : H1 p ≠ none) : Step G G1 H F (upd H1 p o) F1 := by
  refine ⟨q.fe, fun a u h => ?_, q.nw, fun a u g h => ?_, fun a h => ?_, ?_, q.ow, q.fo, fun a h => ?_⟩
  · rw [upd_ne (ne_of_none h fp)]
    exact q.fh a u h
  · rw [upd_ne (ne_of_none h h0)]
    exact q.kp a u g h
  · by_cases z : a = p
    · subst z
      rw [upd_same]
      exact fun z => nomatch z
    · rw [upd_ne z]
      exact q.dm a h
  · refine G1.st H1 _ q.iv fun a u g h => ?_
    have ne : a ≠ p := fun z => gp (by rw [← z]; exact g)
    rw [upd_ne ne]
    exact h
  · by_cases z : a = p
    · subst z
      rw [upd_same]
      exact fun z => nomatch z
    · rw [upd_ne z]
      exact q.ex a h
/-- .. and is frozen from now on -/
theorem Step.freeze {p : Addr} {o : HO} (q : Step G G1 H F H1 F1) (h0 : H p = none) (fp : F1 p = none) (gp : ¬ G1.own p) (hp : H1 p = some o) : Step G G1 H F H1 (upd F1 p o) := by
  have fe : Same F1 (upd F1 p o) := fun a u h => by rw [upd_ne (ne_of_none h fp)]; exact h
  refine ⟨fun a u h => fe a u (q.fe a u h), fun a u h => ?_, fun a h z => ?_, q.kp, q.dm, q.iv, q.ow, fun a g => ?_, q.ex⟩
  · by_cases z : a = p
    · subst z
      rw [upd_same] at h
      rw [← h]
      exact hp
    · rw [upd_ne z] at h
      exact q.fh a u h
  · by_cases y : a = p
    · subst y
      exact h0
    · rw [upd_ne y] at z
      exact q.nw a h z
  · by_cases z : a = p
    · subst z
      exact absurd g gp
    · rw [upd_ne z]
      exact q.fo a g
end

/-! ### slots -/
inductive Sl where
  /-- nothing is known | a value that stands for d | a list that this slot alone holds, a dict likewise -/
  | un | sh (d : D) | ow (ds : List D) | od (kds : List (Key × D))
def Sl.owned : Sl → Bool
  | .ow _ => true
  | .od _ => true
  | _ => false
def SlotAt (K : PySem.W.Frag) (H0 : Hp) (G : Gd) (H F : Hp) (s : Sl) (o : Option (Option V)) (p : Addr) : Prop := match s with
  | .un => True
  | .sh d => ∃ v, o = some (some v) ∧ Rp K F d v
  | .ow ds => o = some (some (.ref p)) ∧ H0 p = none ∧ F p = none ∧ ¬ G.own p ∧ ∃ vs, H p = some (.lst vs) ∧ RpL K F ds vs
  | .od ds => o = some (some (.ref p)) ∧ H0 p = none ∧ F p = none ∧ ¬ G.own p ∧ ∃ vs, H p = some (.dK vs) ∧ RpK K F ds vs
/-- a def's state: the guard, the slots -/
structure E where
  G : Gd
  sl : List Sl
/-- a def's run: how it began; what is frozen for good (B) -/
structure Fx where
  G : Gd
  H : Hp
  F : Hp
  B : Hp
structure Rel (K : PySem.W.Frag) (C : Fx) (ρ : E) (σ : St) (H F : Hp) : Prop where
  st : Step C.G ρ.G C.H C.F H F
  fl : Same C.B F
  ln : ρ.sl.length = σ.length
  sl : ∃ pa : Nat → Addr, (∀ i j s t, ρ.sl[i]? = some s → ρ.sl[j]? = some t → s.owned = true → t.owned = true → pa i = pa j → i = j) ∧
    ∀ i s, ρ.sl[i]? = some s → SlotAt K C.H ρ.G H F s σ[i]? (pa i)
section
variable {K : PySem.W.Frag} {C : Fx} {ρ : E} {σ : St} {H F H' F' : Hp} {G' : Gd}
theorem SlotAt.step {s : Sl} {o : Option (Option V)} {p : Addr} {G : Gd} {H0 : Hp} (h : SlotAt K H0 G H F s o p) (t : Step G G' H F H' F') : SlotAt K H0 G' H' F' s o p := by
  cases s with
  | un => trivial
  | sh d =>
    obtain ⟨v, e, r⟩ := h
    exact ⟨v, e, Rp.mono t.fe d v r⟩
  | ow ds =>
    obtain ⟨e, n0, n, g, vs, hp, r⟩ := h
    refine ⟨e, n0, ?_, fun z => ?_, vs, t.kp p _ g hp, RpL.mono t.fe ds vs r⟩
    · cases q : F' p with
      | none => rfl
      | some u =>
        have := t.nw p n (ne_none q)
        rw [this] at hp
        cases hp
    · rcases t.ow p z with z | z
      · exact g z
      · rw [z] at hp
        cases hp
  | od ds =>
    obtain ⟨e, n0, n, g, vs, hp, r⟩ := h
    refine ⟨e, n0, ?_, fun z => ?_, vs, t.kp p _ g hp, RpK.mono t.fe ds vs r⟩
    · cases q : F' p with
      | none => rfl
      | some u =>
        have := t.nw p n (ne_none q)
        rw [this] at hp
        cases hp
    · rcases t.ow p z with z | z
      · exact g z
      · rw [z] at hp
        cases hp
theorem Rel.ok (r : Rel K C ρ σ H F) : Ok ρ.G H F := r.st.ok
theorem Rel.step (r : Rel K C ρ σ H F) (t : Step ρ.G G' H F H' F') : Rel K C ⟨G', ρ.sl⟩ σ H' F' := by
  obtain ⟨pa, inj, hs⟩ := r.sl
  exact ⟨r.st.trans t, fun a o h => t.fe a o (r.fl a o h), r.ln, pa, inj, fun i s e => (hs i s e).step t⟩
theorem Rel.get {i : Nat} {d : D} (r : Rel K C ρ σ H F) (e : ρ.sl[i]? = some (.sh d)) : ∃ v, σ[i]? = some (some v) ∧ Rp K F d v := by
  obtain ⟨pa, inj, hs⟩ := r.sl
  exact hs i _ e
theorem set_get {α : Type} {l : List α} {i j : Nat} {x y : α} (e : (l.set i x)[j]? = some y) : (j = i ∧ y = x ∧ i < l.length) ∨ (j ≠ i ∧ l[j]? = some y) := by
  by_cases h : j = i
  · subst h
    rw [List.getElem?_set] at e
    by_cases q : j < l.length
    · rw [if_pos rfl, if_pos q] at e
      cases e
      exact .inl ⟨rfl, rfl, q⟩
    · rw [if_pos rfl, if_neg q] at e
      cases e
  · rw [List.getElem?_set_ne (fun z => h z.symm)] at e
    exact .inr ⟨h, e⟩
/-- one slot is put anew, the heap may have moved on -/
theorem Rel.put {s' : Sl} {o : Option V} {p : Addr} (r : Rel K C ρ σ H F) (i : Nat) (st : Step C.G G' C.H C.F H' F') (fl : Same C.B F')
    (keep : ∀ j s q, j ≠ i → ρ.sl[j]? = some s → (∀ t, ρ.sl[i]? = some t → s.owned = true → t.owned = true → ∀ q', SlotAt K C.H ρ.G H F t σ[i]? q' → q ≠ q') → SlotAt K C.H ρ.G H F s σ[j]? q → SlotAt K C.H G' H' F' s σ[j]? q)
    (new : SlotAt K C.H G' H' F' s' (some o) p) (dis : s'.owned = true → ∀ j s q, j ≠ i → ρ.sl[j]? = some s → s.owned = true → (∀ t, ρ.sl[i]? = some t → s.owned = true → t.owned = true → ∀ q', SlotAt K C.H ρ.G H F t σ[i]? q' → q ≠ q') → SlotAt K C.H ρ.G H F s σ[j]? q → q ≠ p) :
    Rel K C ⟨G', ρ.sl.set i s'⟩ (σ.set i o) H' F' := by
  obtain ⟨pa, inj, hs⟩ := r.sl
  have addr : ∀ {t : Sl} {o : Option (Option V)} {q q' : Addr}, t.owned = true → SlotAt K C.H ρ.G H F t o q → SlotAt K C.H ρ.G H F t o q' → q = q' := by
    intro t o q q' ht h h'
    cases t with
    | un => cases ht
    | sh => cases ht
    | ow =>
      have e1 := h.1
      rw [h'.1] at e1
      injection e1 with e1
      injection e1 with e1
      injection e1 with e1
      exact e1.symm
    | od =>
      have e1 := h.1
      rw [h'.1] at e1
      injection e1 with e1
      injection e1 with e1
      injection e1 with e1
      exact e1.symm
  have apart : ∀ j s, j ≠ i → ρ.sl[j]? = some s → ∀ t, ρ.sl[i]? = some t → s.owned = true → t.owned = true → ∀ q', SlotAt K C.H ρ.G H F t σ[i]? q' → pa j ≠ q' := by
    intro j s hj ej t ei o1 o2 q' hq z
    have := addr o2 (hs i t ei) hq
    exact hj (inj j i s t ej ei o1 o2 (z.trans this.symm))
  refine ⟨st, fl, by rw [List.length_set, List.length_set]; exact r.ln, fun j => if j = i then p else pa j, fun j k s t e1 e2 o1 o2 e => ?_, fun j s e => ?_⟩
  · have e1' : (ρ.sl.set i s')[j]? = some s := e1
    have e2' : (ρ.sl.set i s')[k]? = some t := e2
    rcases set_get e1' with ⟨hj, es, _⟩ | ⟨hj, e1⟩
    · rcases set_get e2' with ⟨hk, et, _⟩ | ⟨hk, e2⟩
      · rw [hj, hk]
      · simp only [if_pos hj, if_neg hk] at e
        exact absurd e.symm (dis (es ▸ o1) k t _ hk e2 o2 (apart k t hk e2) (hs k t e2))
    · rcases set_get e2' with ⟨hk, et, _⟩ | ⟨hk, e2⟩
      · simp only [if_pos hk, if_neg hj] at e
        exact absurd e (dis (et ▸ o2) j s _ hj e1 o1 (apart j s hj e1) (hs j s e1))
      · simp only [if_neg hj, if_neg hk] at e
        exact inj j k s t e1 e2 o1 o2 e
  · have e' : (ρ.sl.set i s')[j]? = some s := e
    rcases set_get e' with ⟨hj, es, hl⟩ | ⟨hj, e⟩
    · subst hj es
      show SlotAt K C.H G' H' F' s (σ.set j o)[j]? (if j = j then p else pa j)
      rw [if_pos rfl, List.getElem?_set_self (by rw [← r.ln]; exact hl)]
      exact new
    · show SlotAt K C.H G' H' F' s (σ.set i o)[j]? (if j = i then p else pa j)
      rw [if_neg hj, List.getElem?_set_ne (fun z => hj z.symm)]
      exact keep j s _ hj e (apart j s hj e) (hs j s e)
/-- a slot set to a value that stands for d -/
theorem Rel.set {i : Nat} {d : D} {v : V} (r : Rel K C ρ σ H F) (h : Rp K F d v) : Rel K C ⟨ρ.G, ρ.sl.set i (.sh d)⟩ (σ.set i (some v)) H F :=
  r.put (p := 0) i r.st r.fl (fun _ _ _ _ _ _ h => h) ⟨v, rfl, h⟩ (fun z => nomatch z)
/-- a slot forgotten -/
theorem Rel.drop (r : Rel K C ρ σ H F) (i : Nat) (o : Option V) : Rel K C ⟨ρ.G, ρ.sl.set i .un⟩ (σ.set i o) H F :=
  r.put (p := 0) i r.st r.fl (fun _ _ _ _ _ _ h => h) trivial (fun z => nomatch z)
/-- another floor -/
theorem Rel.floor {B : Hp} (r : Rel K C ρ σ H F) (h : Same B F) : Rel K { C with B := B } ρ σ H F := ⟨r.st, h, r.ln, r.sl⟩
/-- what an owned slot holds -/
theorem Rel.own {i : Nat} {ds : List D} (r : Rel K C ρ σ H F) (e : ρ.sl[i]? = some (.ow ds)) : ∃ p vs, σ[i]? = some (some (.ref p)) ∧ C.H p = none ∧ F p = none ∧ ¬ ρ.G.own p ∧ H p = some (.lst vs) ∧ RpL K F ds vs := by
  obtain ⟨pa, inj, hs⟩ := r.sl
  obtain ⟨h1, h0, h2, h3, vs, h4, h5⟩ := hs i _ e
  exact ⟨pa i, vs, h1, h0, h2, h3, h4, h5⟩
/-- a new object that is not frozen -/
theorem Ok.loose {G : Gd} {p : Addr} {o : HO} (ok : Ok G H F) (hp : H p = none) : Step G G H F (upd H p o) F := by
  have fp : F p = none := by
    cases e : F p with
    | none => rfl
    | some u => rw [ok.fh p u e] at hp; cases hp
  refine ⟨fun _ _ h => h, fun a u h => ?_, fun a h q => absurd h q, fun a u _ h => ?_, fun a h => ?_, ?_, fun _ h => .inl h, ok.fo, fun a h => ?_⟩
  · rw [upd_ne (ne_of_none h fp)]
    exact ok.fh a u h
  · rw [upd_ne (ne_of_none h hp)]
    exact h
  · by_cases e : a = p
    · subst e
      exact absurd hp h
    · rw [upd_ne e]
      exact h
  · refine G.st H _ ok.iv fun a u _ h => ?_
    rw [upd_ne (ne_of_none h hp)]
    exact h
  · by_cases e : a = p
    · subst e
      exact absurd hp (ok.ex a h)
    · rw [upd_ne e]
      exact ok.ex a h
/-- a new list, owned by slot i -/
theorem Rel.newOwn {i : Nat} {ds : List D} {vs : List V} {p : Addr} (r : Rel K C ρ σ H F) (hp : H p = none) (h : RpL K F ds vs) : Rel K C ⟨ρ.G, ρ.sl.set i (.ow ds)⟩ (σ.set i (some (.ref p))) (upd H p (.lst vs)) F := by
  have ok := r.ok
  have fp : F p = none := by
    cases e : F p with
    | none => rfl
    | some u => rw [ok.fh p u e] at hp; cases hp
  have n0 : C.H p = none := by
    cases e : C.H p with
    | none => rfl
    | some u => exact absurd hp (r.st.dm p (ne_none e))
  have gp : ¬ ρ.G.own p := fun z => ok.ex p z hp
  have st := ok.loose (o := .lst vs) hp
  refine r.put (p := p) i (r.st.trans st) r.fl (fun j s q _ _ _ h => h.step st) ⟨rfl, n0, fp, gp, vs, upd_same, h⟩ fun _ j s q _ _ hs _ hq z => ?_
  cases s with
  | un => cases hs
  | sh => cases hs
  | ow ds' =>
    obtain ⟨_, _, _, _, ws, hw, _⟩ := hq
    rw [z, hp] at hw
    cases hw
  | od ds' =>
    obtain ⟨_, _, _, _, ws, hw, _⟩ := hq
    rw [z, hp] at hw
    cases hw
theorem set_self {α : Type} {l : List α} {i : Nat} {x : α} (h : l[i]? = some x) : l.set i x = l := by
  apply List.ext_getElem?
  intro j
  by_cases e : i = j
  · subst e
    rw [List.getElem?_set_self (List.getElem?_eq_some_iff.mp h).1, h]
  · rw [List.getElem?_set_ne e]
/-- the list of slot i is changed -/
theorem Rel.setOwn {i : Nat} {ds ds' : List D} {vs : List V} (r : Rel K C ρ σ H F) (e : ρ.sl[i]? = some (.ow ds)) {p : Addr} (hp : σ[i]? = some (some (.ref p))) (h : RpL K F ds' vs) : Rel K C ⟨ρ.G, ρ.sl.set i (.ow ds')⟩ σ (upd H p (.lst vs)) F := by
  obtain ⟨p', us, hp', h0, fp, gp, hpp, _⟩ := r.own e
  have epa : p = p' := by
    rw [hp] at hp'
    injection hp' with h1
    injection h1 with h1
    injection h1
  subst epa
  have q := r.st
  have st : Step C.G ρ.G C.H C.F (upd H p (.lst vs)) F := by
    refine ⟨q.fe, fun a u h => ?_, q.nw, fun a u g h => ?_, fun a h => ?_, ?_, q.ow, q.fo, fun a h => ?_⟩
    · rw [upd_ne (ne_of_none h fp)]
      exact q.fh a u h
    · rw [upd_ne (ne_of_none h h0)]
      exact q.kp a u g h
    · by_cases z : a = p
      · subst z
        rw [upd_same]
        exact fun z => nomatch z
      · rw [upd_ne z]
        exact q.dm a h
    · refine ρ.G.st H _ q.iv fun a u g h => ?_
      have ne : a ≠ p := fun z => gp (by rw [← z]; exact g)
      rw [upd_ne ne]
      exact h
    · by_cases z : a = p
      · subst z
        rw [upd_same]
        exact fun z => nomatch z
      · rw [upd_ne z]
        exact q.ex a h
  have own1 : SlotAt K C.H ρ.G H F (.ow ds) σ[i]? p := ⟨hp, h0, fp, gp, us, hpp, by assumption⟩
  have key := r.put (s' := .ow ds') (o := some (.ref p)) (p := p) i st r.fl (fun j s q hj ej ap hs => ?_) ⟨rfl, h0, fp, gp, vs, upd_same, h⟩ (fun _ j s q hj ej hs ap hq => ap _ e hs rfl p own1)
  · rw [set_self hp] at key
    exact key
  · cases s with
    | un => trivial
    | sh d => exact hs
    | ow ds' =>
      obtain ⟨a1, a2, a3, a4, ws, a5, a6⟩ := hs
      have ne : q ≠ p := ap _ e rfl rfl p own1
      exact ⟨a1, a2, a3, a4, ws, by rw [upd_ne ne]; exact a5, a6⟩
    | od ds' =>
      obtain ⟨a1, a2, a3, a4, ws, a5, a6⟩ := hs
      have ne : q ≠ p := ap _ e rfl rfl p own1
      exact ⟨a1, a2, a3, a4, ws, by rw [upd_ne ne]; exact a5, a6⟩
/-- the list of slot i is frozen from now on -/
theorem Rel.freeze {i : Nat} {ds : List D} (r : Rel K C ρ σ H F) (e : ρ.sl[i]? = some (.ow ds)) : ∃ p vs, σ[i]? = some (some (.ref p)) ∧ Rel K C ⟨ρ.G, ρ.sl.set i (.sh (.lst ds))⟩ σ H (upd F p (.lst vs)) ∧ Rp K (upd F p (.lst vs)) (.lst ds) (.ref p) ∧ C.H p = none := by
  obtain ⟨p, us, hp, h0, fp, gp, hpp, hl⟩ := r.own e
  have q := r.st
  have fe : Same F (upd F p (.lst us)) := fun a o h => by rw [upd_ne (ne_of_none h fp)]; exact h
  have st : Step C.G ρ.G C.H C.F H (upd F p (.lst us)) := by
    refine ⟨fun a o h => fe a o (q.fe a o h), fun a u h => ?_, fun a h z => ?_, q.kp, q.dm, q.iv, q.ow, fun a g => ?_, q.ex⟩
    · by_cases z : a = p
      · subst z
        rw [upd_same] at h
        rw [← h]
        exact hpp
      · rw [upd_ne z] at h
        exact q.fh a u h
    · by_cases y : a = p
      · subst y
        exact h0
      · rw [upd_ne y] at z
        exact q.nw a h z
    · by_cases z : a = p
      · subst z
        exact absurd g gp
      · rw [upd_ne z]
        exact q.fo a g
  have rp : Rp K (upd F p (.lst us)) (.lst ds) (.ref p) := by
    rw [Rp]
    exact ⟨p, us, rfl, upd_same, RpL.mono fe _ _ hl⟩
  have own1 : SlotAt K C.H ρ.G H F (.ow ds) σ[i]? p := ⟨hp, h0, fp, gp, us, hpp, hl⟩
  have key := r.put (s' := .sh (.lst ds)) (o := some (.ref p)) (p := p) i st (fun a o h => fe a o (r.fl a o h)) (fun j s q hj ej ap hs => ?_) ⟨.ref p, rfl, rp⟩ (fun z => nomatch z)
  · rw [set_self hp] at key
    exact ⟨p, us, hp, key, rp, h0⟩
  · cases s with
    | un => trivial
    | sh d =>
      obtain ⟨v, a1, a2⟩ := hs
      exact ⟨v, a1, Rp.mono fe _ _ a2⟩
    | ow ds' =>
      obtain ⟨a1, a2, a3, a4, ws, a5, a6⟩ := hs
      have ne : q ≠ p := ap _ e rfl rfl p own1
      exact ⟨a1, a2, by rw [upd_ne ne]; exact a3, a4, ws, a5, RpL.mono fe _ _ a6⟩
    | od ds' =>
      obtain ⟨a1, a2, a3, a4, ws, a5, a6⟩ := hs
      have ne : q ≠ p := ap _ e rfl rfl p own1
      exact ⟨a1, a2, by rw [upd_ne ne]; exact a3, a4, ws, a5, RpK.mono fe _ _ a6⟩
end
end DL

set_option maxRecDepth 100000
set_option maxHeartbeats 4000000
namespace DL
open PySem L2

/-! ### the readings that say all -/
def cE (X : Cx) (e : Expr) : TE := fun σ H R => ∀ pins s, Inv X pins σ H s → wpAny (model X.prog X.w) X.A (eval e X.env) (EP X pins σ R) X.xe s
def cT (X : Cx) (e : Expr) : TT := fun σ H R => ∀ pins s, Inv X pins σ H s → wpAny (model X.prog X.w) X.A (isTrue e X.env (eval e X.env)) (TP X pins σ R) X.xe s
def cA (X : Cx) (es : List Expr) : TA := fun σ H R => ∀ pos pins s, Inv X pins σ H s → wpAny (model X.prog X.w) X.A (spliced (backTo pos (starEach es X.env))) (AP X pins σ R) X.xe s
def cS (X : Cx) (st : Stmt) : TS := fun D σ H => ∀ pins s, Inv X pins σ H s → wpAny (model X.prog X.w) X.A (exec st X.env) (SP X pins D) X.xe s
def cSs (X : Cx) (st : List Stmt) : TS := fun D σ H => ∀ pins s, Inv X pins σ H s → wpAny (model X.prog X.w) X.A (execs st X.env) (SP X pins D) X.xe s
section
variable {X : Cx} {σ : St} {H : Hp}
theorem pe_c (e : Expr) : PE X e (cE X e) := ⟨fun pins s _ _ _ I h => h pins s I⟩
theorem pt_c (e : Expr) : PT X e (cT X e) := ⟨fun pins s _ _ _ I h => h pins s I⟩
theorem pa_c (e : List Expr) : PA X e (cA X e) := ⟨fun pos pins s _ _ _ I h => h pos pins s I⟩
theorem ps_c (e : Stmt) : PS X e (cS X e) := ⟨fun pins s _ _ _ I h => h pins s I⟩
theorem pss_c (e : List Stmt) : PSs X e (cSs X e) := ⟨fun pins s _ _ _ I h => h pins s I⟩
theorem cE_of {e : Expr} {t : TE} {R : VK} (h : PE X e t) (q : t σ H R) : cE X e σ H R := fun pins s I => h.run pins s σ H R I q
theorem cT_of {e : Expr} {t : TT} {R : Bool → Hp → Prop} (h : PT X e t) (q : t σ H R) : cT X e σ H R := fun pins s I => h.run pins s σ H R I q
theorem cA_of {e : List Expr} {t : TA} {R : List V → Hp → Prop} (h : PA X e t) (q : t σ H R) : cA X e σ H R := fun pos pins s I => h.run pos pins s σ H R I q
theorem cS_of {e : Stmt} {t : TS} {D : Ends} (h : PS X e t) (q : t D σ H) : cS X e D σ H := fun pins s I => h.run pins s σ H D I q
theorem cSs_of {e : List Stmt} {t : TS} {D : Ends} (h : PSs X e t) (q : t D σ H) : cSs X e D σ H := fun pins s I => h.run pins s σ H D I q
theorem cE_mono {e : Expr} {R R' : VK} (h : cE X e σ H R) (k : ∀ v H', R v H' → R' v H') : cE X e σ H R' := fun pins s I =>
  thn (h pins s I) fun _ _ ⟨v, H', I', r, q⟩ => ⟨v, H', I', r, k v H' q⟩
theorem cT_mono {e : Expr} {R R' : Bool → Hp → Prop} (h : cT X e σ H R) (k : ∀ v H', R v H' → R' v H') : cT X e σ H R' := fun pins s I =>
  thn (h pins s I) fun b _ ⟨H', I', q⟩ => ⟨H', I', k b H' q⟩
theorem cA_mono {e : List Expr} {R R' : List V → Hp → Prop} (h : cA X e σ H R) (k : ∀ v H', R v H' → R' v H') : cA X e σ H R' := fun pos pins s I =>
  thn (h pos pins s I) fun _ _ ⟨v, H', I', r, q⟩ => ⟨v, H', I', r, k v H' q⟩
theorem cS_mono {e : Stmt} {D D' : Ends} (h : cS X e D σ H) (k1 : ∀ σ H, D.nx σ H → D'.nx σ H) (k2 : ∀ v H, D.rt v H → D'.rt v H) (k3 : ∀ σ H, D.bk σ H → D'.bk σ H) (k4 : ∀ σ H, D.ct σ H → D'.ct σ H) : cS X e D' σ H := fun pins s I =>
  thn (h pins s I) fun f _ q => by
    cases f with
    | next => obtain ⟨σ', H', I', q⟩ := q; exact ⟨σ', H', I', k1 _ _ q⟩
    | brk => obtain ⟨σ', H', I', q⟩ := q; exact ⟨σ', H', I', k3 _ _ q⟩
    | cont => obtain ⟨σ', H', I', q⟩ := q; exact ⟨σ', H', I', k4 _ _ q⟩
    | ret u => obtain ⟨v, σ', H', I', r, q⟩ := q; exact ⟨v, σ', H', I', r, k2 _ _ q⟩
theorem cSs_mono {e : List Stmt} {D D' : Ends} (h : cSs X e D σ H) (k1 : ∀ σ H, D.nx σ H → D'.nx σ H) (k2 : ∀ v H, D.rt v H → D'.rt v H) (k3 : ∀ σ H, D.bk σ H → D'.bk σ H) (k4 : ∀ σ H, D.ct σ H → D'.ct σ H) : cSs X e D' σ H := fun pins s I =>
  thn (h pins s I) fun f _ q => by
    cases f with
    | next => obtain ⟨σ', H', I', q⟩ := q; exact ⟨σ', H', I', k1 _ _ q⟩
    | brk => obtain ⟨σ', H', I', q⟩ := q; exact ⟨σ', H', I', k3 _ _ q⟩
    | cont => obtain ⟨σ', H', I', q⟩ := q; exact ⟨σ', H', I', k4 _ _ q⟩
    | ret u => obtain ⟨v, σ', H', I', r, q⟩ := q; exact ⟨v, σ', H', I', r, k2 _ _ q⟩
end

/-! ### the judgements over data -/
def RE (K : PySem.W.Frag) (G : Gd) (H F : Hp) (Q : Gd → D → Prop) : VK := fun v H' => ∃ G' d F', Step G G' H F H' F' ∧ Rp K F' d v ∧ Q G' d
def RT (G : Gd) (H F : Hp) (Q : Gd → Bool → Prop) : Bool → Hp → Prop := fun b H' => ∃ G' F', Step G G' H F H' F' ∧ Q G' b
def RA (K : PySem.W.Frag) (G : Gd) (H F : Hp) (Q : Gd → List D → Prop) : List V → Hp → Prop := fun vs H' => ∃ G' ds F', Step G G' H F H' F' ∧ RpL K F' ds vs ∧ Q G' ds
structure WE (X : Cx) (C : Fx) (e : Expr) (ρ : E) (Q : Gd → D → Prop) : Prop where
  run : ∀ σ H F, Rel X.K C ρ σ H F → cE X e σ H (RE X.K ρ.G H F Q)
structure WT (X : Cx) (C : Fx) (e : Expr) (ρ : E) (Q : Gd → Bool → Prop) : Prop where
  run : ∀ σ H F, Rel X.K C ρ σ H F → cT X e σ H (RT ρ.G H F Q)
structure WA (X : Cx) (C : Fx) (es : List Expr) (ρ : E) (Q : Gd → List D → Prop) : Prop where
  run : ∀ σ H F, Rel X.K C ρ σ H F → cA X es σ H (RA X.K ρ.G H F Q)
structure En where
  nx : E → Prop
  rt : Gd → D → Prop
  bk : E → Prop := fun _ => False
  ct : E → Prop := fun _ => False
def ends (K : PySem.W.Frag) (C : Fx) (N : En) : Ends where
  nx := fun σ H => ∃ ρ F, Rel K C ρ σ H F ∧ N.nx ρ
  rt := fun v H => (∃ G d F, Step C.G G C.H C.F H F ∧ Rp K F d v ∧ N.rt G d) ∨ ∃ G es F p us, v = .ref p ∧ Step C.G G C.H C.F H F ∧ C.H p = none ∧ F p = none ∧ ¬ G.own p ∧ H p = some (.lst us) ∧ RpL K F es us ∧ N.rt G (.own es)
  bk := fun σ H => ∃ ρ F, Rel K C ρ σ H F ∧ N.bk ρ
  ct := fun σ H => ∃ ρ F, Rel K C ρ σ H F ∧ N.ct ρ
structure WS (X : Cx) (C : Fx) (st : Stmt) (ρ : E) (N : En) : Prop where
  run : ∀ σ H F, Rel X.K C ρ σ H F → cS X st (ends X.K C N) σ H
structure WSs (X : Cx) (C : Fx) (st : List Stmt) (ρ : E) (N : En) : Prop where
  run : ∀ σ H F, Rel X.K C ρ σ H F → cSs X st (ends X.K C N) σ H

/-! ### operations over data -/
/-- r, a two-place operation of values, does p over data -/
def DOp (K : PySem.W.Frag) (r : R2) (p : D → D → (D → Prop) → Prop) : Prop := ∀ (G : Gd) (H F : Hp) (v1 v2 : V) (d1 d2 : D) (Q : D → Prop) (R : VK), Ok G H F → Rp K F d1 v1 → Rp K F d2 v2 → p d1 d2 Q →
  (∀ v H' d F', Step G G H F H' F' → Rp K F' d v → Q d → R v H') → r v1 v2 H R
def DUn (K : PySem.W.Frag) (r : V → Hp → VK → Prop) (p : D → (D → Prop) → Prop) : Prop := ∀ (G : Gd) (H F : Hp) (v1 : V) (d1 : D) (Q : D → Prop) (R : VK), Ok G H F → Rp K F d1 v1 → p d1 Q →
  (∀ v H' d F', Step G G H F H' F' → Rp K F' d v → Q d → R v H') → r v1 H R
def DCl (K : PySem.W.Frag) (r : List V → Hp → VK → Prop) (p : List D → (D → Prop) → Prop) : Prop := ∀ (G : Gd) (H F : Hp) (vs : List V) (ds : List D) (Q : D → Prop) (R : VK), Ok G H F → RpL K F ds vs → p ds Q →
  (∀ v H' d F', Step G G H F H' F' → Rp K F' d v → Q d → R v H') → r vs H R

section
variable {X : Cx} {C : Fx} {γ : Gd} {sl : List Sl} {Q : Gd → D → Prop} {a b c : Expr} {pos : Pos}
theorem WE.mono {e : Expr} {Q' : Gd → D → Prop} (h : WE X C e ⟨γ, sl⟩ Q) (k : ∀ G d, Q G d → Q' G d) : WE X C e ⟨γ, sl⟩ Q' := .mk fun σ H F r =>
  cE_mono (h.run σ H F r) fun _ _ ⟨G', d, F', s, q, z⟩ => ⟨G', d, F', s, q, k _ _ z⟩
theorem we_var {i : Nat} {x : Str} {d : D} (hN : X.N[i]? = some x) (hv : Vis X.env.scope x) (hd : (x == ("__debug__" : Str)) = false) (hcd : (x == ("__classdict__" : Str)) = false) (hs : sl[i]? = some (.sh d)) (q : Q γ d) : WE X C (.Name x pos) ⟨γ, sl⟩ Q := .mk fun σ H F r => by
  obtain ⟨v, e, h⟩ := r.get hs
  exact cE_of (pe_var hN hv hd hcd) ⟨v, e, γ, d, F, r.ok.refl, h, q⟩
theorem we_int {i : Int} {j : Nat} (q : Q γ (.int i)) : WE X C (.Constant (.int i) j pos) ⟨γ, sl⟩ Q := .mk fun σ H F r => cE_of pe_int ⟨γ, _, F, r.ok.refl, by rw [Rp], q⟩
theorem we_bl {i : Bool} {j : Nat} (q : Q γ (.bl i)) : WE X C (.Constant (.bool i) j pos) ⟨γ, sl⟩ Q := .mk fun σ H F r => cE_of pe_bl ⟨γ, _, F, r.ok.refl, by rw [Rp], q⟩
theorem we_non {j : Nat} (q : Q γ .non) : WE X C (.Constant .none j pos) ⟨γ, sl⟩ Q := .mk fun σ H F r => cE_of pe_non ⟨γ, _, F, r.ok.refl, by rw [Rp], q⟩
theorem we_str {i : Str} {j : Nat} (q : Q γ (.str i)) : WE X C (.Constant (.str i) j pos) ⟨γ, sl⟩ Q := .mk fun σ H F r => cE_of pe_str ⟨γ, _, F, r.ok.refl, by rw [Rp], q⟩
/-- a module's constant -/
theorem we_glob {x : Str} {v : V} {u : Value} {d : D} (hg : Gl X x) (hm : X.mg x = some u) (hr : RelV v u) (hd : (x == ("__debug__" : Str)) = false) (hk : ∀ F, Rp X.K F d v) (q : Q γ d) : WE X C (.Name x pos) ⟨γ, sl⟩ Q := .mk fun σ H F r =>
  cE_of (pe_glob hg hm hr hd) ⟨γ, d, F, r.ok.refl, hk F, q⟩
theorem we_op {op : Operator} {r : R2} {p : D → D → (D → Prop) → Prop} (ho : OpR X (binaryOp op) r) (hd : DOp X.K r p) (h : WE X C a ⟨γ, sl⟩ fun G x => WE X C b ⟨G, sl⟩ fun G' y => p x y (Q G')) : WE X C (.BinOp a op b pos) ⟨γ, sl⟩ Q := .mk fun σ H F r => by
  refine cE_of (pe_op ho (pe_c a) (pe_c b)) ?_
  refine cE_mono (h.run σ H F r) fun v H1 ⟨G1, d1, F1, s1, r1, h1⟩ => ?_
  refine cE_mono (h1.run σ H1 F1 (r.step s1)) fun u H2 ⟨G2, d2, F2, s2, r2, h2⟩ => ?_
  refine hd G2 H2 F2 v u d1 d2 (Q G2) _ s2.ok (Rp.mono s2.fe _ _ r1) r2 h2 fun w H3 d F3 s3 r3 q => ?_
  exact ⟨G2, d, F3, (s1.trans s2).trans s3, r3, q⟩
theorem we_un {op : UnaryOp} {r : V → Hp → VK → Prop} {p : D → (D → Prop) → Prop} (ho : UnR X (unaryOp op) r) (hd : DUn X.K r p) (h : WE X C a ⟨γ, sl⟩ fun G x => p x (Q G)) : WE X C (.UnaryOp op a pos) ⟨γ, sl⟩ Q := .mk fun σ H F r => by
  refine cE_of (pe_un ho (pe_c a)) ?_
  refine cE_mono (h.run σ H F r) fun v H1 ⟨G1, d1, F1, s1, r1, h1⟩ => ?_
  refine hd G1 H1 F1 v d1 (Q G1) _ s1.ok r1 h1 fun w H3 d F3 s3 r3 q => ?_
  exact ⟨G1, d, F3, s1.trans s3, r3, q⟩
theorem we_cmp {op : CmpOp} {r : R2} {p : D → D → (D → Prop) → Prop} (ho : OpR X (compareOp op) r) (hd : DOp X.K r p) (hm : behindInMarks op b = false) (h : WE X C a ⟨γ, sl⟩ fun G x => WE X C b ⟨G, sl⟩ fun G' y => p x y (Q G')) : WE X C (.Compare a [op] [b] pos) ⟨γ, sl⟩ Q := .mk fun σ H F r => by
  refine cE_of (pe_cmpR ho (pe_c a) (pe_c b) hm) ?_
  refine cE_mono (h.run σ H F r) fun v H1 ⟨G1, d1, F1, s1, r1, h1⟩ => ?_
  refine cE_mono (h1.run σ H1 F1 (r.step s1)) fun u H2 ⟨G2, d2, F2, s2, r2, h2⟩ => ?_
  refine hd G2 H2 F2 v u d1 d2 (Q G2) _ s2.ok (Rp.mono s2.fe _ _ r1) r2 h2 fun w H3 d F3 s3 r3 q => ?_
  exact ⟨G2, d, F3, (s1.trans s2).trans s3, r3, q⟩
theorem we_ix {r : R2} {p : D → D → (D → Prop) → Prop} (ho : IxR X r) (hd : DOp X.K r p) (hm : PlainIx b) (h : WE X C a ⟨γ, sl⟩ fun G x => WE X C b ⟨G, sl⟩ fun G' y => p x y (Q G')) : WE X C (.Subscript a b pos) ⟨γ, sl⟩ Q := .mk fun σ H F r => by
  refine cE_of (pe_ix ho (pe_c a) (pe_c b) hm) ?_
  refine cE_mono (h.run σ H F r) fun v H1 ⟨G1, d1, F1, s1, r1, h1⟩ => ?_
  refine cE_mono (h1.run σ H1 F1 (r.step s1)) fun u H2 ⟨G2, d2, F2, s2, r2, h2⟩ => ?_
  refine hd G2 H2 F2 v u d1 d2 (Q G2) _ s2.ok (Rp.mono s2.fe _ _ r1) r2 h2 fun w H3 d F3 s3 r3 q => ?_
  exact ⟨G2, d, F3, (s1.trans s2).trans s3, r3, q⟩
theorem wa_nil {Q : Gd → List D → Prop} (q : Q γ []) : WA X C [] ⟨γ, sl⟩ Q := .mk fun σ H F r => cA_of pa_nil ⟨γ, [], F, r.ok.refl, RpL.nil, q⟩
theorem wa_cons {Q : Gd → List D → Prop} {es : List Expr} (hs : starEach (a :: es) X.env = (false, eval a X.env) :: starEach es X.env) (h : WE X C a ⟨γ, sl⟩ fun G x => WA X C es ⟨G, sl⟩ fun G' ys => Q G' (x :: ys)) : WA X C (a :: es) ⟨γ, sl⟩ Q := .mk fun σ H F r => by
  refine cA_of (pa_cons (pe_c a) (pa_c es) hs) ?_
  refine cE_mono (h.run σ H F r) fun v H1 ⟨G1, d1, F1, s1, r1, h1⟩ => ?_
  refine cA_mono (h1.run σ H1 F1 (r.step s1)) fun u H2 ⟨G2, d2, F2, s2, r2, h2⟩ => ?_
  exact ⟨G2, d1 :: d2, F2, s1.trans s2, RpL.cons (Rp.mono s2.fe _ _ r1) r2, h2⟩
theorem size_ok {n : Nat} (h : n ≤ 1000000) : n ≤ sizeLine := Nat.le_trans h (by decide)
theorem we_lst {es : List Expr} (h : WA X C es ⟨γ, sl⟩ fun G ds => ds.length ≤ 1000000 ∧ Q G (.lst ds)) : WE X C (.List es pos) ⟨γ, sl⟩ Q := .mk fun σ H F r => by
  refine cE_of (pe_lst (pa_c es)) ?_
  refine cA_mono (h.run σ H F r) fun vs H1 ⟨G1, ds, F1, s1, r1, hl, q⟩ => ⟨by rw [r1.length]; exact size_ok hl, fun p hp => ?_⟩
  refine ⟨G1, _, _, s1.trans (s1.ok.laid hp), ?_, q⟩
  rw [Rp]
  exact ⟨p, vs, rfl, upd_same, RpL.mono (s1.ok.laid hp).fe _ _ r1⟩
theorem we_tup {es : List Expr} {k : Nat} (h : WA X C es ⟨γ, sl⟩ fun G ds => ds.length ≤ 1000000 ∧ Q G (.tup ds)) : WE X C (.Tuple es k pos) ⟨γ, sl⟩ Q := .mk fun σ H F r => by
  refine cE_of (pe_tup (pa_c es)) ?_
  refine cA_mono (h.run σ H F r) fun vs H1 ⟨G1, ds, F1, s1, r1, hl, q⟩ => ⟨by rw [r1.length]; exact size_ok hl, fun p hp => ?_⟩
  refine ⟨G1, _, _, s1.trans (s1.ok.laid hp), ?_, q⟩
  rw [Rp]
  exact ⟨p, vs, rfl, SqT.of upd_same, RpL.mono (s1.ok.laid hp).fe _ _ r1⟩
/-- tests -/
theorem WT.mono {e : Expr} {Q Q' : Gd → Bool → Prop} (h : WT X C e ⟨γ, sl⟩ Q) (k : ∀ G d, Q G d → Q' G d) : WT X C e ⟨γ, sl⟩ Q' := .mk fun σ H F r =>
  cT_mono (h.run σ H F r) fun _ _ ⟨G', F', s, z⟩ => ⟨G', F', s, k _ _ z⟩
variable {QT : Gd → Bool → Prop}
theorem wt_cmp {op : CmpOp} {r : R2} {p : D → D → (D → Prop) → Prop} (ho : OpR X (compareOp op) r) (hd : DOp X.K r p) (hm : behindInMarks op b = false) (h : WE X C a ⟨γ, sl⟩ fun G x => WE X C b ⟨G, sl⟩ fun G' y => p x y fun z => ∃ k, z = .bl k ∧ QT G' k) : WT X C (.Compare a [op] [b] pos) ⟨γ, sl⟩ QT := .mk fun σ H F r => by
  refine cT_of (pt_cmpR ho (pe_c a) (pe_c b) hm) ?_
  refine cE_mono (h.run σ H F r) fun v H1 ⟨G1, d1, F1, s1, r1, h1⟩ => ?_
  refine cE_mono (h1.run σ H1 F1 (r.step s1)) fun u H2 ⟨G2, d2, F2, s2, r2, h2⟩ => ?_
  refine hd G2 H2 F2 v u d1 d2 _ _ s2.ok (Rp.mono s2.fe _ _ r1) r2 h2 fun w H3 d F3 s3 r3 q => ?_
  obtain ⟨k, rfl, q⟩ := q
  rw [Rp] at r3
  exact ⟨k, r3, G2, F3, (s1.trans s2).trans s3, q⟩
/-- an expression that gives a bool, as a test -/
theorem wt_val {e : Expr} (he : ∀ whole, isTrue e X.env whole = (do let v ← whole; standAt e.pos; holding [v] (truthy v))) (h : WE X C e ⟨γ, sl⟩ fun G x => ∃ k, x = .bl k ∧ QT G k) : WT X C e ⟨γ, sl⟩ QT := .mk fun σ H F r => by
  refine cT_of (pt_val (pe_c e) he) ?_
  refine cE_mono (h.run σ H F r) fun v H1 ⟨G1, d1, F1, s1, r1, k, e1, h1⟩ => ?_
  subst e1
  rw [Rp] at r1
  exact ⟨k, r1, G1, F1, s1, h1⟩
theorem wt_not (h : WT X C a ⟨γ, sl⟩ fun G x => QT G (!x)) : WT X C (.UnaryOp .Not a pos) ⟨γ, sl⟩ QT := .mk fun σ H F r => by
  refine cT_of (pt_not (pt_c a)) ?_
  exact cT_mono (h.run σ H F r) fun b H1 ⟨G1, F1, s1, h1⟩ => ⟨G1, F1, s1, h1⟩
/-- a test whatever its whole is -/
structure WW (X : Cx) (C : Fx) (e : Expr) (ρ : E) (Q : Gd → Bool → Prop) : Prop where
  run : ∀ σ H F, Rel X.K C ρ σ H F → ∀ whole pins s, Inv X pins σ H s → wpAny (model X.prog X.w) X.A (isTrue e X.env whole) (TP X pins σ (RT ρ.G H F Q)) X.xe s
def cW (X : Cx) (e : Expr) : TT := fun σ H R => ∀ whole pins s, Inv X pins σ H s → wpAny (model X.prog X.w) X.A (isTrue e X.env whole) (TP X pins σ R) X.xe s
theorem pw_c (e : Expr) : PW X e (cW X e) := ⟨fun wh pins s _ _ _ I h => h wh pins s I⟩
theorem cW_of {e : Expr} {t : TT} {σ : St} {H : Hp} {R : Bool → Hp → Prop} (h : PW X e t) (q : t σ H R) : cW X e σ H R := fun wh pins s I => h.run wh pins s σ H R I q
theorem cW_mono {e : Expr} {σ : St} {H : Hp} {R R' : Bool → Hp → Prop} (h : cW X e σ H R) (k : ∀ v H', R v H' → R' v H') : cW X e σ H R' := fun wh pins s I =>
  thn (h wh pins s I) fun b _ ⟨H', I', q⟩ => ⟨H', I', k b H' q⟩
theorem wt_w (h : WW X C a ⟨γ, sl⟩ QT) : WT X C a ⟨γ, sl⟩ QT := .mk fun σ H F r pins s I => h.run σ H F r _ pins s I
theorem ww_and1 (h : WT X C a ⟨γ, sl⟩ QT) : WW X C (.BoolOp .And [a] pos) ⟨γ, sl⟩ QT := .mk fun σ H F r => cW_of (pw_and1 (pt_c a)) (h.run σ H F r)
theorem ww_or1 (h : WT X C a ⟨γ, sl⟩ QT) : WW X C (.BoolOp .Or [a] pos) ⟨γ, sl⟩ QT := .mk fun σ H F r => cW_of (pw_or1 (pt_c a)) (h.run σ H F r)
theorem ww_and {rest : List Expr} (h : WT X C a ⟨γ, sl⟩ fun G x => if x = true then WW X C (.BoolOp .And (b :: rest) pos) ⟨G, sl⟩ QT else QT G false) : WW X C (.BoolOp .And (a :: b :: rest) pos) ⟨γ, sl⟩ QT := .mk fun σ H F r =>
  cW_of (pw_and (pt_c a) (pw_c _)) (cT_mono (h.run σ H F r) fun k H1 ⟨G1, F1, s1, h1⟩ => by
    cases k with
    | true => exact cW_mono (h1.run σ H1 F1 (r.step s1)) fun b H2 ⟨G2, F2, s2, h2⟩ => ⟨G2, F2, s1.trans s2, h2⟩
    | false => exact ⟨G1, F1, s1, h1⟩)
theorem ww_or {rest : List Expr} (h : WT X C a ⟨γ, sl⟩ fun G x => if x = true then QT G true else WW X C (.BoolOp .Or (b :: rest) pos) ⟨G, sl⟩ QT) : WW X C (.BoolOp .Or (a :: b :: rest) pos) ⟨γ, sl⟩ QT := .mk fun σ H F r =>
  cW_of (pw_or (pt_c a) (pw_c _)) (cT_mono (h.run σ H F r) fun k H1 ⟨G1, F1, s1, h1⟩ => by
    cases k with
    | false => exact cW_mono (h1.run σ H1 F1 (r.step s1)) fun b H2 ⟨G2, F2, s2, h2⟩ => ⟨G2, F2, s1.trans s2, h2⟩
    | true => exact ⟨G1, F1, s1, h1⟩)
/-- and, or, not as values, of bools -/
theorem we_one {op : BoolOp} (h : WE X C a ⟨γ, sl⟩ Q) : WE X C (.BoolOp op [a] pos) ⟨γ, sl⟩ Q := .mk fun σ H F r => cE_of (pe_one (pe_c a)) (h.run σ H F r)
theorem we_and {rest : List Expr} (h : WE X C a ⟨γ, sl⟩ fun G x => ∃ k, x = .bl k ∧ if k = true then WE X C (.BoolOp .And (b :: rest) pos) ⟨G, sl⟩ Q else Q G (.bl false)) : WE X C (.BoolOp .And (a :: b :: rest) pos) ⟨γ, sl⟩ Q := .mk fun σ H F r =>
  cE_of (pe_and (pe_c a) (pe_c _)) (cE_mono (h.run σ H F r) fun v H1 ⟨G1, d, F1, s1, r1, k, e1, h1⟩ => by
    subst e1
    rw [Rp] at r1
    refine ⟨k, r1, ?_⟩
    cases k with
    | true => exact cE_mono (h1.run σ H1 F1 (r.step s1)) fun b H2 ⟨G2, d2, F2, s2, r2, h2⟩ => ⟨G2, d2, F2, s1.trans s2, r2, h2⟩
    | false => exact ⟨G1, _, F1, s1, by rw [Rp], h1⟩)
theorem we_or {rest : List Expr} (h : WE X C a ⟨γ, sl⟩ fun G x => ∃ k, x = .bl k ∧ if k = true then Q G (.bl true) else WE X C (.BoolOp .Or (b :: rest) pos) ⟨G, sl⟩ Q) : WE X C (.BoolOp .Or (a :: b :: rest) pos) ⟨γ, sl⟩ Q := .mk fun σ H F r =>
  cE_of (pe_or (pe_c a) (pe_c _)) (cE_mono (h.run σ H F r) fun v H1 ⟨G1, d, F1, s1, r1, k, e1, h1⟩ => by
    subst e1
    rw [Rp] at r1
    refine ⟨k, r1, ?_⟩
    cases k with
    | false => exact cE_mono (h1.run σ H1 F1 (r.step s1)) fun b H2 ⟨G2, d2, F2, s2, r2, h2⟩ => ⟨G2, d2, F2, s1.trans s2, r2, h2⟩
    | true => exact ⟨G1, _, F1, s1, by rw [Rp], h1⟩)
theorem we_not (h : WE X C a ⟨γ, sl⟩ fun G x => ∃ k, x = .bl k ∧ Q G (.bl (!k))) : WE X C (.UnaryOp .Not a pos) ⟨γ, sl⟩ Q := .mk fun σ H F r =>
  cE_of (pe_not (pe_c a)) (cE_mono (h.run σ H F r) fun v H1 ⟨G1, d, F1, s1, r1, k, e1, h1⟩ => by
    subst e1
    rw [Rp] at r1
    exact ⟨k, r1, G1, _, F1, s1, by rw [Rp], h1⟩)
theorem we_ifx (h : WT X C c ⟨γ, sl⟩ fun G k => if k = true then WE X C a ⟨G, sl⟩ Q else WE X C b ⟨G, sl⟩ Q) : WE X C (.IfExp c a b pos) ⟨γ, sl⟩ Q := .mk fun σ H F r =>
  cE_of (pe_ifExp (pt_c c) (pe_c a) (pe_c b)) (cT_mono (h.run σ H F r) fun k H1 ⟨G1, F1, s1, h1⟩ => by
    cases k with
    | false => exact cE_mono (h1.run σ H1 F1 (r.step s1)) fun b H2 ⟨G2, d2, F2, s2, r2, h2⟩ => ⟨G2, d2, F2, s1.trans s2, r2, h2⟩
    | true => exact cE_mono (h1.run σ H1 F1 (r.step s1)) fun b H2 ⟨G2, d2, F2, s2, r2, h2⟩ => ⟨G2, d2, F2, s1.trans s2, r2, h2⟩)
/-- a chain a < b < c -/
theorem we_chain {op op' : CmpOp} {r r' : R2} {p p' : D → D → (D → Prop) → Prop} (ho : OpR X (compareOp op) r) (ho' : OpR X (compareOp op') r') (hd : DOp X.K r p) (hd' : DOp X.K r' p') (hm : lastMarks [op, op'] [b, c] = false)
    (h : WE X C a ⟨γ, sl⟩ fun G x => WE X C b ⟨G, sl⟩ fun G' y => p x y fun z => ∃ k, z = .bl k ∧ if k = true then WE X C c ⟨G', sl⟩ fun G2 w => p' y w (Q G2) else Q G' (.bl false)) : WE X C (.Compare a [op, op'] [b, c] pos) ⟨γ, sl⟩ Q := .mk fun σ H F r => by
  refine cE_of (pe_chain ho ho' (pe_c a) (pe_c b) (pe_c c) hm) ?_
  refine cE_mono (h.run σ H F r) fun v H1 ⟨G1, d1, F1, s1, r1, h1⟩ => ?_
  refine cE_mono (h1.run σ H1 F1 (r.step s1)) fun u H2 ⟨G2, d2, F2, s2, r2, h2⟩ => ?_
  refine hd G2 H2 F2 v u d1 d2 _ _ s2.ok (Rp.mono s2.fe _ _ r1) r2 h2 fun w H3 d F3 s3 r3 q => ?_
  obtain ⟨k, rfl, q⟩ := q
  rw [Rp] at r3
  refine ⟨k, r3, ?_⟩
  cases k with
  | false => exact ⟨G2, _, F3, (s1.trans s2).trans s3, by rw [Rp], q⟩
  | true =>
    refine cE_mono (q.run σ H3 F3 (r.step ((s1.trans s2).trans s3))) fun w' H4 ⟨G4, d4, F4, s4, r4, h4⟩ => ?_
    refine hd' G4 H4 F4 u w' d2 d4 _ _ s4.ok (Rp.mono s4.fe _ _ (Rp.mono s3.fe _ _ r2)) r4 h4 fun w H5 d F5 s5 r5 q => ?_
    exact ⟨G4, d, F5, ((((s1.trans s2).trans s3).trans s4).trans s5), r5, q⟩
end
end DL

set_option maxRecDepth 100000
set_option maxHeartbeats 4000000
namespace DL
open PySem L2

/-! ### what operations do over data -/
def pAdd : D → D → (D → Prop) → Prop
  | .int i, .int j, Q => Q (.int (i + j))
  | .str x, .str y, Q => x.length + y.length ≤ 1000000 ∧ Q (.str (x ++ y))
  | .lst xs, .lst ys, Q => xs.length + ys.length ≤ 1000000 ∧ Q (.lst (xs ++ ys))
  | _, _, _ => False
def pSub : D → D → (D → Prop) → Prop
  | .int i, .int j, Q => Q (.int (i - j))
  | _, _, _ => False
def pMul : D → D → (D → Prop) → Prop
  | .int i, .int j, Q => CMul i j ∧ Q (.int (i * j))
  | .lst xs, .int k, Q => 0 ≤ k ∧ k ≤ 1000000 ∧ xs.length * k.toNat ≤ 1000000 ∧ Q (.lst (List.replicate k.toNat xs).flatten)
  | _, _, _ => False
def pMod : D → D → (D → Prop) → Prop
  | .int i, .int j, Q => 0 < j ∧ Q (.int (i % j))
  | _, _, _ => False
def pDiv : D → D → (D → Prop) → Prop
  | .int i, .int j, Q => CDiv i j ∧ Q (.int (i / j))
  | _, _, _ => False
def pPow : D → D → (D → Prop) → Prop
  | .int i, .int j, Q => CPow i j ∧ Q (.int (i ^ j.toNat))
  | _, _, _ => False
def pLt : D → D → (D → Prop) → Prop
  | .int i, .int j, Q => Q (.bl (decide (i < j)))
  | _, _, _ => False
def pLe : D → D → (D → Prop) → Prop
  | .int i, .int j, Q => Q (.bl (decide (i ≤ j)))
  | _, _, _ => False
def pGt : D → D → (D → Prop) → Prop
  | .int i, .int j, Q => Q (.bl (decide (j < i)))
  | _, _, _ => False
def pGe : D → D → (D → Prop) → Prop
  | .int i, .int j, Q => Q (.bl (decide (j ≤ i)))
  | _, _, _ => False
def pNeg : D → (D → Prop) → Prop
  | .int i, Q => Q (.int (-i))
  | _, _ => False
def D.isNon : D → Bool
  | .non => true
  | .raw v => decide (v = .non)
  | _ => false
def pIs : D → D → (D → Prop) → Prop
  | d, .non, Q => Q (.bl d.isNon)
  | _, _, _ => False
def pIsN : D → D → (D → Prop) → Prop
  | d, .non, Q => Q (.bl !d.isNon)
  | _, _, _ => False
theorem isNon_of {K : PySem.W.Frag} {F : Hp} {d : D} {v : V} (h : Rp K F d v) : decide (v = .non) = d.isNon := by
  cases d with
  | non => rw [Rp] at h; subst h; rfl
  | bl _ => rw [Rp] at h; subst h; rfl
  | int _ => rw [Rp] at h; subst h; rfl
  | str _ => rw [Rp] at h; subst h; rfl
  | raw _ => rw [Rp] at h; subst h; rfl
  | own _ => rw [Rp] at h; exact h.elim
  | lst _ => rw [Rp] at h; obtain ⟨_, _, rfl, _⟩ := h; rfl
  | tup _ => rw [Rp] at h; obtain ⟨_, _, rfl, _⟩ := h; rfl
  | scr _ => rw [Rp] at h; obtain ⟨_, rfl, _⟩ := h; rfl
  | dct _ => rw [Rp] at h; obtain ⟨_, _, rfl, _⟩ := h; rfl
  | ins _ _ => rw [Rp] at h; obtain ⟨_, _, _, rfl, _⟩ := h; rfl

abbrev r2or (r r' : R2) : R2 := fun x y H Q => r x y H Q ∨ r' x y H Q
section
variable {K : PySem.W.Frag} {X : Cx}
theorem sz {n : Nat} (h : n ≤ 1000000) : n ≤ sizeLine := size_ok h
theorem RpL.rep {F : Hp} {ds : List D} {vs : List V} (h : RpL K F ds vs) : ∀ k : Nat, RpL K F (List.replicate k ds).flatten (List.replicate k vs).flatten
  | 0 => RpL.nil
  | k + 1 => by
    rw [List.replicate_succ, List.replicate_succ, List.flatten_cons, List.flatten_cons]
    exact RpL.append h (RpL.rep h k)
def rAddS : R2 := fun x y H Q => ∃ i j, x = .str i ∧ y = .str j ∧ i.length + j.length ≤ sizeLine ∧ Q (.str (i ++ j)) H
theorem d_add : DOp K (r2or (rI0 fun i j => .int (i + j)) (r2or rCat rAddS)) pAdd := by
  intro G H F v1 v2 d1 d2 Q R ok r1 r2 h k
  cases d1 <;> cases d2 <;> first | exact False.elim h | skip
  · rw [Rp] at r1 r2
    subst r1 r2
    exact .inl ⟨_, _, rfl, rfl, k _ _ _ _ ok.refl (by rw [Rp]) h⟩
  · rw [Rp] at r1 r2
    subst r1 r2
    exact .inr (.inr ⟨_, _, rfl, rfl, sz h.1, k _ _ _ _ ok.refl (by rw [Rp]) h.2⟩)
  · rw [Rp] at r1 r2
    obtain ⟨a, xs, rfl, h1, l1⟩ := r1
    obtain ⟨b, ys, rfl, h2, l2⟩ := r2
    refine .inr (.inl ⟨a, b, xs, ys, rfl, rfl, ok.fh _ _ h1, ok.fh _ _ h2, ?_, fun p hp => ?_⟩)
    · rw [l1.length, l2.length]
      exact sz h.1
    · refine k _ _ _ _ (ok.laid hp) ?_ h.2
      rw [Rp]
      exact ⟨p, _, rfl, upd_same, RpL.mono (ok.laid hp).fe _ _ (RpL.append l1 l2)⟩
theorem o_add : OpR X (binaryOp .Add) (r2or (rI0 fun i j => .int (i + j)) (r2or rCat rAddS)) := OpR.or op_add (OpR.or op_cat op_add_str)
theorem d_sub : DOp K (rI0 fun i j => .int (i - j)) pSub := by
  intro G H F v1 v2 d1 d2 Q R ok r1 r2 h k
  cases d1 <;> cases d2 <;> first | exact False.elim h | skip
  rw [Rp] at r1 r2
  subst r1 r2
  exact ⟨_, _, rfl, rfl, k _ _ _ _ ok.refl (by rw [Rp]) h⟩
theorem d_mul : DOp K (r2or (rI CMul fun i j => .int (i * j)) rRep) pMul := by
  intro G H F v1 v2 d1 d2 Q R ok r1 r2 h k
  cases d1 <;> cases d2 <;> first | exact False.elim h | skip
  · rw [Rp] at r1 r2
    subst r1 r2
    exact .inl ⟨_, _, rfl, rfl, h.1, k _ _ _ _ ok.refl (by rw [Rp]) h.2⟩
  · simp only [Rp] at r1 r2
    subst r2
    obtain ⟨a, xs, rfl, h1, l1⟩ := r1
    obtain ⟨z1, z2, z3, q⟩ := h
    refine .inr ⟨a, _, xs, rfl, rfl, ok.fh _ _ h1, by omega, by omega, ?_, fun p hp => ?_⟩
    · rw [l1.length]
      exact sz z3
    · refine k _ _ _ _ (ok.laid hp) ?_ q
      rw [Rp]
      exact ⟨p, _, rfl, upd_same, RpL.mono (ok.laid hp).fe _ _ (RpL.rep l1 _)⟩
theorem o_mul : OpR X (binaryOp .Mult) (r2or (rI CMul fun i j => .int (i * j)) rRep) := OpR.or op_mul op_rep
theorem d_mod : DOp K (rI (fun _ j => 0 < j) fun i j => .int (i % j)) pMod := by
  intro G H F v1 v2 d1 d2 Q R ok r1 r2 h k
  cases d1 <;> cases d2 <;> first | exact False.elim h | skip
  rw [Rp] at r1 r2
  subst r1 r2
  exact ⟨_, _, rfl, rfl, h.1, k _ _ _ _ ok.refl (by rw [Rp]) h.2⟩
theorem d_div : DOp K (rI CDiv fun i j => .int (i / j)) pDiv := by
  intro G H F v1 v2 d1 d2 Q R ok r1 r2 h k
  cases d1 <;> cases d2 <;> first | exact False.elim h | skip
  rw [Rp] at r1 r2
  subst r1 r2
  exact ⟨_, _, rfl, rfl, h.1, k _ _ _ _ ok.refl (by rw [Rp]) h.2⟩
theorem d_pow : DOp K (rI CPow fun i j => .int (i ^ j.toNat)) pPow := by
  intro G H F v1 v2 d1 d2 Q R ok r1 r2 h k
  cases d1 <;> cases d2 <;> first | exact False.elim h | skip
  rw [Rp] at r1 r2
  subst r1 r2
  exact ⟨_, _, rfl, rfl, h.1, k _ _ _ _ ok.refl (by rw [Rp]) h.2⟩
theorem d_lt : DOp K (rI0 fun i j => .bl (decide (i < j))) pLt := by
  intro G H F v1 v2 d1 d2 Q R ok r1 r2 h k
  cases d1 <;> cases d2 <;> first | exact False.elim h | skip
  rw [Rp] at r1 r2
  subst r1 r2
  exact ⟨_, _, rfl, rfl, k _ _ _ _ ok.refl (by rw [Rp]) h⟩
theorem d_le : DOp K (rI0 fun i j => .bl (decide (i ≤ j))) pLe := by
  intro G H F v1 v2 d1 d2 Q R ok r1 r2 h k
  cases d1 <;> cases d2 <;> first | exact False.elim h | skip
  rw [Rp] at r1 r2
  subst r1 r2
  exact ⟨_, _, rfl, rfl, k _ _ _ _ ok.refl (by rw [Rp]) h⟩
theorem d_gt : DOp K (rI0 fun i j => .bl (decide (j < i))) pGt := by
  intro G H F v1 v2 d1 d2 Q R ok r1 r2 h k
  cases d1 <;> cases d2 <;> first | exact False.elim h | skip
  rw [Rp] at r1 r2
  subst r1 r2
  exact ⟨_, _, rfl, rfl, k _ _ _ _ ok.refl (by rw [Rp]) h⟩
theorem d_ge : DOp K (rI0 fun i j => .bl (decide (j ≤ i))) pGe := by
  intro G H F v1 v2 d1 d2 Q R ok r1 r2 h k
  cases d1 <;> cases d2 <;> first | exact False.elim h | skip
  rw [Rp] at r1 r2
  subst r1 r2
  exact ⟨_, _, rfl, rfl, k _ _ _ _ ok.refl (by rw [Rp]) h⟩
theorem d_neg : DUn K (rU fun i => .int (-i)) pNeg := by
  intro G H F v1 d1 Q R ok r1 h k
  cases d1 <;> first | exact False.elim h | skip
  rw [Rp] at r1
  subst r1
  exact ⟨_, rfl, k _ _ _ _ ok.refl (by rw [Rp]) h⟩
theorem d_is : DOp K (fun x y H Q => y = .non ∧ Q (.bl (decide (x = .non))) H) pIs := by
  intro G H F v1 v2 d1 d2 Q R ok r1 r2 h k
  cases d2 <;> first | exact False.elim h | skip
  rw [Rp] at r2
  refine ⟨r2, ?_⟩
  rw [isNon_of r1]
  exact k _ _ _ _ ok.refl (by rw [Rp]) h
theorem d_isN : DOp K (fun x y H Q => y = .non ∧ Q (.bl (!decide (x = .non))) H) pIsN := by
  intro G H F v1 v2 d1 d2 Q R ok r1 r2 h k
  cases d2 <;> first | exact False.elim h | skip
  rw [Rp] at r2
  refine ⟨r2, ?_⟩
  rw [isNon_of r1]
  exact k _ _ _ _ ok.refl (by rw [Rp]) h
end

/-! ### equality of data -/
mutual
def D.py : D → PyData
  | .non => .none
  | .bl b => .bool b
  | .int i => .int i
  | .str s => .str s
  | .lst xs => .list (D.pyAll xs)
  | .tup xs => .tuple (D.pyAll xs)
  | .scr ns => .list (ns.map PyData.int)
  | .raw _ => .none
  | .own _ => .none
  | .dct _ => .none
  | .ins _ _ => .none
def D.pyAll : List D → List PyData
  | [] => []
  | d :: ds => D.py d :: D.pyAll ds
end
mutual
/-- plain data within n levels -/
def D.good : Nat → D → Bool
  | _, .non => true
  | _, .bl _ => true
  | _, .int _ => true
  | _, .str s => (s.cps.all (· < 0x110000))
  | n, .lst xs => match n with | 0 => false | n + 1 => D.goodAll n xs
  | n, .tup xs => match n with | 0 => false | n + 1 => D.goodAll n xs
  | n, .scr _ => match n with | 0 => false | n + 1 => true
  | _, .raw _ => false
  | _, .own _ => false
  | _, .dct _ => false
  | _, .ins _ _ => false
def D.goodAll : Nat → List D → Bool
  | _, [] => true
  | n, d :: ds => D.good n d && D.goodAll n ds
end
section
mutual
theorem py_good : ∀ (n : Nat) (d : D), D.good n d = true → d.py.canLay0 = true ∧ d.py.depth ≤ n
  | n, .non, _ => ⟨by simp [D.py, PyData.canLay0], by simp [D.py, PyData.depth]⟩
  | n, .bl _, _ => ⟨by simp [D.py, PyData.canLay0], by simp [D.py, PyData.depth]⟩
  | n, .int _, _ => ⟨by simp [D.py, PyData.canLay0], by simp [D.py, PyData.depth]⟩
  | n, .str s, h => ⟨by rw [D.py, PyData.canLay0]; exact h, by simp [D.py, PyData.depth]⟩
  | 0, .lst xs, h => by simp [D.good] at h
  | n + 1, .lst xs, h => by
    rw [D.good] at h
    have := py_goodAll n xs h
    exact ⟨by rw [D.py, PyData.canLay0]; exact this.1, by rw [D.py, PyData.depth]; have := this.2; omega⟩
  | 0, .tup xs, h => by simp [D.good] at h
  | n + 1, .tup xs, h => by
    rw [D.good] at h
    have := py_goodAll n xs h
    exact ⟨by rw [D.py, PyData.canLay0]; exact this.1, by rw [D.py, PyData.depth]; have := this.2; omega⟩
  | 0, .scr xs, h => by simp [D.good] at h
  | n + 1, .scr xs, h => by
    have h1 : ∀ ns : List Int, PyData.canLayAll0 (ns.map PyData.int) = true ∧ PyData.depthAll (ns.map PyData.int) ≤ 0 := by
      intro ns
      induction ns with
      | nil => exact ⟨by simp [PyData.canLayAll0], by simp [PyData.depthAll]⟩
      | cons m ns ih =>
        refine ⟨by rw [List.map_cons, PyData.canLayAll0, ih.1, PyData.canLay0]; rfl, ?_⟩
        rw [List.map_cons, PyData.depthAll, PyData.depth]
        have := ih.2
        omega
    have := h1 xs
    exact ⟨by rw [D.py, PyData.canLay0]; exact this.1, by rw [D.py, PyData.depth]; have := this.2; omega⟩
  | _, .raw _, h => by simp [D.good] at h
  | _, .own _, h => by simp [D.good] at h
  | _, .dct _, h => by simp [D.good] at h
  | _, .ins _ _, h => by simp [D.good] at h
theorem py_goodAll : ∀ (n : Nat) (ds : List D), D.goodAll n ds = true → PyData.canLayAll0 (D.pyAll ds) = true ∧ PyData.depthAll (D.pyAll ds) ≤ n
  | n, [], _ => ⟨by simp [D.pyAll, PyData.canLayAll0], by simp [D.pyAll, PyData.depthAll]⟩
  | n, d :: ds, h => by
    rw [D.goodAll, Bool.and_eq_true] at h
    have h1 := py_good n d h.1
    have h2 := py_goodAll n ds h.2
    refine ⟨by rw [D.pyAll, PyData.canLayAll0, h1.1, h2.1]; rfl, ?_⟩
    rw [D.pyAll, PyData.depthAll]
    have := h1.2
    have := h2.2
    omega
end
theorem good_shaped {d : D} (h : D.good 60 d = true) : SeqAt.shaped d.py = true := by
  have := py_good 60 d h
  unfold SeqAt.shaped
  rw [this.1, decide_eq_true (Nat.le_trans this.2 (by decide))]
  rfl
variable {K : PySem.W.Frag} {F H : Hp}
mutual
theorem dp_of (e : Same F H) : ∀ (n : Nat) (d : D) (v : V), D.good n d = true → Rp K F d v → Dp K H v d.py
  | n, .non, v, _, r => by rw [Rp] at r; subst r; rw [D.py]; exact .non
  | n, .bl _, v, _, r => by rw [Rp] at r; subst r; rw [D.py]; exact .bl _
  | n, .int _, v, _, r => by rw [Rp] at r; subst r; rw [D.py]; exact .int _
  | n, .str s, v, h, r => by rw [Rp] at r; subst r; rw [D.py]; exact .str _
  | 0, .lst xs, v, h, r => by simp [D.good] at h
  | n + 1, .lst xs, v, h, r => by
    rw [D.good] at h
    rw [Rp] at r
    obtain ⟨a, vs, rfl, h1, l1⟩ := r
    rw [D.py]
    exact .lst (SqL.of (e _ _ h1)) (dp_ofAll e n xs vs h l1)
  | 0, .tup xs, v, h, r => by simp [D.good] at h
  | n + 1, .tup xs, v, h, r => by
    rw [D.good] at h
    rw [Rp] at r
    obtain ⟨a, vs, rfl, h1, l1⟩ := r
    rw [D.py]
    exact .tup (Same.sqT e h1) (dp_ofAll e n xs vs h l1)
  | 0, .scr xs, v, h, r => by simp [D.good] at h
  | n + 1, .scr xs, v, h, r => by
    rw [Rp] at r
    obtain ⟨a, rfl, h1⟩ := r
    rw [D.py]
    refine .lst (Same.sqL e h1) ?_
    have h1 : ∀ ns : List Int, DpAll K H (ns.map V.int) (ns.map PyData.int) := by
      intro ns
      induction ns with
      | nil => exact .nil
      | cons m ns ih => exact .cons (.int m) ih
    exact h1 xs
  | _, .raw _, _, h, _ => by simp [D.good] at h
  | _, .own _, _, h, _ => by simp [D.good] at h
  | _, .dct _, _, h, _ => by simp [D.good] at h
  | _, .ins _ _, _, h, _ => by simp [D.good] at h
theorem dp_ofAll (e : Same F H) : ∀ (n : Nat) (ds : List D) (vs : List V), D.goodAll n ds = true → RpL K F ds vs → DpAll K H vs (D.pyAll ds)
  | n, [], vs, _, r => by rw [RpL] at r; subst r; rw [D.pyAll]; exact .nil
  | n, d :: ds, vs, h, r => by
    rw [D.goodAll, Bool.and_eq_true] at h
    rw [RpL] at r
    obtain ⟨v, rr, rfl, h1, h2⟩ := r
    rw [D.pyAll]
    exact .cons (dp_of e n d v h.1 h1) (dp_ofAll e n ds rr h.2 h2)
end
end
def pEq : D → D → (D → Prop) → Prop := fun d e Q => D.good 60 d = true ∧ D.good 60 e = true ∧ Q (.bl (PyData.eqv d.py e.py))
def pNe : D → D → (D → Prop) → Prop := fun d e Q => D.good 60 d = true ∧ D.good 60 e = true ∧ Q (.bl (!PyData.eqv d.py e.py))
theorem d_eq {K : PySem.W.Frag} : DOp K (rEqD K) pEq := by
  intro G H F v1 v2 d1 d2 Q R ok r1 r2 h k
  exact ⟨_, _, dp_of ok.fh 60 _ _ h.1 r1, dp_of ok.fh 60 _ _ h.2.1 r2, good_shaped h.1, good_shaped h.2.1, k _ _ _ _ ok.refl (by rw [Rp]) h.2.2⟩
theorem d_ne {K : PySem.W.Frag} : DOp K (rNeD K) pNe := by
  intro G H F v1 v2 d1 d2 Q R ok r1 r2 h k
  exact ⟨_, _, dp_of ok.fh 60 _ _ h.1 r1, dp_of ok.fh 60 _ _ h.2.1 r2, good_shaped h.1, good_shaped h.2.1, k _ _ _ _ ok.refl (by rw [Rp]) h.2.2⟩
/-- x in xs -/
def pIn : D → D → (D → Prop) → Prop
  | d, .lst ds, Q => D.good 60 d = true ∧ D.good 60 (.lst ds) = true ∧ Q (.bl ((D.pyAll ds).any fun z => PyData.eqv z d.py))
  | _, _, _ => False
def pNotIn : D → D → (D → Prop) → Prop
  | d, .lst ds, Q => D.good 60 d = true ∧ D.good 60 (.lst ds) = true ∧ Q (.bl (!(D.pyAll ds).any fun z => PyData.eqv z d.py))
  | _, _, _ => False
theorem d_in {K : PySem.W.Frag} : DOp K (rInD K) pIn := by
  intro G H F v1 v2 d1 d2 Q R ok r1 r2 h k
  cases d2 <;> first | exact False.elim h | skip
  refine ⟨_, _, dp_of ok.fh 60 _ _ h.1 r1, ?_, good_shaped h.1, ?_, k _ _ _ _ ok.refl (by rw [Rp]) h.2.2⟩
  · have := dp_of ok.fh 60 _ _ h.2.1 r2
    rw [D.py] at this
    exact this
  · have := good_shaped h.2.1
    rw [D.py] at this
    exact this
theorem d_notIn {K : PySem.W.Frag} : DOp K (rNotInD K) pNotIn := by
  intro G H F v1 v2 d1 d2 Q R ok r1 r2 h k
  cases d2 <;> first | exact False.elim h | skip
  refine ⟨_, _, dp_of ok.fh 60 _ _ h.1 r1, ?_, good_shaped h.1, ?_, k _ _ _ _ ok.refl (by rw [Rp]) h.2.2⟩
  · have := dp_of ok.fh 60 _ _ h.2.1 r2
    rw [D.py] at this
    exact this
  · have := good_shaped h.2.1
    rw [D.py] at this
    exact this
end DL

set_option maxRecDepth 100000
set_option maxHeartbeats 4000000
namespace DL
open PySem L2

/-! ### items, slices -/
theorem RpL.atI {K : PySem.W.Frag} {F : Hp} {ds : List D} {vs : List V} {i : Int} {d : D} (h : RpL K F ds vs) (e : atI ds i = some d) : ∃ v, L2.atI vs i = some v ∧ Rp K F d v := by
  unfold L2.atI at e ⊢
  rw [h.length]
  cases q : ixN ds.length i with
  | none => rw [q] at e; cases e
  | some j =>
    rw [q] at e
    exact h.get e
def pIx : D → D → (D → Prop) → Prop
  | .lst ds, .int i, Q => ∃ d, atI ds i = some d ∧ Q d
  | .tup ds, .int i, Q => ∃ d, atI ds i = some d ∧ Q d
  | .scr ns, .int i, Q => ∃ n, atI ns i = some n ∧ Q (.int n)
  | .str z, .int i, Q => z.length ≤ 1000000 ∧ ∃ c, atI z.cps.toList i = some c ∧ Q (.str ⟨#[c]⟩)
  | _, _, _ => False
theorem atI_map {α β : Type} (f : α → β) {xs : List α} {i : Int} {x : α} (h : atI xs i = some x) : atI (xs.map f) i = some (f x) := by
  unfold atI at h ⊢
  rw [List.length_map]
  cases q : ixN xs.length i with
  | none => rw [q] at h; cases h
  | some j =>
    rw [q] at h
    have h' : xs[j]? = some x := h
    show (xs.map f)[j]? = some (f x)
    rw [List.getElem?_map, h']
    rfl
section
variable {K : PySem.W.Frag} {X : Cx} {C : Fx} {γ : Gd} {sl : List Sl} {Q : Gd → D → Prop} {a b c e : Expr} {pos : Pos}
theorem d_ix : DOp K (rIx K) pIx := by
  intro G H F v1 v2 d1 d2 Q R ok r1 r2 h k
  cases d1 <;> cases d2 <;> first | exact False.elim h | skip
  · simp only [Rp] at r1 r2
    subst r1 r2
    obtain ⟨hz, c, hc, q⟩ := h
    exact .inr (.inr ⟨_, _, c, rfl, rfl, sz hz, hc, k _ _ _ _ ok.refl (by rw [Rp]) q⟩)
  · simp only [Rp] at r1 r2
    subst r2
    obtain ⟨p, xs, rfl, h1, l1⟩ := r1
    obtain ⟨d, hd, q⟩ := h
    obtain ⟨v, hv, rv⟩ := l1.atI hd
    exact .inl ⟨p, xs, _, v, rfl, rfl, SqL.of (ok.fh _ _ h1), hv, k _ _ _ _ ok.refl rv q⟩
  · simp only [Rp] at r1 r2
    subst r2
    obtain ⟨p, xs, rfl, h1, l1⟩ := r1
    obtain ⟨d, hd, q⟩ := h
    obtain ⟨v, hv, rv⟩ := l1.atI hd
    exact .inr (.inl ⟨p, xs, _, v, rfl, rfl, Same.sqT ok.fh h1, hv, k _ _ _ _ ok.refl rv q⟩)
  · simp only [Rp] at r1 r2
    subst r2
    obtain ⟨p, rfl, h1⟩ := r1
    obtain ⟨d, hd, q⟩ := h
    exact .inl ⟨p, _, _, _, rfl, rfl, Same.sqL ok.fh h1, atI_map V.int hd, k _ _ _ _ ok.refl (by rw [Rp]) q⟩
def cutD {α : Type} (xs : List α) (lo hi : Option Int) : List α := (xs.drop (HT.sIx xs.length 0 lo)).take (HT.sIx xs.length xs.length hi - HT.sIx xs.length 0 lo)
theorem RpL.cut {F : Hp} {ds : List D} {vs : List V} (h : RpL K F ds vs) (lo hi : Option Int) : RpL K F (cutD ds lo hi) (cutV vs lo hi) := by
  unfold cutD cutV
  rw [h.length]
  exact RpL.take _ (RpL.drop _ h)
def pSl : D → Option Int → Option Int → (D → Prop) → Prop
  | .lst ds, lo, hi, Q => Q (.lst (cutD ds lo hi))
  | .tup ds, lo, hi, Q => ¬ (HT.sIx ds.length 0 lo = 0 ∧ HT.sIx ds.length ds.length hi = ds.length) ∧ Q (.tup (cutD ds lo hi))
  | _, _, _, _ => False
/-- the parts of a slice -/
def WO (X : Cx) (C : Fx) (e : Option Expr) (γ : Gd) (sl : List Sl) (Q : Gd → Option Int → Prop) : Prop := match e with
  | none => Q γ none
  | some e => WE X C e ⟨γ, sl⟩ fun G x => ∃ i, x = .int i ∧ Q G (some i)
theorem wo_none {Q : Gd → Option Int → Prop} {γ : Gd} {sl : List Sl} (q : Q γ none) : WO X C none γ sl Q := q
theorem wo_some {Q : Gd → Option Int → Prop} {γ : Gd} {sl : List Sl} (q : WE X C e ⟨γ, sl⟩ fun G x => ∃ i, x = .int i ∧ Q G (some i)) : WO X C (some e) γ sl Q := q
def cO (X : Cx) (o : Option Expr) : TO := fun σ H R => match o with
    | none => R none H
    | some e => cE X e σ H fun x H1 => ∃ i, x = .int i ∧ R (some i) H1
theorem po_c (o : Option Expr) : PO X o (cO X o) := by
  cases o with
  | none => exact po_none
  | some e => exact po_some (pe_c e)
theorem cO_of {σ : St} {o : Option Expr} {γ' : Gd} {sl' : List Sl} {H1 F1 : Hp} {Q' : Gd → Option Int → Prop} {R : Option Int → Hp → Prop} (r1 : Rel X.K C ⟨γ', sl'⟩ σ H1 F1) (w : WO X C o γ' sl' Q') (k : ∀ l H2 G2 F2, Step γ' G2 H1 F1 H2 F2 → Q' G2 l → R l H2) : cO X o σ H1 R := by
  cases o with
  | none => exact k none H1 γ' F1 r1.ok.refl w
  | some e =>
    refine cE_mono (w.run σ H1 F1 r1) fun v H2 ⟨G2, d2, F2, s2, r2, i, e2, q⟩ => ?_
    subst e2
    rw [Rp] at r2
    exact ⟨i, r2, k _ _ _ _ s2 q⟩
theorem we_sl {lo hi : Option Expr} {p2 : Pos} (h : WE X C e ⟨γ, sl⟩ fun G x => WO X C lo G sl fun G1 l => WO X C hi G1 sl fun G2 u => pSl x l u (Q G2)) : WE X C (.Subscript e (.Slice lo hi none p2) pos) ⟨γ, sl⟩ Q := .mk fun σ H F r => by
  refine cE_of (pe_slice (SlR.or sl_list sl_tup) (pe_c e) (po_c lo) (po_c hi)) ?_
  refine cE_mono (h.run σ H F r) fun v H1 ⟨G1, d1, F1, s1, r1, h1⟩ => ?_
  refine cO_of (r.step s1) h1 fun l H2 G2 F2 s2 h2 => ?_
  refine cO_of ((r.step s1).step s2) h2 fun u H3 G3 F3 s3 h3 => ?_
  have ok := s3.ok
  have st := (s1.trans s2).trans s3
  have r1' := Rp.mono s3.fe _ _ (Rp.mono s2.fe _ _ r1)
  cases d1 <;> first | exact False.elim h3 | skip
  · rw [Rp] at r1'
    obtain ⟨p, xs, rfl, hp, hl⟩ := r1'
    refine .inl ⟨p, xs, rfl, SqL.of (ok.fh _ _ hp), fun q hq => ?_⟩
    refine ⟨G3, _, _, st.trans (ok.laid hq), ?_, h3⟩
    rw [Rp]
    exact ⟨q, _, rfl, upd_same, RpL.mono (ok.laid hq).fe _ _ (hl.cut l u)⟩
  · rw [Rp] at r1'
    obtain ⟨p, xs, rfl, hp, hl⟩ := r1'
    refine .inr ⟨p, xs, rfl, Same.sqT ok.fh hp, ?_, fun q hq => ?_⟩
    · rw [hl.length]
      exact h3.1
    · refine ⟨G3, _, _, st.trans (ok.laid hq), ?_, h3.2⟩
      rw [Rp]
      exact ⟨q, _, rfl, SqT.of upd_same, RpL.mono (ok.laid hq).fe _ _ (hl.cut l u)⟩

/-! ### built-ins by name -/
theorem we_cb {id : String} {x : Str} {p : Pos} {es : List Expr} {r : List V → Hp → VK → Prop} {f : List D → (D → Prop) → Prop} (hc : CallR X (.builtin id) r) (hd : DCl X.K r f) (hg : Gl X x) (hm : X.mg x = none) (hv : bootBuiltins x = some (.builtin id)) (hn : x ≠ "__name__") (hdb : (x == ("__debug__" : Str)) = false)
    (hs : starEach (e :: es) X.env = (false, eval e X.env) :: starEach es X.env) (hp : ((backTo pos (starEach es X.env)).any fun x => x.fst) = false)
    (h : WA X C (e :: es) ⟨γ, sl⟩ fun G ds => f ds (Q G)) : WE X C (.Call (.Name x p) (e :: es) [] pos) ⟨γ, sl⟩ Q := .mk fun σ H F r => by
  refine cE_of (pe_callB hc hg hm hv (pa_c (e :: es)) hn hdb hs hp) ?_
  refine cA_mono (h.run σ H F r) fun vs H1 ⟨G1, ds, F1, s1, r1, h1⟩ => ?_
  exact hd G1 H1 F1 vs ds (Q G1) _ s1.ok r1 h1 fun v H2 d F2 s2 r2 q => ⟨G1, d, F2, s1.trans s2, r2, q⟩
theorem we_ct {T : String} {x : Str} {p : Pos} {es : List Expr} {r : List V → Hp → VK → Prop} {f : List D → (D → Prop) → Prop} (hc : CallR X (.type T) r) (hd : DCl X.K r f) (hg : Gl X x) (hm : X.mg x = none) (hv : bootBuiltins x = some (.type T)) (hn : x ≠ "__name__") (hdb : (x == ("__debug__" : Str)) = false)
    (hs : starEach (e :: es) X.env = (false, eval e X.env) :: starEach es X.env) (hp : ((backTo pos (starEach es X.env)).any fun x => x.fst) = false)
    (h : WA X C (e :: es) ⟨γ, sl⟩ fun G ds => f ds (Q G)) : WE X C (.Call (.Name x p) (e :: es) [] pos) ⟨γ, sl⟩ Q := .mk fun σ H F r => by
  refine cE_of (pe_callTy hc hg hm hv (pa_c (e :: es)) hn hdb hs hp) ?_
  refine cA_mono (h.run σ H F r) fun vs H1 ⟨G1, ds, F1, s1, r1, h1⟩ => ?_
  exact hd G1 H1 F1 vs ds (Q G1) _ s1.ok r1 h1 fun v H2 d F2 s2 r2 q => ⟨G1, d, F2, s1.trans s2, r2, q⟩
def pLen : List D → (D → Prop) → Prop
  | [.lst ds], Q => Q (.int ds.length)
  | [.tup ds], Q => Q (.int ds.length)
  | [.scr ns], Q => Q (.int ns.length)
  | [.str z], Q => z.length ≤ 1000000 ∧ Q (.int z.length)
  | _, _ => False
theorem RpL.inv1 {F : Hp} {d : D} {vs : List V} (h : RpL K F [d] vs) : ∃ v, vs = [v] ∧ Rp K F d v := by
  rw [RpL] at h
  obtain ⟨v, r, rfl, h1, h2⟩ := h
  rw [RpL] at h2
  subst h2
  exact ⟨v, rfl, h1⟩
theorem RpL.inv2 {F : Hp} {d d' : D} {vs : List V} (h : RpL K F [d, d'] vs) : ∃ v w, vs = [v, w] ∧ Rp K F d v ∧ Rp K F d' w := by
  rw [RpL] at h
  obtain ⟨v, r, rfl, h1, h2⟩ := h
  obtain ⟨w, rfl, h3⟩ := RpL.inv1 h2
  exact ⟨v, w, rfl, h1, h3⟩
abbrev clor (r r' : List V → Hp → VK → Prop) : List V → Hp → VK → Prop := fun xs H Q => r xs H Q ∨ r' xs H Q
theorem d_len : DCl K (clor (fun xs H Q => ∃ p ys, xs = [.ref p] ∧ (SqL K H p ys ∨ SqT K H p ys) ∧ Q (.int ys.length) H) (fun xs H Q => ∃ z, xs = [.str z] ∧ z.length ≤ sizeLine ∧ Q (.int z.length) H)) pLen := by
  intro G H F vs ds Q R ok r h k
  match ds, h with
  | [.lst ds], h =>
    obtain ⟨v, rfl, r1⟩ := r.inv1
    rw [Rp] at r1
    obtain ⟨p, xs, rfl, hp, hl⟩ := r1
    exact .inl ⟨p, xs, rfl, .inl (SqL.of (ok.fh _ _ hp)), k _ _ _ _ ok.refl (by rw [Rp, hl.length]) h⟩
  | [.tup ds], h =>
    obtain ⟨v, rfl, r1⟩ := r.inv1
    rw [Rp] at r1
    obtain ⟨p, xs, rfl, hp, hl⟩ := r1
    exact .inl ⟨p, xs, rfl, .inr (Same.sqT ok.fh hp), k _ _ _ _ ok.refl (by rw [Rp, hl.length]) h⟩
  | [.scr ns], h =>
    obtain ⟨v, rfl, r1⟩ := r.inv1
    rw [Rp] at r1
    obtain ⟨p, rfl, hp⟩ := r1
    exact .inl ⟨p, _, rfl, .inl (Same.sqL ok.fh hp), k _ _ _ _ ok.refl (by rw [Rp, List.length_map]) h⟩
  | [.str z], h =>
    obtain ⟨v, rfl, r1⟩ := r.inv1
    rw [Rp] at r1
    subst r1
    exact .inr ⟨z, rfl, sz h.1, k _ _ _ _ ok.refl (by rw [Rp]) h.2⟩
theorem c_len : CallR X (.builtin "len") (clor (fun xs H Q => ∃ p ys, xs = [.ref p] ∧ (SqL X.K H p ys ∨ SqT X.K H p ys) ∧ Q (.int ys.length) H) (fun xs H Q => ∃ z, xs = [.str z] ∧ z.length ≤ sizeLine ∧ Q (.int z.length) H)) := CallR.or call_len_seq call_len_str
def pMax2 : List D → (D → Prop) → Prop
  | [.int i, .int j], Q => Q (.int (if j > i then j else i))
  | _, _ => False
theorem d_max2 : DCl K (fun xs H Q => ∃ i j, xs = [.int i, .int j] ∧ Q (.int (if j > i then j else i)) H) pMax2 := by
  intro G H F vs ds Q R ok r h k
  match ds, h with
  | [.int i, .int j], h =>
    obtain ⟨v, w, rfl, r1, r2⟩ := r.inv2
    rw [Rp] at r1 r2
    subst r1 r2
    exact ⟨i, j, rfl, k _ _ _ _ ok.refl (by rw [Rp]) h⟩
def pMin2 : List D → (D → Prop) → Prop
  | [.int i, .int j], Q => Q (.int (if j < i then j else i))
  | _, _ => False
theorem d_min2 : DCl K (fun xs H Q => ∃ i j, xs = [.int i, .int j] ∧ Q (.int (if j < i then j else i)) H) pMin2 := by
  intro G H F vs ds Q R ok r h k
  match ds, h with
  | [.int i, .int j], h =>
    obtain ⟨v, w, rfl, r1, r2⟩ := r.inv2
    rw [Rp] at r1 r2
    subst r1 r2
    exact ⟨i, j, rfl, k _ _ _ _ ok.refl (by rw [Rp]) h⟩
def pInt1 : List D → (D → Prop) → Prop
  | [.int i], Q => Q (.int i)
  | [.bl k], Q => Q (.int (if k then 1 else 0))
  | _, _ => False
theorem d_int1 : DCl K (fun xs H Q => (∃ i, xs = [.int i] ∧ Q (.int i) H) ∨ ∃ k, xs = [.bl k] ∧ Q (.int (if k then 1 else 0)) H) pInt1 := by
  intro G H F vs ds Q R ok r h k
  match ds, h with
  | [.int i], h =>
    obtain ⟨v, rfl, r1⟩ := r.inv1
    rw [Rp] at r1
    subst r1
    exact .inl ⟨i, rfl, k _ _ _ _ ok.refl (by rw [Rp]) h⟩
  | [.bl i], h =>
    obtain ⟨v, rfl, r1⟩ := r.inv1
    rw [Rp] at r1
    subst r1
    exact .inr ⟨i, rfl, k _ _ _ _ ok.refl (by rw [Rp]) h⟩
def pSum : List D → (D → Prop) → Prop
  | [.lst ds], Q => ∃ ns : List Int, ds = ns.map D.int ∧ Q (.int ns.sum)
  | _, _ => False
theorem d_sum : DCl K (rSum K) pSum := by
  intro G H F vs ds Q R ok r h k
  match ds, h with
  | [.lst ds], ⟨ns, e, h⟩ =>
    obtain ⟨v, rfl, r1⟩ := r.inv1
    rw [Rp] at r1
    obtain ⟨p, xs, rfl, hp, hl⟩ := r1
    subst e
    have := hl.ints
    subst this
    exact ⟨p, ns, rfl, SqL.of (ok.fh _ _ hp), k _ _ _ _ ok.refl (by rw [Rp]) h⟩
def pMinL : List D → (D → Prop) → Prop
  | [.lst ds], Q => ∃ ns : List Int, ds = ns.map D.int ∧ 0 < ns.length ∧ ∀ m, m ∈ ns → (∀ y, y ∈ ns → m ≤ y) → Q (.int m)
  | _, _ => False
theorem d_minL : DCl K (rMin K) pMinL := by
  intro G H F vs ds Q R ok r h k
  match ds, h with
  | [.lst ds], ⟨ns, e, hz, h⟩ =>
    obtain ⟨v, rfl, r1⟩ := r.inv1
    rw [Rp] at r1
    obtain ⟨p, xs, rfl, hp, hl⟩ := r1
    subst e
    have := hl.ints
    subst this
    exact ⟨p, ns, rfl, SqL.of (ok.fh _ _ hp), hz, fun m h1 h2 => k _ _ _ _ ok.refl (by rw [Rp]) (h m h1 h2)⟩
def pMaxL : List D → (D → Prop) → Prop
  | [.lst ds], Q => ∃ ns : List Int, ds = ns.map D.int ∧ 0 < ns.length ∧ ∀ m, m ∈ ns → (∀ y, y ∈ ns → y ≤ m) → Q (.int m)
  | _, _ => False
theorem d_maxL : DCl K (rMax K) pMaxL := by
  intro G H F vs ds Q R ok r h k
  match ds, h with
  | [.lst ds], ⟨ns, e, hz, h⟩ =>
    obtain ⟨v, rfl, r1⟩ := r.inv1
    rw [Rp] at r1
    obtain ⟨p, xs, rfl, hp, hl⟩ := r1
    subst e
    have := hl.ints
    subst this
    exact ⟨p, ns, rfl, SqL.of (ok.fh _ _ hp), hz, fun m h1 h2 => k _ _ _ _ ok.refl (by rw [Rp]) (h m h1 h2)⟩
def pAll : List D → (D → Prop) → Prop
  | [.lst ds], Q => ∃ bs : List Bool, ds = bs.map D.bl ∧ Q (.bl (bs.all id))
  | _, _ => False
theorem d_all : DCl K (rAll K) pAll := by
  intro G H F vs ds Q R ok r h k
  match ds, h with
  | [.lst ds], ⟨ns, e, h⟩ =>
    obtain ⟨v, rfl, r1⟩ := r.inv1
    rw [Rp] at r1
    obtain ⟨p, xs, rfl, hp, hl⟩ := r1
    subst e
    have := hl.bls
    subst this
    exact ⟨p, ns, rfl, SqL.of (ok.fh _ _ hp), k _ _ _ _ ok.refl (by rw [Rp]) h⟩
def pAny : List D → (D → Prop) → Prop
  | [.lst ds], Q => ∃ bs : List Bool, ds = bs.map D.bl ∧ Q (.bl (bs.any id))
  | _, _ => False
theorem d_any : DCl K (rAny K) pAny := by
  intro G H F vs ds Q R ok r h k
  match ds, h with
  | [.lst ds], ⟨ns, e, h⟩ =>
    obtain ⟨v, rfl, r1⟩ := r.inv1
    rw [Rp] at r1
    obtain ⟨p, xs, rfl, hp, hl⟩ := r1
    subst e
    have := hl.bls
    subst this
    exact ⟨p, ns, rfl, SqL.of (ok.fh _ _ hp), k _ _ _ _ ok.refl (by rw [Rp]) h⟩
def pList : List D → (D → Prop) → Prop
  | [.lst ds], Q => Q (.lst ds)
  | [.tup ds], Q => Q (.lst ds)
  | _, _ => False
theorem d_list : DCl K (fun xs H Q => ∃ p ys, xs = [.ref p] ∧ (SqL K H p ys ∨ SqT K H p ys) ∧ ∀ l, H l = none → Q (.ref l) (upd H l (.lst ys))) pList := by
  intro G H F vs ds Q R ok r h k
  match ds, h with
  | [.lst ds], h =>
    obtain ⟨v, rfl, r1⟩ := r.inv1
    rw [Rp] at r1
    obtain ⟨p, xs, rfl, hp, hl⟩ := r1
    refine ⟨p, xs, rfl, .inl (SqL.of (ok.fh _ _ hp)), fun l hn => k _ _ _ _ (ok.laid hn) ?_ h⟩
    rw [Rp]
    exact ⟨l, _, rfl, upd_same, RpL.mono (ok.laid hn).fe _ _ hl⟩
  | [.tup ds], h =>
    obtain ⟨v, rfl, r1⟩ := r.inv1
    rw [Rp] at r1
    obtain ⟨p, xs, rfl, hp, hl⟩ := r1
    refine ⟨p, xs, rfl, .inr (Same.sqT ok.fh hp), fun l hn => k _ _ _ _ (ok.laid hn) ?_ h⟩
    rw [Rp]
    exact ⟨l, _, rfl, upd_same, RpL.mono (ok.laid hn).fe _ _ hl⟩
def pTuple : List D → (D → Prop) → Prop
  | [.lst ds], Q => Q (.tup ds)
  | [.tup ds], Q => Q (.tup ds)
  | _, _ => False
theorem d_tuple : DCl K (fun xs H Q => ∃ p ys, xs = [.ref p] ∧ ((SqL K H p ys ∧ ∀ l, H l = none → Q (.ref l) (upd H l (.tup ys))) ∨ (SqT K H p ys ∧ Q (.ref p) H))) pTuple := by
  intro G H F vs ds Q R ok r h k
  match ds, h with
  | [.lst ds], h =>
    obtain ⟨v, rfl, r1⟩ := r.inv1
    rw [Rp] at r1
    obtain ⟨p, xs, rfl, hp, hl⟩ := r1
    refine ⟨p, xs, rfl, .inl ⟨SqL.of (ok.fh _ _ hp), fun l hn => k _ _ _ _ (ok.laid hn) ?_ h⟩⟩
    rw [Rp]
    exact ⟨l, _, rfl, SqT.of upd_same, RpL.mono (ok.laid hn).fe _ _ hl⟩
  | [.tup ds], h =>
    obtain ⟨v, rfl, r1⟩ := r.inv1
    have r1' := r1
    rw [Rp] at r1
    obtain ⟨p, xs, rfl, hp, hl⟩ := r1
    exact ⟨p, xs, rfl, .inr ⟨Same.sqT ok.fh hp, k _ _ _ _ ok.refl r1' h⟩⟩
end
end DL

set_option maxRecDepth 100000
set_option maxHeartbeats 4000000
namespace DL
open PySem L2

/-! ### what is walked -/
structure JW (K : PySem.W.Frag) (J : It) (B : Hp) (ds : List D) : Prop where
  go : ∀ G H F i, Ok G H F → Same B F → i < ds.length → J.go i H
  stop : ∀ G H F, Ok G H F → Same B F → J.stop ds.length H
  yld : ∀ G H F i x H', Ok G H F → Same B F → i < ds.length → J.yld i H x H' → ∃ d F', ds[i]? = some d ∧ Step G G H F H' F' ∧ Rp K F' d x
def cI (X : Cx) (tg iter : Expr) : TI := fun σ H R => ∀ pins s, Inv X pins σ H s →
  wpAny (model X.prog X.w) X.A (eval iter X.env) (fun v s1 => wpAny (model X.prog X.w) X.A (pyIter v) (PIE X pins σ tg R) X.xe s1) X.xe s
theorem pi_c {X : Cx} (tg iter : Expr) : PI X tg iter (cI X tg iter) := ⟨fun pins s _ _ _ I h => h pins s I⟩
theorem cI_of {X : Cx} {tg iter : Expr} {w : TI} {σ : St} {H : Hp} {R : It → Hp → Prop} (h : PI X tg iter w) (q : w σ H R) : cI X tg iter σ H R := fun pins s I => h.run pins s σ H R I q
theorem cI_mono {X : Cx} {tg iter : Expr} {σ : St} {H : Hp} {R R' : It → Hp → Prop} (h : cI X tg iter σ H R) (k : ∀ J H', R J H' → R' J H') : cI X tg iter σ H R' := fun pins s I =>
  thn (h pins s I) fun _ _ q => thn q fun _ _ ⟨it, fp, tn, J, H', e, I', t, n, f, r⟩ => ⟨it, fp, tn, J, H', e, I', t, n, f, k J H' r⟩
structure WI (X : Cx) (C : Fx) (tg iter : Expr) (ρ : E) (Q : Gd → List D → Prop) : Prop where
  run : ∀ σ H F, Rel X.K C ρ σ H F → cI X tg iter σ H fun J H' => ∃ G' ds F', Step ρ.G G' H F H' F' ∧ JW X.K J F' ds ∧ Q G' ds

def pIter : D → (List D → Prop) → Prop
  | .lst ds, Q => Q ds
  | .tup ds, Q => Q ds
  | .scr ns, Q => Q (ns.map D.int)
  | .str z, Q => Q (z.cps.toList.map fun c => D.str ⟨#[c]⟩)
  | _, _ => False
section
variable {X : Cx} {C : Fx} {γ : Gd} {sl : List Sl} {tg l : Expr} {pos p : Pos} {Q : Gd → List D → Prop} {K : PySem.W.Frag}
theorem lt_of_get {α : Type} {l : List α} {i : Nat} {x : α} (h : l[i]? = some x) : i < l.length := (List.getElem?_eq_some_iff.mp h).1
theorem jw_list {a : Addr} {xs : List V} {B : Hp} {ds : List D} (ha : SqL K B a xs) (hl : RpL K B ds xs) : JW K (Itl K a) B ds := by
  have w := walk_list (K := K) (a := a) (xs := xs)
  refine ⟨fun G H F i ok fl hi => ?_, fun G H F ok fl => ?_, fun G H F i x H' ok fl hi y => ?_⟩
  · exact w.goes i H (by rw [hl.length]; exact hi) (Same.sqL ok.fh (Same.sqL fl ha))
  · have := w.stops H (Same.sqL ok.fh (Same.sqL fl ha))
    rw [hl.length] at this
    exact this
  · obtain ⟨e, z⟩ := w.yields i H x H' (by rw [hl.length]; exact hi) (Same.sqL ok.fh (Same.sqL fl ha)) y
    subst e
    obtain ⟨d, hd, r⟩ := hl.getV z
    exact ⟨d, F, hd, ok.refl, Rp.mono fl _ _ r⟩
theorem jw_tup {a : Addr} {xs : List V} {B : Hp} {ds : List D} (ha : SqT K B a xs) (hl : RpL K B ds xs) : JW K (Itt K a) B ds := by
  have w := walk_tup (K := K) (a := a) (xs := xs)
  refine ⟨fun G H F i ok fl hi => ?_, fun G H F ok fl => ?_, fun G H F i x H' ok fl hi y => ?_⟩
  · exact w.goes i H (by rw [hl.length]; exact hi) (Same.sqT ok.fh (Same.sqT fl ha))
  · have := w.stops H (Same.sqT ok.fh (Same.sqT fl ha))
    rw [hl.length] at this
    exact this
  · obtain ⟨e, z⟩ := w.yields i H x H' (by rw [hl.length]; exact hi) (Same.sqT ok.fh (Same.sqT fl ha)) y
    subst e
    obtain ⟨d, hd, r⟩ := hl.getV z
    exact ⟨d, F, hd, ok.refl, Rp.mono fl _ _ r⟩
theorem jw_str {z : Str} {B : Hp} : JW K (Its z) B (z.cps.toList.map fun c => D.str ⟨#[c]⟩) := by
  have w := walk_str (z := z)
  have el : z.cps.size = (z.cps.toList.map fun c => D.str ⟨#[c]⟩).length := by rw [List.length_map, Array.length_toList]
  refine ⟨fun G H F i ok fl hi => ?_, fun G H F ok fl => ?_, fun G H F i x H' ok fl hi y => ?_⟩
  · exact w.goes i H (by rw [el]; exact hi) trivial
  · have := w.stops H trivial
    rw [el] at this
    exact this
  · obtain ⟨e, c, hc, ex⟩ := w.yields i H x H' (by rw [el]; exact hi) trivial y
    subst e ex
    refine ⟨.str ⟨#[c]⟩, F, ?_, ok.refl, by rw [Rp]⟩
    rw [List.getElem?_map, Array.getElem?_toList, hc]
    rfl
/-- a list, a tuple or a text -/
def iSq (K : PySem.W.Frag) (tl : TE) : TI := fun σ H R => tl σ H fun x H1 =>
  (∃ a, x = .ref a ∧ (∃ xs, SqL K H1 a xs) ∧ R (Itl K a) H1) ∨ (∃ a, x = .ref a ∧ (∃ xs, SqT K H1 a xs) ∧ R (Itt K a) H1) ∨ (∃ z, x = .str z ∧ R (Its z) H1)
theorem pi_sq {tl : TE} (hl : PE X l tl) : PI X tg l (iSq X.K tl) := by
  constructor
  intro pins s σ H R I h
  refine thn (hl.run pins s σ H _ I h) ?_
  rintro v s1 ⟨x, H1, I1, r1, q1⟩
  rcases q1 with ⟨a, rfl, ⟨xs, hx⟩, q⟩ | ⟨a, rfl, ⟨xs, hx⟩, q⟩ | ⟨z, rfl, q⟩
  · obtain rfl : v = .ref a := r1
    obtain ⟨its, _, hp, _⟩ := I1.list hx
    refine wpAny_pyIter_list hp.isList ⟨_, [s1.heap.objs.size], _, _, H1, rfl, ?_, turn_list a _, ⟨_, Heap.get?_push_size _ rfl, rfl, rfl⟩, ?_, q⟩
    · exact I1.kept (t' := s1.toks) (fun b o e => Heap.get?_push_of_some _ e)
    · intro b hb
      rw [List.mem_singleton] at hb
      subst hb
      exact I1.fpOk (Nat.le_refl _) (I1.hok.fresh (Nat.le_refl _))
  · obtain rfl : v = .ref a := r1
    obtain ⟨its, _, hp, _⟩ := I1.tuple hx
    refine wpAny_pyIter_tuple hp ⟨_, [s1.heap.objs.size], _, _, H1, rfl, ?_, turn_tuple a _, ⟨_, Heap.get?_push_size _ rfl, rfl, rfl⟩, ?_, q⟩
    · exact I1.kept (t' := s1.toks) (fun b o e => Heap.get?_push_of_some _ e)
    · intro b hb
      rw [List.mem_singleton] at hb
      subst hb
      exact I1.fpOk (Nat.le_refl _) (I1.hok.fresh (Nat.le_refl _))
  · obtain ⟨t, rfl⟩ := r1
    cases ha : z.cps.all (· < 128) with
    | false => exact wpAny_pyIter_wide ha (pi_one (tk := s1.toks) I1 _ (turn_str _ z t _ (.inr rfl)) ⟨_, Heap.get?_push_size _ rfl, rfl, rfl⟩ q)
    | true => exact wpAny_pyIter_ascii ha (pi_one (tk := s1.toks) I1 _ (turn_str _ z t _ (.inl rfl)) ⟨_, Heap.get?_push_size _ rfl, rfl, rfl⟩ q)
theorem wi_seq (h : WE X C l ⟨γ, sl⟩ fun G x => pIter x (Q G)) : WI X C tg l ⟨γ, sl⟩ Q := .mk fun σ H F r => by
  refine cI_of (pi_sq (pe_c l)) (cE_mono (h.run σ H F r) fun v H1 ⟨G1, d, F1, s1, r1, h1⟩ => ?_)
  have ok := s1.ok
  cases d <;> first | exact False.elim h1 | skip
  · rw [Rp] at r1
    subst r1
    exact .inr (.inr ⟨_, rfl, G1, _, F1, s1, jw_str, h1⟩)
  · rw [Rp] at r1
    obtain ⟨a, xs, rfl, ha, hl⟩ := r1
    exact .inl ⟨a, rfl, ⟨xs, SqL.of (ok.fh _ _ ha)⟩, G1, _, F1, s1, jw_list (SqL.of ha) hl, h1⟩
  · rw [Rp] at r1
    obtain ⟨a, xs, rfl, ha, hl⟩ := r1
    exact .inr (.inl ⟨a, rfl, ⟨xs, Same.sqT ok.fh ha⟩, G1, _, F1, s1, jw_tup ha hl, h1⟩)
  · rw [Rp] at r1
    obtain ⟨a, rfl, ha⟩ := r1
    exact .inl ⟨a, rfl, ⟨_, Same.sqL ok.fh ha⟩, G1, _, F1, s1, jw_list ha (RpL.of_ints _), h1⟩
def ups (n : Nat) (f : Nat → Int) : List D := (List.range n).map fun i => D.int (f i)
theorem ups_length (n : Nat) (f : Nat → Int) : (ups n f).length = n := by unfold ups; rw [List.length_map, List.length_range]
theorem ups_get {n : Nat} {f : Nat → Int} {i : Nat} (h : i < n) : (ups n f)[i]? = some (.int (f i)) := by
  unfold ups
  rw [List.getElem?_map, List.getElem?_range h]
  rfl
theorem ups_get' {n : Nat} {f : Nat → Int} {i : Nat} {d : D} (h : (ups n f)[i]? = some d) : i < n ∧ d = .int (f i) := by
  have hl := lt_of_get h
  rw [ups_length] at hl
  rw [ups_get hl] at h
  cases h
  exact ⟨hl, rfl⟩
theorem jw_ups {J : It} {n : Nat} {f : Nat → Int} {B : Hp} (w : Walk J n (fun _ => True) (YFn fun i => .int (f i))) : JW K J B (ups n f) := by
  refine ⟨fun G H F i ok fl hi => ?_, fun G H F ok fl => ?_, fun G H F i x H' ok fl hi y => ?_⟩
  · exact w.goes i H (by rw [ups_length] at hi; exact hi) trivial
  · rw [ups_length]
    exact w.stops H trivial
  · rw [ups_length] at hi
    obtain ⟨e, z⟩ := w.yields i H x H' hi trivial y
    subst e z
    exact ⟨_, F, ups_get hi, ok.refl, by rw [Rp]⟩
theorem wi_range1 {a : Expr} (hg : Gl X "range") (hm : X.mg "range" = none) (hs : starEach [a] X.env = [(false, eval a X.env)]) (h : WA X C [a] ⟨γ, sl⟩ fun G ds => ∃ n : Int, ds = [.int n] ∧ n ≤ 1000000000 ∧ -1000000000 ≤ n ∧ Q G (ups n.toNat fun i => i)) :
    WI X C tg (.Call (.Name "range" p) [a] [] pos) ⟨γ, sl⟩ Q := .mk fun σ H F r => by
  refine cI_of (pi_range1 hg hm (pa_c [a]) hs) (cA_mono (h.run σ H F r) fun vs H1 ⟨G1, ds, F1, s1, r1, n, e, h1, h2, q⟩ => ?_)
  subst e
  obtain ⟨v, rfl, r2⟩ := r1.inv1
  rw [Rp] at r2
  subst r2
  refine ⟨n, rfl, by omega, by omega, G1, _, F1, s1, ?_, q⟩
  refine jw_ups ?_
  have w := walk_range (lo := 0) (n := n.toNat)
  exact ⟨w.goes, w.stops, fun i H x H' hi g y => by
    obtain ⟨e1, e2⟩ := w.yields i H x H' hi g y
    exact ⟨e1, by rw [e2]; show V.int (0 + (i : Int)) = V.int i; rw [Int.zero_add]⟩⟩
theorem wi_range2 {a b : Expr} (hg : Gl X "range") (hm : X.mg "range" = none) (hs : starEach [a, b] X.env = [(false, eval a X.env), (false, eval b X.env)]) (hs2 : starEach [b] X.env = [(false, eval b X.env)])
    (h : WA X C [a, b] ⟨γ, sl⟩ fun G ds => ∃ lo hi : Int, ds = [.int lo, .int hi] ∧ (lo ≤ 1000000000 ∧ -1000000000 ≤ lo ∧ hi ≤ 1000000000 ∧ -1000000000 ≤ hi) ∧ Q G (ups (hi - lo).toNat fun i => lo + i)) :
    WI X C tg (.Call (.Name "range" p) [a, b] [] pos) ⟨γ, sl⟩ Q := .mk fun σ H F r => by
  refine cI_of (pi_range2 hg hm (pa_c [a, b]) hs hs2) (cA_mono (h.run σ H F r) fun vs H1 ⟨G1, ds, F1, s1, r1, lo, hi, e, h1, q⟩ => ?_)
  subst e
  obtain ⟨v, w, rfl, r2, r3⟩ := r1.inv2
  rw [Rp] at r2 r3
  subst r2 r3
  exact ⟨lo, hi, rfl, ⟨by omega, by omega, by omega, by omega⟩, G1, _, F1, s1, jw_ups walk_range, q⟩
/-- down by ones -/
theorem wi_down {a b c : Expr} (hg : Gl X "range") (hm : X.mg "range" = none) (hs : starEach [a, b, c] X.env = (false, eval a X.env) :: starEach [b, c] X.env) (hpl : (backTo pos (starEach [b, c] X.env)).any (·.1) = false)
    (h : WA X C [a, b, c] ⟨γ, sl⟩ fun G ds => ∃ lo hi : Int, ds = [.int lo, .int hi, .int (-1)] ∧ (lo ≤ 1000000000 ∧ -1000000000 ≤ lo ∧ hi ≤ 1000000000 ∧ -1000000000 ≤ hi) ∧ Q G (ups (lo - hi).toNat fun i => lo - i)) :
    WI X C tg (.Call (.Name "range" p) [a, b, c] [] pos) ⟨γ, sl⟩ Q := .mk fun σ H F r => by
  refine cI_of (pi_range3 hg hm (pa_c [a, b, c]) hs hpl) (cA_mono (h.run σ H F r) fun vs H1 ⟨G1, ds, F1, s1, r1, lo, hi, e, h1, q⟩ => ?_)
  subst e
  rw [RpL] at r1
  obtain ⟨v, t, rfl, r0, r1⟩ := r1
  obtain ⟨w, w', rfl, r2, r3⟩ := r1.inv2
  rw [Rp] at r0 r2 r3
  subst r0 r2 r3
  refine ⟨lo, hi, -1, _, rfl, RgC.neg (by omega) (by omega) (by omega) (by omega), G1, _, F1, s1, ?_, q⟩
  refine jw_ups ?_
  have w := walk_rangeC (lo := lo) (c := -1) (n := (lo - hi).toNat)
  exact ⟨w.goes, w.stops, fun i H x H' hi g y => by
    obtain ⟨e1, e2⟩ := w.yields i H x H' hi g y
    exact ⟨e1, by rw [e2]; show V.int (lo + (i : Int) * -1) = V.int (lo - i); rw [Int.mul_neg_one]; rfl⟩⟩
theorem jw_pairs {J : It} {f g : Nat → Option V} {ps : List (D × D)} {B : Hp} (GG : Hp → Prop) (w : Walk J ps.length GG (YPair f g)) (hG : ∀ H F, Same F H → Same B F → GG H)
    (hf : ∀ i a b x y, ps[i]? = some (a, b) → f i = some x → g i = some y → Rp K B a x ∧ Rp K B b y) : JW K J B (ps.map fun q => D.tup [q.1, q.2]) := by
  refine ⟨fun G H F i ok fl hi => ?_, fun G H F ok fl => ?_, fun G H F i x H' ok fl hi y => ?_⟩
  · exact w.goes i H (by rw [List.length_map] at hi; exact hi) (hG H F ok.fh fl)
  · rw [List.length_map]
    exact w.stops H (hG H F ok.fh fl)
  · rw [List.length_map] at hi
    obtain ⟨T, x1, y1, ev, hT, eH, h1, h2⟩ := w.yields i H x H' hi (hG H F ok.fh fl) y
    subst ev eH
    obtain ⟨q, hq⟩ : ∃ q, ps[i]? = some q := ⟨ps[i], by simp [hi]⟩
    obtain ⟨q1, q2⟩ := q
    obtain ⟨r1, r2⟩ := hf i q1 q2 x1 y1 hq h1 h2
    have st := ok.laid (o := .tup [x1, y1]) hT
    refine ⟨_, _, by rw [List.getElem?_map, hq]; rfl, st, ?_⟩
    rw [Rp]
    refine ⟨T, [x1, y1], rfl, SqT.of upd_same, RpL.cons ?_ (RpL.one ?_)⟩
    · exact Rp.mono st.fe _ _ (Rp.mono fl _ _ r1)
    · exact Rp.mono st.fe _ _ (Rp.mono fl _ _ r2)
theorem wi_enum {e : Expr} {elts : List Expr} {kk : Nat} {tpos : Pos} (hg : Gl X "enumerate") (hm : X.mg "enumerate" = none) (hs : starEach [e] X.env = [(false, eval e X.env)])
    (h : WA X C [e] ⟨γ, sl⟩ fun G ds => ∃ xs, ds = [.lst xs] ∧ Q G ((xs.zipIdx.map fun q => (D.int (q.2 : Nat), q.1)).map fun q => D.tup [q.1, q.2])) : WI X C (.Tuple elts kk tpos) (.Call (.Name "enumerate" p) [e] [] pos) ⟨γ, sl⟩ Q := .mk fun σ H F r => by
  refine cI_of (pi_enum hg hm (pa_c [e]) hs) (cA_mono (h.run σ H F r) fun vs H1 ⟨G1, ds, F1, s1, r1, xs, e, q⟩ => ?_)
  subst e
  obtain ⟨v, rfl, r2⟩ := r1.inv1
  rw [Rp] at r2
  obtain ⟨a, ys, rfl, ha, hl⟩ := r2
  refine ⟨a, ys, rfl, SqL.of (s1.fh _ _ ha), G1, _, F1, s1, ?_, q⟩
  have w := walk_enum (K := X.K) (a := a) (xs := ys)
  refine jw_pairs (fun H => SqL X.K H a ys) (f := fun i => some (.int (i : Nat))) (g := fun i => ys[i]?) ?_ (fun H F h1 h2 => Same.sqL h1 (Same.sqL h2 (SqL.of ha))) fun i a b x y e1 e2 e3 => ?_
  · have : (xs.zipIdx.map fun q => (D.int (q.2 : Nat), q.1)).length = ys.length := by rw [List.length_map, List.length_zipIdx, hl.length]
    rw [this]
    exact w
  · rw [List.getElem?_map, List.getElem?_zipIdx] at e1
    cases hx : xs[i]? with
    | none => rw [hx] at e1; cases e1
    | some d =>
      rw [hx] at e1
      simp at e1
      obtain ⟨rfl, rfl⟩ := e1
      cases e2
      obtain ⟨v, hv, rv⟩ := hl.get hx
      rw [e3] at hv
      cases hv
      exact ⟨by rw [Rp], rv⟩
theorem wi_zip {e e2 : Expr} {elts : List Expr} {kk : Nat} {tpos : Pos} (hg : Gl X "zip") (hm : X.mg "zip" = none) (hs : starEach [e, e2] X.env = (false, eval e X.env) :: starEach [e2] X.env) (hpl : (backTo pos (starEach [e2] X.env)).any (·.1) = false)
    (h : WA X C [e, e2] ⟨γ, sl⟩ fun G ds => ∃ xs ys, ds = [.lst xs, .lst ys] ∧ Q G ((xs.zip ys).map fun q => D.tup [q.1, q.2])) : WI X C (.Tuple elts kk tpos) (.Call (.Name "zip" p) [e, e2] [] pos) ⟨γ, sl⟩ Q := .mk fun σ H F r => by
  refine cI_of (pi_zip hg hm (pa_c [e, e2]) hs hpl) (cA_mono (h.run σ H F r) fun vs H1 ⟨G1, ds, F1, s1, r1, xs, ys, e, q⟩ => ?_)
  subst e
  obtain ⟨v, v', rfl, r2, r3⟩ := r1.inv2
  rw [Rp] at r2 r3
  obtain ⟨a, us, rfl, ha, hl⟩ := r2
  obtain ⟨b, ws, rfl, hb, hl'⟩ := r3
  refine ⟨a, b, us, ws, rfl, SqL.of (s1.fh _ _ ha), SqL.of (s1.fh _ _ hb), G1, _, F1, s1, ?_, q⟩
  have en : (xs.zip ys).length = min us.length ws.length := by rw [List.length_zip, hl.length, hl'.length]
  refine jw_pairs (fun H => SqL X.K H a us ∧ SqL X.K H b ws) (f := fun i => us[i]?) (g := fun i => ws[i]?) (walk_zip en) (fun H F h1 h2 => ⟨Same.sqL h1 (Same.sqL h2 (SqL.of ha)), Same.sqL h1 (Same.sqL h2 (SqL.of hb))⟩) fun i a b x y e1 e2 e3 => ?_
  rw [List.getElem?_zip_eq_some] at e1
  obtain ⟨v, hv, rv⟩ := hl.get e1.1
  obtain ⟨v', hv', rv'⟩ := hl'.get e1.2
  rw [e2] at hv
  rw [e3] at hv'
  cases hv
  cases hv'
  exact ⟨rv, rv'⟩
end
end DL

set_option maxRecDepth 100000
set_option maxHeartbeats 4000000
namespace DL
open PySem L2

/-! ### targets -/
theorem wipe_set {σ : St} {i : Nat} {o : Option V} : ∀ {vs : List Nat}, i ∈ vs → wipe (σ.set i o) vs = wipe σ vs
  | v :: vs, h => by
    by_cases hi : i ∈ vs
    · show (wipe (σ.set i o) vs).set v none = (wipe σ vs).set v none
      rw [wipe_set hi]
    · have e : i = v := by
        rcases List.mem_cons.mp h with h | h
        · exact h
        · exact absurd h hi
      subst e
      have out : ∀ {ws : List Nat}, i ∉ ws → wipe (σ.set i o) ws = (wipe σ ws).set i o := by
        intro ws
        induction ws with
        | nil => intro _; rfl
        | cons w ws ih =>
          intro hn
          have hw : i ≠ w := fun z => hn (by rw [z]; exact List.mem_cons_self)
          have hn' : i ∉ ws := fun z => hn (List.mem_cons_of_mem _ z)
          show (wipe (σ.set i o) ws).set w none = ((wipe σ ws).set w none).set i o
          rw [ih hn', List.set_comm _ _ hw]
      show (wipe (σ.set i o) vs).set i none = (wipe σ vs).set i none
      rw [out hi, List.set_set]
theorem wipe_wipe (σ : St) : ∀ (vs ws : List Nat), (∀ i ∈ ws, i ∈ vs) → wipe (wipe σ ws) vs = wipe σ vs
  | vs, [], _ => rfl
  | vs, w :: ws, h => by
    show wipe ((wipe σ ws).set w none) vs = _
    rw [wipe_set (h w List.mem_cons_self), wipe_wipe σ vs ws fun i hi => h i (List.mem_cons_of_mem _ hi)]
/-- what a target does with data; the slots that it sets -/
def GB (K : PySem.W.Frag) (g : TG) (is : List Nat) (b : D → E → (E → Prop) → Prop) : Prop :=
  ∀ C d ρ (Q : E → Prop) σ H F v, Rel K C ρ σ H F → Rp K F d v → b d ρ Q → ∀ R : St → Hp → Prop, (∀ σ' ρ', Rel K C ρ' σ' H F → ρ'.G = ρ.G → (∀ vs, (∀ i ∈ is, i ∈ vs) → wipe σ' vs = wipe σ vs) → Q ρ' → R σ' H) → g v σ H R
def bName (i : Nat) : D → E → (E → Prop) → Prop := fun d ρ Q => Q ⟨ρ.G, ρ.sl.set i (.sh d)⟩
def setAll : List Nat → List D → List Sl → List Sl
  | i :: is, d :: ds, sl => setAll is ds (sl.set i (.sh d))
  | _, _, sl => sl
def bTup (is : List Nat) : D → E → (E → Prop) → Prop
  | .tup ds, ρ, Q => ds.length = is.length ∧ Q ⟨ρ.G, setAll is ds ρ.sl⟩
  | _, _, _ => False
theorem b_name {i : Nat} {d : D} {G : Gd} {sl : List Sl} {Q : E → Prop} (q : Q ⟨G, sl.set i (.sh d)⟩) : bName i d ⟨G, sl⟩ Q := q
theorem b_tup {is : List Nat} {ds : List D} {G : Gd} {sl : List Sl} {Q : E → Prop} (h : ds.length = is.length) (q : Q ⟨G, setAll is ds sl⟩) : bTup is (.tup ds) ⟨G, sl⟩ Q := ⟨h, q⟩
theorem b_tup2 {i j : Nat} {a b : D} {G : Gd} {sl : List Sl} {Q : E → Prop} (q : Q ⟨G, (sl.set i (.sh a)).set j (.sh b)⟩) : bTup [i, j] (.tup [a, b]) ⟨G, sl⟩ Q := ⟨rfl, q⟩
theorem b_tup3 {i j k : Nat} {a b c : D} {G : Gd} {sl : List Sl} {Q : E → Prop} (q : Q ⟨G, ((sl.set i (.sh a)).set j (.sh b)).set k (.sh c)⟩) : bTup [i, j, k] (.tup [a, b, c]) ⟨G, sl⟩ Q := ⟨rfl, q⟩
def gNames : List Nat → TGs
  | [] => gNil
  | i :: is => gCons (gName i) (gNames is)
section
variable {K : PySem.W.Frag}
theorem gb_name {i : Nat} : GB K (gName i) [i] (bName i) := fun C d ρ Q σ H F v r h q R k =>
  k _ _ (r.set h) rfl (fun vs hi => wipe_set (hi i List.mem_cons_self)) q
theorem gb_names : ∀ (is : List Nat) (C : Fx) (ds : List D) (ρ : E) (Q : E → Prop) (σ : St) (H F : Hp) (vs : List V), Rel K C ρ σ H F → RpL K F ds vs → ds.length = is.length → Q ⟨ρ.G, setAll is ds ρ.sl⟩ → ∀ R : St → Hp → Prop,
    (∀ σ' ρ', Rel K C ρ' σ' H F → ρ'.G = ρ.G → (∀ vs, (∀ i ∈ is, i ∈ vs) → wipe σ' vs = wipe σ vs) → Q ρ' → R σ' H) → gNames is vs σ H R
  | [], C, ds, ρ, Q, σ, H, F, vs, r, h, hl, q, R, k => by
    cases ds with
    | cons => simp at hl
    | nil =>
      rw [RpL] at h
      exact ⟨h, k σ ρ r rfl (fun _ _ => rfl) q⟩
  | i :: is, C, ds, ρ, Q, σ, H, F, vs, r, h, hl, q, R, k => by
    cases ds with
    | nil => simp at hl
    | cons d ds =>
      rw [RpL] at h
      obtain ⟨v, rest, rfl, h1, h2⟩ := h
      refine ⟨v, rest, rfl, ?_⟩
      refine gb_names is C ds ⟨ρ.G, ρ.sl.set i (.sh d)⟩ Q _ H F rest (r.set h1) h2 (by simpa using hl) q R fun σ' ρ' r' eg hw q' => ?_
      refine k σ' ρ' r' eg (fun ws hws => ?_) q'
      rw [hw ws fun j hj => hws j (List.mem_cons_of_mem _ hj), wipe_set (hws i List.mem_cons_self)]
theorem gb_tup {is : List Nat} {n : Nat} (hn : is.length = n) : GB K (gTup K n (gNames is)) is (bTup is) := fun C d ρ Q σ H F v r h q R k => by
  cases d <;> first | exact False.elim q | skip
  rw [Rp] at h
  obtain ⟨a, xs, rfl, ha, hl⟩ := h
  refine ⟨a, xs, rfl, Same.sqT r.ok.fh ha, by rw [hl.length, q.1, hn], ?_⟩
  exact gb_names is C _ ρ Q σ H F xs r hl q.1 q.2 R k
end

/-! ### statements -/
section
variable {X : Cx} {C : Fx} {γ : Gd} {sl : List Sl} {nx bk ct : E → Prop} {rt : Gd → D → Prop} {e c : Expr} {pos pos' : Pos} {st : Stmt} {rest body : List Stmt}
theorem wss_nil (h : nx ⟨γ, sl⟩) : WSs X C [] ⟨γ, sl⟩ ⟨nx, rt, bk, ct⟩ := .mk fun σ H F r => cSs_of pss_nil ⟨⟨γ, sl⟩, F, r, h⟩
theorem wss_cons (h : WS X C st ⟨γ, sl⟩ ⟨fun ρ' => WSs X C rest ρ' ⟨nx, rt, bk, ct⟩, rt, bk, ct⟩) : WSs X C (st :: rest) ⟨γ, sl⟩ ⟨nx, rt, bk, ct⟩ := .mk fun σ H F r => by
  refine cSs_of (pss_cons (ps_c st) (pss_c rest)) ?_
  refine cS_mono (h.run σ H F r) (fun σ' H' ⟨ρ', F', r', q⟩ => WSs.run q σ' H' F' r') (fun _ _ q => q) (fun _ _ q => q) (fun _ _ q => q)
theorem ws_ret (h : WE X C e ⟨γ, sl⟩ rt) : WS X C (.Return (some e) pos) ⟨γ, sl⟩ ⟨nx, rt, bk, ct⟩ := .mk fun σ H F r =>
  cS_of (ps_ret (pe_c e)) (cE_mono (h.run σ H F r) fun v H1 ⟨G1, d, F1, s1, r1, q⟩ => .inl ⟨G1, d, F1, r.st.trans s1, r1, q⟩)
/-- return of a list that the def has filled -/
theorem ws_retOwn {i : Nat} {x : Str} {p1 : Pos} {ds : List D} (hN : X.N[i]? = some x) (hv : Vis X.env.scope x) (hd : (x == ("__debug__" : Str)) = false) (hcd : (x == ("__classdict__" : Str)) = false) (hs : sl[i]? = some (.ow ds)) (q : rt γ (.own ds)) :
    WS X C (.Return (some (.Name x p1)) pos) ⟨γ, sl⟩ ⟨nx, rt, bk, ct⟩ := .mk fun σ H F r => by
  obtain ⟨p, vs, hp, h0, fp, gp, hv1, hl⟩ := r.own hs
  exact cS_of (ps_ret (pe_var hN hv hd hcd)) ⟨.ref p, hp, .inr ⟨γ, ds, F, p, vs, rfl, r.st, h0, fp, gp, hv1, hl, q⟩⟩
theorem ws_pass (h : nx ⟨γ, sl⟩) : WS X C (.Pass pos) ⟨γ, sl⟩ ⟨nx, rt, bk, ct⟩ := .mk fun σ H F r => cS_of ps_pass ⟨⟨γ, sl⟩, F, r, h⟩
theorem ws_break (h : bk ⟨γ, sl⟩) : WS X C (.Break pos) ⟨γ, sl⟩ ⟨nx, rt, bk, ct⟩ := .mk fun σ H F r => cS_of ps_break ⟨⟨γ, sl⟩, F, r, h⟩
theorem ws_continue (h : ct ⟨γ, sl⟩) : WS X C (.Continue pos) ⟨γ, sl⟩ ⟨nx, rt, bk, ct⟩ := .mk fun σ H F r => cS_of ps_continue ⟨⟨γ, sl⟩, F, r, h⟩
theorem ws_expr (hs : swapsWith e none pos.line X.env = pure false) (h : WE X C e ⟨γ, sl⟩ fun G _ => nx ⟨G, sl⟩) : WS X C (.Expr e pos) ⟨γ, sl⟩ ⟨nx, rt, bk, ct⟩ := .mk fun σ H F r =>
  cS_of (ps_expr (pe_c e) hs) (cE_mono (h.run σ H F r) fun v H1 ⟨G1, d, F1, s1, r1, q⟩ => ⟨_, F1, r.step s1, q⟩)
theorem ws_if {a b : List Stmt} (h : WT X C c ⟨γ, sl⟩ fun G k => if k = true then WSs X C a ⟨G, sl⟩ ⟨nx, rt, bk, ct⟩ else WSs X C b ⟨G, sl⟩ ⟨nx, rt, bk, ct⟩) : WS X C (.If c a b pos) ⟨γ, sl⟩ ⟨nx, rt, bk, ct⟩ := .mk fun σ H F r =>
  cS_of (ps_if (pt_c c) (pss_c a) (pss_c b)) (cT_mono (h.run σ H F r) fun k H1 ⟨G1, F1, s1, q⟩ => by
    cases k with
    | true => exact WSs.run q σ H1 F1 (r.step s1)
    | false => exact WSs.run q σ H1 F1 (r.step s1))
theorem ws_set {i : Nat} {x : Str} (hN : X.N.Nodup) (hi : X.N[i]? = some x) (hx : Loc X.env.scope x) (hs : swapsWith e (some (.Name x pos')) pos.line X.env = pure false) (hf : X.fn x = true ∨ X.env.scope.names.lookup x = some .local)
    (h : WE X C e ⟨γ, sl⟩ fun G d => nx ⟨G, sl.set i (.sh d)⟩) : WS X C (.Assign [.Name x pos'] e pos) ⟨γ, sl⟩ ⟨nx, rt, bk, ct⟩ := .mk fun σ H F r =>
  cS_of (ps_set hN hi hx (pe_c e) hs hf) (cE_mono (h.run σ H F r) fun v H1 ⟨G1, d, F1, s1, r1, q⟩ => ⟨_, F1, (r.step s1).set r1, q⟩)
/-- x = [e, ..], a list that x will fill -/
theorem ws_new {i : Nat} {x : Str} {es : List Expr} {p1 : Pos} (hN : X.N.Nodup) (hi : X.N[i]? = some x) (hx : Loc X.env.scope x) (hs : swapsWith (.List es p1) (some (.Name x pos')) pos.line X.env = pure false) (hf : X.fn x = true ∨ X.env.scope.names.lookup x = some .local)
    (h : WA X C es ⟨γ, sl⟩ fun G ds => ds.length ≤ 1000000 ∧ nx ⟨G, sl.set i (.ow ds)⟩) : WS X C (.Assign [.Name x pos'] (.List es p1) pos) ⟨γ, sl⟩ ⟨nx, rt, bk, ct⟩ := .mk fun σ H F r =>
  cS_of (ps_set hN hi hx (pe_lst (pa_c es)) hs hf) (cA_mono (h.run σ H F r) fun vs H1 ⟨G1, ds, F1, s1, r1, hl, q⟩ => ⟨by rw [r1.length]; exact size_ok hl, fun p hp => ⟨_, F1, (r.step s1).newOwn hp r1, q⟩⟩)
theorem ws_asg {tg : Expr} {g : TG} {is : List Nat} {b : D → E → (E → Prop) → Prop} (hg : PG X tg g) (hb : GB X.K g is b) (hs : swapsWithSole [tg] e pos.line X.env = pure false) (hw : swappedStores [tg] e X.env = pure none) (h1 : (assignEach [tg] X.env).map (·.2) = [assign tg X.env])
    (h : WE X C e ⟨γ, sl⟩ fun G d => b d ⟨G, sl⟩ nx) : WS X C (.Assign [tg] e pos) ⟨γ, sl⟩ ⟨nx, rt, bk, ct⟩ := .mk fun σ H F r =>
  cS_of (ps_asg (pe_c e) hg hs hw h1) (cE_mono (h.run σ H F r) fun v H1 ⟨G1, d, F1, s1, r1, q⟩ =>
    hb C d ⟨G1, sl⟩ nx σ H1 F1 v (r.step s1) r1 q _ fun σ' ρ' r' _ _ q' => ⟨ρ', F1, r', q'⟩)
/-- a, b = e1, e2 -/
theorem ws_par {i j : Nat} {x y : Str} {a b : Expr} {px py pt : Pos} {kt k2 : Nat} {pt2 : Pos} (hc : X.calm = true) (hN : X.N.Nodup) (hi : X.N[i]? = some x) (hj : X.N[j]? = some y) (hij : i ≠ j)
    (hx : X.env.scope.names.lookup x = some .local) (hy : X.env.scope.names.lookup y = some .local)
    (hw : swappedStores [.Tuple [.Name x px, .Name y py] kt pt] (.Tuple [a, b] k2 pt2) X.env = pure (some [x, y]))
    (hs : swapsWithSole [.Tuple [.Name x px, .Name y py] kt pt] (.Tuple [a, b] k2 pt2) pos.line X.env = pure false)
    (h : WA X C [a, b] ⟨γ, sl⟩ fun G ds => ∃ d1 d2, ds = [d1, d2] ∧ nx ⟨G, (sl.set i (.sh d1)).set j (.sh d2)⟩) : WS X C (.Assign [.Tuple [.Name x px, .Name y py] kt pt] (.Tuple [a, b] k2 pt2) pos) ⟨γ, sl⟩ ⟨nx, rt, bk, ct⟩ := .mk fun σ H F r =>
  cS_of (ps_par hc hN hi hj hij hx hy (pa_c [a, b]) hw hs) (cA_mono (h.run σ H F r) fun vs H1 ⟨G1, ds, F1, s1, r1, d1, d2, e, q⟩ => by
    subst e
    obtain ⟨v, w, rfl, h1, h2⟩ := r1.inv2
    exact ⟨v, w, rfl, _, F1, ((r.step s1).set h1).set h2, q⟩)
/-- a for -/
theorem ws_for {tg iter : Expr} {g : TG} {is : List Nat} {b : D → E → (E → Prop) → Prop} (hp : PassesOwn (model X.prog X.w) X.A X.env X.xe) (hc : X.calm = true) (hg : PG X tg g) (hb : GB X.K g is b) (hs : ∀ x, foldedSetIterable iter X.env x = pure x)
    (h : WI X C tg iter ⟨γ, sl⟩ fun G ds => ∃ P : Nat → E → Prop, P 0 ⟨G, sl⟩ ∧ (∀ (B : Hp) i d ρ', ds[i]? = some d → P i ρ' → b d ρ' fun ρ2 => WSs X { C with B := B } body ρ2 ⟨P (i + 1), rt, nx, P (i + 1)⟩) ∧ ∀ ρ', P ds.length ρ' → nx ρ') :
    WS X C (.For tg iter body [] pos) ⟨γ, sl⟩ ⟨nx, rt, bk, ct⟩ := .mk fun σ H F r => by
  refine cS_of (ps_for hp hc (pi_c tg iter) hg (pss_c body) hs) ?_
  refine cI_mono (h.run σ H F r) fun J H1 ⟨G1, ds, F1, s1, jw, P, h0, hstep, hend⟩ => ?_
  have r1 : Rel X.K { C with B := F1 } ⟨G1, sl⟩ σ H1 F1 := (r.step s1).floor fun _ _ z => z
  have back : ∀ {ρ' : E} {σ' : St} {H' F' : Hp}, Rel X.K { C with B := F1 } ρ' σ' H' F' → Rel X.K C ρ' σ' H' F' := fun {ρ' σ' H' F'} q => ⟨q.st, fun a o z => q.fl a o (s1.fe a o (r.fl a o z)), q.ln, q.sl⟩
  refine ⟨fun i m σ' H' => m = ds.length - i ∧ i ≤ ds.length ∧ ∃ ρ' F', Rel X.K { C with B := F1 } ρ' σ' H' F' ∧ P i ρ', ⟨ds.length, by omega, Nat.zero_le _, _, F1, r1, h0⟩, ?_⟩
  rintro i m σ' H' ⟨rfl, hi, ρ', F', r', p⟩
  by_cases hlt : i < ds.length
  · refine .inr ⟨jw.go _ H' F' i r'.ok r'.fl hlt, fun σ2 H2 => ∃ ρ2 F2, Rel X.K { C with B := F1 } ρ2 σ2 H2 F2 ∧ P (i + 1) ρ2, fun σ2 H2 ⟨ρ2, F2, r2, p2⟩ => ⟨ds.length - (i + 1), by omega, rfl, hlt, ρ2, F2, r2, p2⟩, fun x H2 y => ?_⟩
    obtain ⟨d, F2, hd, s2, rx⟩ := jw.yld _ H' F' i x H2 r'.ok r'.fl hlt y
    refine hb _ d ρ' _ σ' H2 F2 x (r'.step s2) rx (hstep F1 i d ρ' hd p) _ fun σ3 ρ3 r3 _ _ q3 => ?_
    refine cSs_mono (WSs.run q3 σ3 H2 F2 r3) (fun _ _ q => q) (fun v H4 q4 => q4) (fun σ4 H4 ⟨ρ4, F4, r4, q4⟩ => ⟨ρ4, F4, back r4, q4⟩) (fun _ _ q => q)
  · have e : i = ds.length := by omega
    subst e
    exact .inl ⟨jw.stop _ H' F' r'.ok r'.fl, ρ', F', back r', hend ρ' p⟩
/-- a while, by a number that falls -/
theorem ws_while (hp : PassesOwn (model X.prog X.w) X.A X.env X.xe) (P : Nat → E → Prop) (m0 : Nat) (h0 : P m0 ⟨γ, sl⟩)
    (h : ∀ m ρ', P m ρ' → WT X C c ρ' fun G k => if k = true then WSs X C body ⟨G, ρ'.sl⟩ ⟨fun ρ2 => ∃ m', m' < m ∧ P m' ρ2, rt, nx, fun ρ2 => ∃ m', m' < m ∧ P m' ρ2⟩ else nx ⟨G, ρ'.sl⟩) : WS X C (.While c body [] pos) ⟨γ, sl⟩ ⟨nx, rt, bk, ct⟩ := .mk fun σ H F r => by
  refine cS_of (ps_while hp (pt_c c) (pss_c body)) ?_
  refine ⟨fun m σ' H' => ∃ ρ' F', Rel X.K C ρ' σ' H' F' ∧ P m ρ', ⟨m0, ⟨γ, sl⟩, F, r, h0⟩, ?_⟩
  rintro m σ' H' ⟨ρ', F', r', p⟩
  refine cT_mono ((h m ρ' p).run σ' H' F' r') fun k H1 ⟨G1, F1, s1, q⟩ => ?_
  cases k with
  | false => exact ⟨_, F1, r'.step s1, q⟩
  | true =>
    refine ⟨fun σ2 H2 => ∃ ρ2 F2, Rel X.K C ρ2 σ2 H2 F2 ∧ ∃ m', m' < m ∧ P m' ρ2, fun σ2 H2 ⟨ρ2, F2, r2, m', hm, p2⟩ => ⟨m', hm, ρ2, F2, r2, p2⟩, ?_⟩
    exact WSs.run q σ' H1 F1 (r'.step s1)
end
end DL

set_option maxRecDepth 100000
set_option maxHeartbeats 4000000
namespace DL
open PySem L2

/-! ### comprehensions -/
def wipeS (sl : List Sl) : List Nat → List Sl
  | [] => sl
  | v :: vs => (wipeS sl vs).set v .un
section
variable {K : PySem.W.Frag} {C : Fx} {ρ : E} {σ : St} {H F : Hp}
theorem Rel.wipe (r : Rel K C ρ σ H F) : ∀ vs : List Nat, Rel K C ⟨ρ.G, wipeS ρ.sl vs⟩ (L2.wipe σ vs) H F
  | [] => r
  | v :: vs => (Rel.wipe r vs).drop v none
/-- an object of ours that no slot holds is changed -/
theorem Rel.loose {a : Addr} {o : HO} (r : Rel K C ρ σ H F) (h0 : C.H a = none) (fa : F a = none) (ga : ¬ ρ.G.own a) (ha : H a ≠ none) (hn : ∀ i : Nat, σ[i]? ≠ some (some (.ref a))) : Rel K C ρ σ (upd H a o) F := by
  have q := r.st
  obtain ⟨pa, inj, hs⟩ := r.sl
  refine ⟨⟨q.fe, fun b u h => ?_, q.nw, fun b u g h => ?_, fun b h => ?_, ?_, q.ow, q.fo, fun b h => ?_⟩, r.fl, r.ln, pa, inj, fun i s e => ?_⟩
  · rw [upd_ne (ne_of_none h fa)]
    exact q.fh b u h
  · rw [upd_ne (ne_of_none h h0)]
    exact q.kp b u g h
  · by_cases z : b = a
    · subst z
      rw [upd_same]
      exact fun z => nomatch z
    · rw [upd_ne z]
      exact q.dm b h
  · refine ρ.G.st H _ q.iv fun b u g h => ?_
    have ne : b ≠ a := fun z => ga (by rw [← z]; exact g)
    rw [upd_ne ne]
    exact h
  · by_cases z : b = a
    · subst z
      rw [upd_same]
      exact fun z => nomatch z
    · rw [upd_ne z]
      exact q.ex b h
  · have w := hs i s e
    cases s with
    | un => trivial
    | sh d => exact w
    | ow ds =>
      obtain ⟨a1, a2, a3, a4, ws, a5, a6⟩ := w
      have ne : pa i ≠ a := fun z => hn i (by rw [a1, z])
      exact ⟨a1, a2, a3, a4, ws, by rw [upd_ne ne]; exact a5, a6⟩
    | od ds =>
      obtain ⟨a1, a2, a3, a4, ws, a5, a6⟩ := w
      have ne : pa i ≠ a := fun z => hn i (by rw [a1, z])
      exact ⟨a1, a2, a3, a4, ws, by rw [upd_ne ne]; exact a5, a6⟩
end
/-- the contexts of a comprehension's block -/
def Blk (X : Cx) (scope : Scope) (X' : Cx) : Prop := ∃ s H A cl fp, X' = X.blk s H scope (compEnvC scope cl A X.env) fp
/-- the tests of a comprehension -/
def WTs (X : Cx) (C : Fx) (ifs : List Expr) (ρ : E) (Q : Gd → Bool → Prop) : Prop := match ifs with
  | [] => Q ρ.G true
  | [c] => WT X C c ρ Q
  | _ => False
theorem lc_read {X : Cx} {C : Fx} {γ : Gd} {sl : List Sl} {σ : St} {H F : Hp} {elt tg iter : Expr} {ifs : List Expr} {scope : Scope} {vs is : List Nat} {g : TG} {b : D → E → (E → Prop) → Prop} {Q : Gd → D → Prop} {t2 : TT} {R0 : VK} (r : Rel X.K C ⟨γ, sl⟩ σ H F) (hR : ∀ v H' G' d F', Step γ G' H F H' F' → Rp X.K F' d v → Q G' d → R0 v H') (hb : GB X.K g is b) (hv : ∀ i ∈ is, i ∈ vs)
    (ht : ∀ (C' : Fx) (ρ' : E) (Q' : Gd → Bool → Prop) (σ' : St) (H' F' : Hp) (R : Bool → Hp → Prop), Rel X.K C' ρ' σ' H' F' → (∀ X', Blk X scope X' → WTs X' C' ifs ρ' Q') → (∀ k H2 G2 F2, Step ρ'.G G2 H' F' H2 F2 → Q' G2 k → R k H2) → t2 σ' H' R)
    (h : WI X C tg iter ⟨γ, sl⟩ fun G ds => ds.length ≤ 900000 ∧ ∃ P : Nat → Gd → List D → Prop, P 0 G [] ∧
      (∀ (B : Hp) i d G' acc, ds[i]? = some d → P i G' acc → b d ⟨G', wipeS sl vs⟩ fun ρ2 => ∀ X', Blk X scope X' → WTs X' { C with B := B } ifs ρ2 fun G2 k => if k = true then (∀ X', Blk X scope X' → WE X' { C with B := B } elt ⟨G2, ρ2.sl⟩ fun G3 y => P (i + 1) G3 (acc ++ [y])) else P (i + 1) G2 acc) ∧
      ∀ G' acc, P ds.length G' acc → Q G' (.lst acc)) :
    tLc (cI X tg iter) g t2 (fun σ H R => ∀ X', Blk X scope X' → cE X' elt σ H R) vs σ H R0 := by
  refine cI_mono (h.run σ H F r) fun J H1 ⟨G1, ds, F1, s1, jw, hz, P, h0, hstep, hend⟩ D0 hD => ?_
  have r1 : Rel X.K { C with B := F1 } ⟨G1, sl⟩ σ H1 F1 := (r.step s1).floor fun _ _ z => z
  have c0 : C.H D0 = none := by
    cases e : C.H D0 with
    | none => rfl
    | some u => exact absurd hD (r1.st.dm D0 (ne_none e))
  have H0n : H D0 = none := by
    cases e : H D0 with
    | none => rfl
    | some u => exact absurd hD (s1.dm D0 (ne_none e))
  have nslot : ∀ i : Nat, sl[i]? ≠ none → ∀ s, sl[i]? = some s → s.owned = true → σ[i]? ≠ some (some (.ref D0)) := by
    intro i _ s e ho z
    obtain ⟨pa, _, hs⟩ := r1.sl
    have w := hs i s e
    cases s with
    | un => cases ho
    | sh => cases ho
    | ow ds' =>
      obtain ⟨a1, _, _, _, ws, a5, _⟩ := w
      rw [z] at a1
      injection a1 with a1
      injection a1 with a1
      injection a1 with a1
      rw [← a1, hD] at a5
      cases a5
    | od ds' =>
      obtain ⟨a1, _, _, _, ws, a5, _⟩ := w
      rw [z] at a1
      injection a1 with a1
      injection a1 with a1
      injection a1 with a1
      rw [← a1, hD] at a5
      cases a5
  -- the list grows at D0, which nobody else holds
  have grow : ∀ {G' : Gd} {H' F' : Hp} {o : HO}, Rel X.K { C with B := F1 } ⟨G', sl⟩ σ H' F' → F' D0 = none → ¬ G'.own D0 → H' D0 ≠ none → Rel X.K { C with B := F1 } ⟨G', sl⟩ σ (upd H' D0 o) F' := by
    intro G' H' F' o r' fa ga ha
    obtain ⟨pa, inj, hs⟩ := r'.sl
    refine ⟨r'.st.loose c0 fa ga ha, r'.fl, r'.ln, pa, inj, fun i s e => ?_⟩
    have w := hs i s e
    cases s with
    | un => trivial
    | sh d => exact w
    | ow ds' =>
      obtain ⟨a1, a2, a3, a4, ws, a5, a6⟩ := w
      have ne : pa i ≠ D0 := fun z => nslot i (ne_none e) _ e rfl (by rw [a1, z])
      exact ⟨a1, a2, a3, a4, ws, by rw [upd_ne ne]; exact a5, a6⟩
    | od ds' =>
      obtain ⟨a1, a2, a3, a4, ws, a5, a6⟩ := w
      have ne : pa i ≠ D0 := fun z => nslot i (ne_none e) _ e rfl (by rw [a1, z])
      exact ⟨a1, a2, a3, a4, ws, by rw [upd_ne ne]; exact a5, a6⟩
  have f1D : F1 D0 = none := by
    cases e : F1 D0 with
    | none => rfl
    | some u =>
      rw [s1.fh D0 u e] at hD
      cases hD
  have g1D : ¬ G1.own D0 := fun z => s1.ex D0 z hD
  -- what holds between two turns
  let Pv : Nat → Hp → Prop := fun i H' => ∃ G' acc av F', Rel X.K { C with B := F1 } ⟨G', sl⟩ σ H' F' ∧ Step γ G' H F H' F' ∧ H' D0 = some (.lst av) ∧ F' D0 = none ∧ ¬ G'.own D0 ∧ RpL X.K F' acc av ∧ acc.length ≤ i ∧ P i G' acc
  have stD : ∀ {G G' : Gd} {H' F' H2 F2 : Hp} {av : List V}, Step G G' H' F' H2 F2 → H' D0 = some (.lst av) → F' D0 = none → ¬ G.own D0 → H2 D0 = some (.lst av) ∧ F2 D0 = none ∧ ¬ G'.own D0 := by
    intro G G' H' F' H2 F2 av s a1 a2 a3
    refine ⟨s.kp D0 _ a3 a1, ?_, fun z => ?_⟩
    · cases e : F2 D0 with
      | none => rfl
      | some u =>
        rw [s.nw D0 a2 (ne_none e)] at a1
        cases a1
    · rcases s.ow D0 z with z | z
      · exact a3 z
      · rw [z] at a1
        cases a1
  have s1' := s1.ok.loose (o := .lst []) hD
  refine ⟨fun i m H' => m = ds.length - i ∧ i ≤ ds.length ∧ Pv i H', ⟨ds.length, by omega, Nat.zero_le _, G1, [], [], F1, r1.step s1', s1.trans s1', upd_same, f1D, g1D, RpL.nil, Nat.le_refl _, h0⟩, ?_⟩
  rintro i m H' ⟨rfl, hi, G', acc, av, F', r', s', hD', fD', gD', hl, hlen, p⟩
  by_cases hlt : i < ds.length
  · refine .inr ⟨jw.go _ H' F' i r'.ok r'.fl hlt, Pv (i + 1), fun H2 p2 => ⟨ds.length - (i + 1), by omega, rfl, hlt, p2⟩, fun x H2 y => ?_⟩
    obtain ⟨d, F2, hd, s2, rx⟩ := jw.yld _ H' F' i x H2 r'.ok r'.fl hlt y
    obtain ⟨hD2, fD2, gD2⟩ := stD s2 hD' fD' gD'
    have r2 := r'.step s2
    refine hb _ d ⟨G', wipeS sl vs⟩ _ _ H2 F2 x (r2.wipe vs) rx (hstep F1 i d G' acc hd p) _ fun σ3 ρ3 r3 eg hw q3 => ⟨?_, ?_⟩
    · rw [hw vs hv, wipe_wipe σ vs vs fun _ z => z]
    · have eg' : ρ3.G = G' := eg
      refine ht _ ρ3 _ σ3 H2 F2 _ r3 q3 fun k H4 G4 F4 s4 q4 => ?_
      rw [eg'] at s4
      obtain ⟨hD4, fD4, gD4⟩ := stD s4 hD2 fD2 gD2
      have r4 := r2.step s4
      have s24 := (s'.trans s2).trans s4
      cases k with
      | false => exact ⟨G4, acc, av, F4, r4, s24, hD4, fD4, gD4, RpL.mono s4.fe _ _ (RpL.mono s2.fe _ _ hl), by omega, q4⟩
      | true =>
        intro X' bX
        have kX : X'.K = X.K := by
          obtain ⟨_, _, _, _, _, rfl⟩ := bX
          rfl
        have r34 : Rel X.K { C with B := F1 } ⟨G4, ρ3.sl⟩ σ3 H4 F4 := r3.step (by rw [eg']; exact s4)
        refine cE_mono ((q4 X' bX).run σ3 H4 F4 (by rw [kX]; exact r34)) fun v H5 ⟨G5, dy, F5, s5, r5, q5⟩ => ?_
        obtain ⟨hD5, fD5, gD5⟩ := stD s5 hD4 fD4 gD4
        refine ⟨av, hD5, ?_, G5, acc ++ [dy], av ++ [v], F5, grow (r4.step s5) fD5 gD5 (ne_none hD5), (s24.trans s5).loose H0n fD5 gD5 (ne_none hD5), upd_same, fD5, gD5, ?_, ?_, q5⟩
        · rw [hl.length]
          exact Nat.lt_of_lt_of_le (by omega : acc.length < 1000000) (sz (Nat.le_refl _))
        · refine RpL.append (RpL.mono s5.fe _ _ (RpL.mono s4.fe _ _ (RpL.mono s2.fe _ _ hl))) (RpL.one ?_)
          rw [kX] at r5
          exact r5
        · rw [List.length_append, List.length_singleton]
          omega
  · have e : i = ds.length := by omega
    subst e
    refine .inl ⟨jw.stop _ H' F' r'.ok r'.fl, hR _ _ G' _ (upd F' D0 (.lst av)) (s'.freeze H0n fD' gD' hD') ?_ (hend G' acc p)⟩
    rw [Rp]
    refine ⟨D0, av, rfl, upd_same, RpL.mono (fun a o h => ?_) _ _ hl⟩
    rw [upd_ne (ne_of_none h fD')]
    exact h
section
variable {X : Cx} {C : Fx} {γ : Gd} {sl : List Sl} {elt tg iter : Expr} {ifs : List Expr} {scope : Scope} {own : List (Str × Nat)} {is : List Nat} {g : TG} {b : D → E → (E → Prop) → Prop} {Q : Gd → D → Prop} {pos : Pos}
/-- the tests' canonical reading -/
def cTs (X : Cx) (scope : Scope) (ifs : List Expr) : TT := fun σ H R => match ifs with
  | [] => R true H
  | [c] => ∀ X', Blk X scope X' → cT X' c σ H R
  | _ => False
theorem pts_c {X' : Cx} (hb : Blk X scope X') : PTs X' ifs (cTs X scope ifs) := by
  match ifs with
  | [] => exact pts_nil
  | [c] => exact pts_one ⟨fun pins s σ H Q I h => h X' hb pins s I⟩
  | _ :: _ :: _ => exact ⟨fun _ _ _ _ _ _ h => h.elim⟩
theorem cTs_of (X0 : Cx) (hX0 : Blk X scope X0) {C' : Fx} {ρ' : E} {Q' : Gd → Bool → Prop} {σ' : St} {H' F' : Hp} {R : Bool → Hp → Prop} (r : Rel X.K C' ρ' σ' H' F') (h : ∀ X', Blk X scope X' → WTs X' C' ifs ρ' Q') (k : ∀ k H2 G2 F2, Step ρ'.G G2 H' F' H2 F2 → Q' G2 k → R k H2) : cTs X scope ifs σ' H' R := by
  match ifs with
  | [] => exact k true H' ρ'.G F' r.ok.refl (h X0 hX0)
  | [c] =>
    intro X' bX
    have kX : X'.K = X.K := by
      obtain ⟨_, _, _, _, _, rfl⟩ := bX
      rfl
    exact cT_mono ((h X' bX).run σ' H' F' (by rw [kX]; exact r)) fun v H2 ⟨G2, F2, s2, q⟩ => k v H2 G2 F2 s2 q
  | _ :: _ :: _ => exact (h X0 hX0).elim
theorem wts_nil {X : Cx} {C : Fx} {γ : Gd} {sl : List Sl} {Q : Gd → Bool → Prop} (q : Q γ true) : WTs X C [] ⟨γ, sl⟩ Q := q
theorem wts_one {X : Cx} {C : Fx} {c : Expr} {γ : Gd} {sl : List Sl} {Q : Gd → Bool → Prop} (q : WT X C c ⟨γ, sl⟩ Q) : WTs X C [c] ⟨γ, sl⟩ Q := q
/-- what is asked of a comprehension -/
def LcR (X : Cx) (C : Fx) (γ : Gd) (sl : List Sl) (elt tg iter : Expr) (ifs : List Expr) (scope : Scope) (vs : List Nat) (b : D → E → (E → Prop) → Prop) (Q : Gd → D → Prop) : Prop :=
  WI X C tg iter ⟨γ, sl⟩ fun G ds => ds.length ≤ 900000 ∧ ∃ P : Nat → Gd → List D → Prop, P 0 G [] ∧
      (∀ (B : Hp) i d G' acc, ds[i]? = some d → P i G' acc → b d ⟨G', wipeS sl vs⟩ fun ρ2 => ∀ X', Blk X scope X' → WTs X' { C with B := B } ifs ρ2 fun G2 k => if k = true then (∀ X', Blk X scope X' → WE X' { C with B := B } elt ⟨G2, ρ2.sl⟩ fun G3 y => P (i + 1) G3 (acc ++ [y])) else P (i + 1) G2 acc) ∧
      ∀ G' acc, P ds.length G' acc → Q G' (.lst acc)
theorem we_lc (hc : X.calm = true) (hN : X.N.Nodup) (ok : BlkOk X.N X.env.scope scope own) (hg : ∀ X', Blk X scope X' → PG X' tg g) (hb : GB X.K g is b) (hv : ∀ i ∈ is, i ∈ own.map (·.2)) (hs : ∀ x, foldedSetIterable iter X.env x = pure x)
    (h : LcR X C γ sl elt tg iter ifs scope (own.map (·.2)) b Q) : WE X C (.ListComp elt [⟨tg, iter, ifs, 0⟩] scope pos) ⟨γ, sl⟩ Q := .mk fun σ H F r pins s I => by
  have X0 : Blk X scope (X.blk s H scope (compEnvC scope [] 0 X.env) []) := ⟨s, H, 0, [], [], rfl⟩
  refine cE_of (pe_lc (te := fun σ H R => ∀ X', Blk X scope X' → cE X' elt σ H R) hc hN (pi_c tg iter) ok (fun s H A cl fp => hg _ ⟨s, H, A, cl, fp, rfl⟩) (fun s H A cl fp => pts_c ⟨s, H, A, cl, fp, rfl⟩) (fun s H A cl fp => ?_) hs) ?_ pins s I
  · exact ⟨fun pins s1 σ H Q I h => h _ ⟨s, _, A, cl, fp, rfl⟩ pins s1 I⟩
  · exact lc_read r (fun v H' G' d F' s q z => ⟨G', d, F', s, q, z⟩) hb hv (fun C' ρ' Q' σ' H' F' R r' h' k' => cTs_of _ X0 r' h' k') h
/-- y = [..] -/
theorem ws_setLc {i : Nat} {y : Str} {py spos : Pos} {nx bk ct : E → Prop} {rt : Gd → D → Prop} (hc : X.calm = true) (hN : X.N.Nodup) (hy : X.N[i]? = some y) (hyl : X.env.scope.names.lookup y = some .local)
    (hsw : swapsWith (.ListComp elt [⟨tg, iter, ifs, 0⟩] scope pos) (some (.Name y py)) spos.line X.env = pure true)
    (ok : BlkOk X.N X.env.scope scope own) (hg : ∀ X', Blk X scope X' → PG X' tg g) (hb : GB X.K g is b) (hv : ∀ i ∈ is, i ∈ own.map (·.2)) (hs : ∀ x, foldedSetIterable iter X.env x = pure x)
    (h : LcR X C γ sl elt tg iter ifs scope (own.map (·.2)) b fun G d => nx ⟨G, sl.set i (.sh d)⟩) : WS X C (.Assign [.Name y py] (.ListComp elt [⟨tg, iter, ifs, 0⟩] scope pos) spos) ⟨γ, sl⟩ ⟨nx, rt, bk, ct⟩ := .mk fun σ H F r pins s I => by
  have X0 : Blk X scope (X.blk s H scope (compEnvC scope [] 0 X.env) []) := ⟨s, H, 0, [], [], rfl⟩
  refine cS_of (ps_setLc (te := fun σ H R => ∀ X', Blk X scope X' → cE X' elt σ H R) hc hN hy hyl hsw (pi_c tg iter) ok (fun s H A cl fp => hg _ ⟨s, H, A, cl, fp, rfl⟩) (fun s H A cl fp => pts_c ⟨s, H, A, cl, fp, rfl⟩) (fun s H A cl fp => ?_) hs) ?_ pins s I
  · exact ⟨fun pins s1 σ H Q I h => h _ ⟨s, _, A, cl, fp, rfl⟩ pins s1 I⟩
  · exact lc_read (tg := tg) (iter := iter) (elt := elt) (Q := fun G d => nx ⟨G, sl.set i (.sh d)⟩) r (fun v H' G' d F' s q z => ⟨_, F', (r.step s).set q, z⟩) hb hv (fun C' ρ' Q' σ' H' F' R r' h' k' => cTs_of _ X0 r' h' k') h
end
end DL

set_option maxRecDepth 100000
set_option maxHeartbeats 4000000
namespace DL
open PySem L2

/-! ### promises over data -/
abbrev DSp := Gd → List D → (Gd → D → Prop) → Prop
def toSp (K : PySem.W.Frag) (P : DSp) : Sp := fun vs H Q _ => ∃ G F ds R, Ok G H F ∧ RpL K F ds vs ∧ P G ds R ∧ (∀ v H' G' d F', Step G G' H F H' F' → Rp K F' d v → R G' d → Q v H') ∧
  ∀ p us H' G' es F', Step G G' H F H' F' → H p = none → F' p = none → ¬ G'.own p → H' p = some (.lst us) → RpL K F' es us → R G' (.own es) → Q (.ref p) H'
/-- a list that is handed back as one's own is a list -/
def fr (Q : Gd → D → Prop) : Gd → D → Prop := fun G d => match d with
  | .own es => Q G (.lst es)
  | d => Q G d
theorem fr_of {Q : Gd → D → Prop} {G : Gd} {d : D} {K : PySem.W.Frag} {F : Hp} {v : V} (h : Rp K F d v) (q : fr Q G d) : Q G d := by
  cases d <;> first | exact q | (rw [Rp] at h; exact h.elim)
def startS (N : List Str) (ds : List D) : List Sl := ds.map Sl.sh ++ List.replicate (N.length - ds.length) .un
theorem rel_start {K : PySem.W.Frag} {N : List Str} {ds : List D} {vs : List V} {G : Gd} {H F : Hp} (ok : Ok G H F) (h : RpL K F ds vs) : Rel K ⟨G, H, F, F⟩ ⟨G, startS N ds⟩ (L2.start N vs) H F := by
  have el : vs.length = ds.length := h.length
  refine ⟨ok.refl, fun _ _ z => z, ?_, fun _ => 0, fun i j s t e1 _ o1 _ _ => ?_, fun i s e => ?_⟩
  · show (startS N ds).length = (L2.start N vs).length
    unfold startS L2.start
    rw [List.length_append, List.length_append, List.length_map, List.length_map, List.length_replicate, List.length_replicate, el]
  · exfalso
    have e1' : (ds.map Sl.sh ++ List.replicate (N.length - ds.length) Sl.un)[i]? = some s := e1
    rcases List.mem_append.mp (List.mem_of_getElem? e1') with hm | hm
    · obtain ⟨d, _, rfl⟩ := List.mem_map.mp hm
      cases o1
    · rw [(List.mem_replicate.mp hm).2] at o1
      cases o1
  · have e' : (ds.map Sl.sh ++ List.replicate (N.length - ds.length) Sl.un)[i]? = some s := e
    by_cases hi : i < ds.length
    · rw [List.getElem?_append_left (by rw [List.length_map]; exact hi), List.getElem?_map] at e'
      obtain ⟨d, hd⟩ : ∃ d, ds[i]? = some d := ⟨ds[i], by simp [hi]⟩
      rw [hd] at e'
      cases e'
      obtain ⟨v, hv, rv⟩ := h.get hd
      refine ⟨v, ?_, rv⟩
      unfold L2.start
      rw [List.getElem?_append_left (by rw [List.length_map, el]; exact hi), List.getElem?_map, hv]
      rfl
    · rw [List.getElem?_append_right (by rw [List.length_map]; omega)] at e'
      have := (List.mem_replicate.mp (List.mem_of_getElem? e')).2
      subst this
      trivial
section
variable {Pr : Program} {w : World} {K : PySem.W.Frag} {mg : Str → Option Value} {base : Heap}
/-- A DEF, by its body -/
theorem def_ok {x qual : Str} {st : Stmt} {f : Addr} {fd : FuncData} {N ps : List Str} {k : Nat} {P : DSp} (F : Fun K x qual st f fd) (S : FnScope N ps (defScope st)) (len : ∀ G ds R, P G ds R → ds.length = ps.length)
    (hbody : ∀ (cdv : Value) (A : Around) (outer : List Env) (s : Shared) (H0 : Hp) (E0 : XK) (C : Fx) (ds : List D) (R : Gd → D → Prop), Room k (A.deeper (PyProof.Rows.envOfC qual (defScope st) s.heap.objs.size f cdv)) → P C.G ds R →
      WSs (cxOf CX0 Pr w K mg base N qual (defScope st) f cdv A outer s H0 E0).nox C (defBody st) ⟨C.G, startS N ds⟩ { nx := fun ρ' => R ρ'.G .non, rt := R }) : FnOk Pr w K mg base CX0 (k + 1) f fd ps (toSp K P) := by
  refine F.ok S (fun vs H Q E ⟨G, F, ds, R, ok, h, p, _⟩ => ?_) fun cdv A outer s H vs Q E hr ⟨G, F, ds, R, ok, h, p, k⟩ => ?_
  · rw [h.length]
    exact len G ds R p
  · refine ⟨_, pss_c _, ?_⟩
    refine cSs_mono ((hbody cdv A outer s H E ⟨G, H, F, F⟩ ds R hr p).run (L2.start N vs) H F (rel_start ok h)) (fun σ' H' ⟨ρ', F', r', q⟩ => ?_) (fun v H' q => ?_) (fun σ' H' ⟨_, _, _, q⟩ => q) (fun σ' H' ⟨_, _, _, q⟩ => q)
    · exact k.1 .non H' _ .non F' r'.st (by rw [Rp]) q
    · rcases q with ⟨G', d, F', s', r', q⟩ | ⟨G', es, F', p, us, rfl, s', h0, fp, gp, hp, hl, q⟩
      · exact k.1 v H' G' d F' s' r' q
      · exact k.2 p us H' G' es F' s' h0 fp gp hp hl q
/-- a def of the module, to be called -/
structure Cal (Pr : Program) (w : World) (K : PySem.W.Frag) (mg : Str → Option Value) (base : Heap) (k : Nat) (x : Str) (P : DSp) : Prop where
  ex : ∃ f fd ps, FnOk Pr w K mg base CX0 k f fd ps (toSp K P) ∧ mg x = some (.ref f) ∧ PySem.W.keepIn K (.ref f) = true ∧ Binds K fd ps []
end
section
variable {X : Cx} {C : Fx} {γ : Gd} {sl : List Sl} {nx bk ct : E → Prop} {rt : Gd → D → Prop} {Q : Gd → D → Prop} {e : Expr} {es : List Expr} {pos p : Pos} {x : Str} {P : DSp} {k : Nat}
theorem we_call (c : Cal X.prog X.w X.K X.mg X.base k x P) (hr : Room k X.A) (hg : Gl X x) (hd : (x == ("__debug__" : Str)) = false) (hs : starEach (e :: es) X.env = (false, eval e X.env) :: starEach es X.env) (hp : ((backTo pos (starEach es X.env)).any fun x => x.fst) = false)
    (h : WA X C (e :: es) ⟨γ, sl⟩ fun G ds => P G ds (fr Q)) : WE X C (.Call (.Name x p) (e :: es) [] pos) ⟨γ, sl⟩ Q := .mk fun σ H F r => by
  obtain ⟨f, fd, ps, F0, hm, hk, hb⟩ := c.ex
  refine cE_of (pe_call F0 hr hg hm hk hb .nil pass0 (pa_c (e :: es)) hd hs hp) ?_
  refine cA_mono (h.run σ H F r) fun vs H1 ⟨G1, ds, F1, s1, r1, q⟩ => ?_
  show toSp X.K P (vs ++ []) H1 _ _
  rw [List.append_nil]
  refine ⟨G1, F1, ds, fr Q, s1.ok, r1, q, fun v H2 G2 d F2 s2 r2 q2 => ⟨G2, d, F2, s1.trans s2, r2, fr_of r2 q2⟩, fun p us H2 G2 es F2 s2 h0 fp gp hp hl q2 => ?_⟩
  refine ⟨G2, .lst es, upd F2 p (.lst us), s1.trans (s2.freeze h0 fp gp hp), ?_, q2⟩
  rw [Rp]
  exact ⟨p, us, rfl, upd_same, RpL.mono (fun a o h => by rw [upd_ne (ne_of_none h fp)]; exact h) _ _ hl⟩
theorem we_call0 (c : Cal X.prog X.w X.K X.mg X.base k x P) (hr : Room k X.A) (hg : Gl X x) (hd : (x == ("__debug__" : Str)) = false)
    (h : P γ [] (fr Q)) : WE X C (.Call (.Name x p) [] [] pos) ⟨γ, sl⟩ Q := .mk fun σ H F r => by
  obtain ⟨f, fd, ps, F0, hm, hk, hb⟩ := c.ex
  refine cE_of (pe_call0 F0 hr hg hm hk hb .nil pass0 hd) ?_
  refine ⟨γ, F, [], fr Q, r.ok, RpL.nil, h, fun v H2 G2 d F2 s2 r2 q2 => ⟨G2, d, F2, s2, r2, fr_of r2 q2⟩, fun p us H2 G2 es F2 s2 h0 fp gp hp hl q2 => ?_⟩
  refine ⟨G2, .lst es, upd F2 p (.lst us), s2.freeze h0 fp gp hp, ?_, q2⟩
  rw [Rp]
  exact ⟨p, us, rfl, upd_same, RpL.mono (fun a o h => by rw [upd_ne (ne_of_none h fp)]; exact h) _ _ hl⟩
/-- star in a display -/
theorem wa_star {a : Expr} {p1 : Pos} {Q : Gd → List D → Prop} (hs : starEach (.Starred a p1 :: es) X.env = (true, eval a X.env) :: starEach es X.env)
    (h : WE X C a ⟨γ, sl⟩ fun G x => ∃ ds, (x = .lst ds ∨ x = .tup ds) ∧ WA X C es ⟨G, sl⟩ fun G' ys => Q G' (ds ++ ys)) : WA X C (.Starred a p1 :: es) ⟨γ, sl⟩ Q := .mk fun σ H F r => by
  refine cA_of (StX.pa_star (pe_c a) (pa_c es) hs) ?_
  refine cE_mono (h.run σ H F r) fun v H1 ⟨G1, d1, F1, s1, r1, ds, hd, h1⟩ => ?_
  have key : ∀ vs, RpL X.K F1 ds vs → cA X es σ H1 fun ys H2 => RA X.K γ H F Q (vs ++ ys) H2 := fun vs hl =>
    cA_mono (h1.run σ H1 F1 (r.step s1)) fun u H2 ⟨G2, d2, F2, s2, r2, h2⟩ => ⟨G2, ds ++ d2, F2, s1.trans s2, RpL.append (RpL.mono s2.fe _ _ hl) r2, h2⟩
  rcases hd with rfl | rfl
  · rw [Rp] at r1
    obtain ⟨a, xs, rfl, ha, hl⟩ := r1
    exact ⟨a, xs, rfl, .inr (SqL.of (s1.fh _ _ ha)), key xs hl⟩
  · rw [Rp] at r1
    obtain ⟨a, xs, rfl, ha, hl⟩ := r1
    exact ⟨a, xs, rfl, .inl (Same.sqT s1.fh ha), key xs hl⟩
end

/-! ### lists that a slot owns -/
section
variable {X : Cx} {C : Fx} {γ : Gd} {sl : List Sl} {nx bk ct : E → Prop} {rt : Gd → D → Prop} {e : Expr} {pos ap cp p1 : Pos} {x : Str} {i : Nat} {ds : List D}
theorem ws_app (hN : X.N[i]? = some x) (hv : Vis X.env.scope x) (hd : (x == ("__debug__" : Str)) = false) (hcd : (x == ("__classdict__" : Str)) = false) (hs : sl[i]? = some (.ow ds))
    (hb : attributeBase (.Name x p1) "append" X.env (eval (.Name x p1) X.env) = eval (.Name x p1) X.env)
    (hp : ((((backTo cp (starEach [e] X.env)).all fun x => !x.fst) && (backToKw cp (keywordEach [] X.env)).all fun x => x.fst.isSome) && decide (([e].length + ([] : List Keyword).length + if ([] : List Keyword).isEmpty = true then 0 else 1) < 30)) = true) (hl : (ap.endLine == cp.line) = true)
    (hse : starEach [e] X.env = (false, eval e X.env) :: starEach [] X.env) (hst : ((backTo cp (starEach [] X.env)).any fun x => x.fst) = false) (hsw : swapsWith (.Call (.Attribute (.Name x p1) "append" ap) [e] [] cp) none pos.line X.env = pure false)
    (h : WE X C e ⟨γ, sl⟩ fun G d => ds.length < 900000 ∧ nx ⟨G, sl.set i (.ow (ds ++ [d]))⟩) : WS X C (.Expr (.Call (.Attribute (.Name x p1) "append" ap) [e] [] cp) pos) ⟨γ, sl⟩ ⟨nx, rt, bk, ct⟩ := .mk fun σ H F r => by
  refine cS_of (ps_expr (pe_bm PySem.F.plainAttrs_list PySem.F.slot_list_append PySem.F.type_list_append mt_append (pe_var hN hv hd hcd) (pa_cons (pe_c e) pa_nil hse) hb hp hl hse hst) hsw) ?_
  obtain ⟨q, vs, hq, c0, fq, gq, hqv, hlv⟩ := r.own hs
  refine ⟨.ref q, hq, .inl ⟨rfl, vs, SqL.of hqv⟩, ?_⟩
  refine cE_mono (h.run σ H F r) fun v H1 ⟨G1, d, F1, s1, r1, hz, k⟩ => ?_
  have r' := r.step s1
  have hq1 : H1 q = some (.lst vs) := s1.kp q _ gq hqv
  refine ⟨q, vs, v, rfl, rfl, hq1, ?_, _, F1, r'.setOwn hs hq (RpL.append (RpL.mono s1.fe _ _ hlv) (RpL.one r1)), k⟩
  rw [hlv.length]
  exact Nat.lt_of_lt_of_le (by omega : ds.length < 1000000) (sz (Nat.le_refl _))
theorem ws_ext (hN : X.N[i]? = some x) (hv : Vis X.env.scope x) (hd : (x == ("__debug__" : Str)) = false) (hcd : (x == ("__classdict__" : Str)) = false) (hs : sl[i]? = some (.ow ds))
    (hb : attributeBase (.Name x p1) "extend" X.env (eval (.Name x p1) X.env) = eval (.Name x p1) X.env)
    (hp : ((((backTo cp (starEach [e] X.env)).all fun x => !x.fst) && (backToKw cp (keywordEach [] X.env)).all fun x => x.fst.isSome) && decide (([e].length + ([] : List Keyword).length + if ([] : List Keyword).isEmpty = true then 0 else 1) < 30)) = true) (hl : (ap.endLine == cp.line) = true)
    (hse : starEach [e] X.env = (false, eval e X.env) :: starEach [] X.env) (hst : ((backTo cp (starEach [] X.env)).any fun x => x.fst) = false) (hsw : swapsWith (.Call (.Attribute (.Name x p1) "extend" ap) [e] [] cp) none pos.line X.env = pure false)
    (h : WE X C e ⟨γ, sl⟩ fun G d => ∃ es, d = .lst es ∧ ds.length + es.length < 900000 ∧ nx ⟨G, sl.set i (.ow (ds ++ es))⟩) : WS X C (.Expr (.Call (.Attribute (.Name x p1) "extend" ap) [e] [] cp) pos) ⟨γ, sl⟩ ⟨nx, rt, bk, ct⟩ := .mk fun σ H F r => by
  refine cS_of (ps_expr (pe_bm PySem.F.plainAttrs_list PySem.F.slot_list_extend PySem.F.type_list_extend mt_extend (pe_var hN hv hd hcd) (pa_cons (pe_c e) pa_nil hse) hb hp hl hse hst) hsw) ?_
  obtain ⟨q, vs, hq, c0, fq, gq, hqv, hlv⟩ := r.own hs
  refine ⟨.ref q, hq, .inl ⟨rfl, vs, SqL.of hqv⟩, ?_⟩
  refine cE_mono (h.run σ H F r) fun v H1 ⟨G1, d, F1, s1, r1, es, ed, hz, k⟩ => ?_
  subst ed
  rw [Rp] at r1
  obtain ⟨b, zs, rfl, hb1, hl1⟩ := r1
  have r' := r.step s1
  have hq1 : H1 q = some (.lst vs) := s1.kp q _ gq hqv
  refine ⟨q, b, vs, zs, rfl, rfl, hq1, s1.fh _ _ hb1, ?_, _, F1, r'.setOwn hs hq (RpL.append (RpL.mono s1.fe _ _ hlv) hl1), k⟩
  rw [hlv.length, hl1.length]
  exact sz (by omega)
/-- x.insert(0, e) -/
theorem ws_ins0 {e0 : Expr} (hN : X.N[i]? = some x) (hv : Vis X.env.scope x) (hd : (x == ("__debug__" : Str)) = false) (hcd : (x == ("__classdict__" : Str)) = false) (hs : sl[i]? = some (.ow ds))
    (hb : attributeBase (.Name x p1) "insert" X.env (eval (.Name x p1) X.env) = eval (.Name x p1) X.env)
    (hp : ((((backTo cp (starEach [e0, e] X.env)).all fun x => !x.fst) && (backToKw cp (keywordEach [] X.env)).all fun x => x.fst.isSome) && decide (([e0, e].length + ([] : List Keyword).length + if ([] : List Keyword).isEmpty = true then 0 else 1) < 30)) = true) (hl : (ap.endLine == cp.line) = true)
    (hse : starEach [e0, e] X.env = (false, eval e0 X.env) :: starEach [e] X.env) (hst : ((backTo cp (starEach [e] X.env)).any fun x => x.fst) = false) (hsw : swapsWith (.Call (.Attribute (.Name x p1) "insert" ap) [e0, e] [] cp) none pos.line X.env = pure false)
    (h : WA X C [e0, e] ⟨γ, sl⟩ fun G es => ∃ d, es = [.int 0, d] ∧ ds.length < 900000 ∧ nx ⟨G, sl.set i (.ow (d :: ds))⟩) : WS X C (.Expr (.Call (.Attribute (.Name x p1) "insert" ap) [e0, e] [] cp) pos) ⟨γ, sl⟩ ⟨nx, rt, bk, ct⟩ := .mk fun σ H F r => by
  refine cS_of (ps_expr (pe_bm PySem.F.plainAttrs_list PySem.F.slot_list_insert PySem.F.type_list_insert mt_insert (pe_var hN hv hd hcd) (pa_c [e0, e]) hb hp hl hse hst) hsw) ?_
  obtain ⟨q, vs, hq, c0, fq, gq, hqv, hlv⟩ := r.own hs
  refine ⟨.ref q, hq, .inl ⟨rfl, vs, SqL.of hqv⟩, ?_⟩
  refine cA_mono (h.run σ H F r) fun ws H1 ⟨G1, es, F1, s1, r1, d, ed, hz, k⟩ => ?_
  subst ed
  obtain ⟨v0, v, rfl, h1, h2⟩ := r1.inv2
  rw [Rp] at h1
  subst h1
  have r' := r.step s1
  have hq1 : H1 q = some (.lst vs) := s1.kp q _ gq hqv
  refine ⟨q, vs, 0, v, rfl, rfl, hq1, ?_, by decide, by decide, _, F1, r'.setOwn hs hq (RpL.cons h2 (RpL.mono s1.fe _ _ hlv)), k⟩
  rw [hlv.length]
  exact Nat.lt_of_lt_of_le (by omega : ds.length < 1000000) (sz (Nat.le_refl _))
/-- while a test is made the list may be read as a frozen one -/
theorem borrow {G G1 : Gd} {H H1 F F1 : Hp} {q : Addr} {o : HO} (fq : F q = none) (s : Step G G1 H (upd F q o) H1 F1) : Step G G1 H F H1 (fun a => if a = q then none else F1 a) := by
  refine ⟨fun a u h => ?_, fun a u h => ?_, fun a h z => ?_, s.kp, s.dm, s.iv, s.ow, fun a g => ?_, s.ex⟩
  · have ne : a ≠ q := ne_of_none h fq
    show (if a = q then none else F1 a) = some u
    rw [if_neg ne]
    exact s.fe a u (by rw [upd_ne ne]; exact h)
  · by_cases e : a = q
    · simp only [if_pos e] at h
      cases h
    · simp only [if_neg e] at h
      exact s.fh a u h
  · by_cases e : a = q
    · simp only [if_pos e] at z
      exact absurd rfl z
    · simp only [if_neg e] at z
      exact s.nw a (by rw [upd_ne e]; exact h) z
  · show (if a = q then none else F1 a) = none
    by_cases e : a = q
    · rw [if_pos e]
    · rw [if_neg e]
      exact s.fo a g
theorem wt_borrow {c : Expr} {QT : Gd → Bool → Prop} (i : Nat) {ds : List D} (hs : sl[i]? = some (.ow ds)) (h : WT X C c ⟨γ, sl.set i (.sh (.lst ds))⟩ QT) : WT X C c ⟨γ, sl⟩ QT := .mk fun σ H F r => by
  obtain ⟨q, vs, hq, r', _, _⟩ := r.freeze hs
  obtain ⟨q', _, hq', _, fq, _⟩ := r.own hs
  have e : q' = q := by
    rw [hq] at hq'
    injection hq' with z
    injection z with z
    injection z with z
    exact z.symm
  subst e
  exact cT_mono (h.run σ H _ r') fun b H1 ⟨G1, F1, s1, k⟩ => ⟨G1, _, borrow fq s1, k⟩
def D.scal : D → Bool
  | .non => true
  | .bl _ => true
  | .int _ => true
  | .str _ => true
  | .raw _ => true
  | _ => false
theorem Rp.scal {K : PySem.W.Frag} {F F' : Hp} {d : D} {v : V} (hs : d.scal = true) (h : Rp K F d v) : Rp K F' d v := by
  cases d <;> first | (cases hs; done) | (rw [Rp] at h ⊢; exact h)
/-- .. an expression whose value is no list .. -/
theorem we_borrow {Q : Gd → D → Prop} (i : Nat) {ds : List D} (hs : sl[i]? = some (.ow ds)) (h : WE X C e ⟨γ, sl.set i (.sh (.lst ds))⟩ fun G d => d.scal = true ∧ Q G d) : WE X C e ⟨γ, sl⟩ Q := .mk fun σ H F r => by
  obtain ⟨q, vs, hq, r', _, _⟩ := r.freeze hs
  obtain ⟨q', _, hq', _, fq, _⟩ := r.own hs
  have e : q' = q := by
    rw [hq] at hq'
    injection hq' with z
    injection z with z
    injection z with z
    exact z.symm
  subst e
  exact cE_mono (h.run σ H _ r') fun b H1 ⟨G1, d, F1, s1, r1, k1, k⟩ => ⟨G1, d, _, borrow fq s1, Rp.scal k1 r1, k⟩
/-- an item of an owned list -/
theorem we_ixOwn {b : Expr} {Q : Gd → D → Prop} (hN : X.N[i]? = some x) (hv : Vis X.env.scope x) (hd : (x == ("__debug__" : Str)) = false) (hcd : (x == ("__classdict__" : Str)) = false) (hs : sl[i]? = some (.ow ds)) (hm : PlainIx b)
    (h : WE X C b ⟨γ, sl⟩ fun G y => ∃ j d, y = .int j ∧ atI ds j = some d ∧ Q G d) : WE X C (.Subscript (.Name x p1) b pos) ⟨γ, sl⟩ Q := .mk fun σ H F r => by
  obtain ⟨q, vs, hq, c0, fq, gq, hqv, hlv⟩ := r.own hs
  refine cE_of (pe_ix ix_list (pe_var hN hv hd hcd) (pe_c b) hm) ⟨.ref q, hq, ?_⟩
  refine cE_mono (h.run σ H F r) fun v H1 ⟨G1, y, F1, s1, r1, j, d, ey, ha, k⟩ => ?_
  subst ey
  rw [Rp] at r1
  subst r1
  obtain ⟨u, hu, ru⟩ := hlv.atI ha
  exact ⟨q, vs, j, u, rfl, rfl, SqL.of (s1.kp q _ gq hqv), hu, G1, d, F1, s1, Rp.mono s1.fe _ _ ru, k⟩
end

/-! ### isinstance -/
def D.ty : D → Option String
  | .non => some "NoneType"
  | .bl _ => some "bool"
  | .int _ => some "int"
  | .str _ => some "str"
  | .lst _ => some "list"
  | .tup _ => some "tuple"
  | .dct _ => some "dict"
  | _ => none
def kinds : List String := ["int", "bool", "str", "list", "tuple", "dict"]
def isA (n T : String) : Bool := n == T || (n == "bool" && T == "int")
theorem kit_all : ∀ n ∈ ("NoneType" :: kinds), ∀ T ∈ kinds, kitB n T = some (isA n T) := by decide +kernel
theorem ty_mem {d : D} {n : String} (h : d.ty = some n) : n ∈ ("NoneType" :: kinds) := by
  cases d <;> simp only [D.ty, Option.some.injEq, reduceCtorEq] at h <;> subst h <;> decide
theorem ty_of {K : PySem.W.Frag} {G : Gd} {H F : Hp} {d : D} {v : V} {n : String} (ok : Ok G H F) (h : d.ty = some n) (r : Rp K F d v) : TyX K H v (.type n) := by
  cases d <;> simp only [D.ty, Option.some.injEq, reduceCtorEq] at h <;> subst h
  · rw [Rp] at r; subst r; exact .base .non
  · rw [Rp] at r; subst r; exact .base (.bl _)
  · rw [Rp] at r; subst r; exact .base (.int _)
  · rw [Rp] at r; subst r; exact .base (.str _)
  · rw [Rp] at r
    obtain ⟨a, xs, rfl, ha, _⟩ := r
    exact .base (.lst (ok.fh _ _ ha))
  · rw [Rp] at r
    obtain ⟨a, xs, rfl, ha, _⟩ := r
    rcases ha with (ha | ⟨o, ha⟩) | ⟨o, its, n, hk, hc, _⟩
    · exact .base (.tup (ok.fh _ _ ha))
    · exact .fTuple (ok.fh _ _ ha)
    · exact .kTuple hk hc
  · rw [Rp] at r
    obtain ⟨a, xs, rfl, ha, _⟩ := r
    rcases ha with ha | ⟨o, ha⟩
    · exact .base (.dK (ok.fh _ _ ha))
    · exact .fDict (ok.fh _ _ ha)
def D.isT (d : D) (T : String) : Bool := match d.ty with
  | some n => isA n T
  | none => false
def pIsi : List D → (D → Prop) → Prop
  | [d, .raw (.ty T)], Q => d.ty.isSome = true ∧ T ∈ kinds ∧ Q (.bl (d.isT T))
  | _, _ => False
theorem d_isi {K : PySem.W.Frag} : DCl K (rIsi K) pIsi := by
  intro G H F vs ds Q R ok r h k
  match ds, h with
  | [d, .raw (.ty T)], ⟨h1, h2, h3⟩ =>
    obtain ⟨v, u, rfl, r1, r2⟩ := r.inv2
    rw [Rp] at r2
    subst r2
    obtain ⟨n, hn⟩ := Option.isSome_iff_exists.mp h1
    refine ⟨v, .ty T, .type n, .type T, isA n T, rfl, .ty T, ty_of ok hn r1, kit_ty (kit_all n (ty_mem hn) T h2), k _ _ (.bl (isA n T)) _ ok.refl (by rw [Rp]) ?_⟩
    unfold D.isT at h3
    rw [hn] at h3
    exact h3
/-- isinstance(x, (A, B)) -/
def pIsiT : List D → (D → Prop) → Prop
  | [d, .tup [.raw (.ty S), .raw (.ty T)]], Q => d.ty.isSome = true ∧ S ∈ kinds ∧ T ∈ kinds ∧ Q (.bl (d.isT S || d.isT T))
  | _, _ => False
/-- a built-in type as a value -/
theorem we_blt {X : Cx} {C : Fx} {γ : Gd} {sl : List Sl} {Q : Gd → D → Prop} {pos : Pos} {x : Str} {T : String} (hg : Gl X x) (hm : X.mg x = none) (hv : bootBuiltins x = some (.type T)) (hn : x ≠ "__name__") (hd : (x == ("__debug__" : Str)) = false) (q : Q γ (.raw (.ty T))) : WE X C (.Name x pos) ⟨γ, sl⟩ Q := .mk fun σ H F r =>
  cE_of (pe_bltn (v := .ty T) hg hm hv rfl hn hd) ⟨γ, _, F, r.ok.refl, by rw [Rp], q⟩
end DL

set_option maxRecDepth 100000
set_option maxHeartbeats 4000000
namespace DL
open PySem L2
/-! ### the built-in names -/
structure Bi (mg : Str → Option Value) : Prop where
  len : mg "len" = none
  isinstance : mg "isinstance" = none
  int : mg "int" = none
  bool : mg "bool" = none
  str : mg "str" = none
  list : mg "list" = none
  tuple : mg "tuple" = none
  dict : mg "dict" = none
  range : mg "range" = none
  all : mg "all" = none
  any : mg "any" = none
  sum : mg "sum" = none
  min : mg "min" = none
  max : mg "max" = none
  sorted : mg "sorted" = none
  enumerate : mg "enumerate" = none
  zip : mg "zip" = none
theorem bb_len : bootBuiltins "len" = some (.builtin "len") := by decide +kernel
theorem bb_isinstance : bootBuiltins "isinstance" = some (.builtin "isinstance") := by decide +kernel
theorem bb_all : bootBuiltins "all" = some (.builtin "all") := by decide +kernel
theorem bb_any : bootBuiltins "any" = some (.builtin "any") := by decide +kernel
theorem bb_sum : bootBuiltins "sum" = some (.builtin "sum") := by decide +kernel
theorem bb_min : bootBuiltins "min" = some (.builtin "min") := by decide +kernel
theorem bb_max : bootBuiltins "max" = some (.builtin "max") := by decide +kernel
theorem bb_sorted : bootBuiltins "sorted" = some (.builtin "sorted") := by decide +kernel
theorem bb_int : bootBuiltins "int" = some (.type "int") := by decide +kernel
theorem bb_bool : bootBuiltins "bool" = some (.type "bool") := by decide +kernel
theorem bb_str : bootBuiltins "str" = some (.type "str") := by decide +kernel
theorem bb_list : bootBuiltins "list" = some (.type "list") := by decide +kernel
theorem bb_tuple : bootBuiltins "tuple" = some (.type "tuple") := by decide +kernel
theorem bb_dict : bootBuiltins "dict" = some (.type "dict") := by decide +kernel
theorem n1 {x : Str} (h : decide (x = "__name__") = false) : x ≠ "__name__" := of_decide_eq_false h
section
variable {X : Cx} {C : Fx} {γ : Gd} {sl : List Sl} {Q : Gd → D → Prop} {e e2 : Expr} {pos p : Pos}
theorem we_len (b : Bi X.mg) (hg : Gl X "len") (hs : starEach [e] X.env = (false, eval e X.env) :: starEach [] X.env) (h : WE X C e ⟨γ, sl⟩ fun G d => pLen [d] (Q G)) : WE X C (.Call (.Name "len" p) [e] [] pos) ⟨γ, sl⟩ Q :=
  we_cb c_len d_len hg b.len bb_len (by decide) (by decide) hs rfl (wa_cons hs (h.mono fun G d q => wa_nil q))
theorem we_isi (b : Bi X.mg) (hg : Gl X "isinstance") (hs : starEach [e, e2] X.env = (false, eval e X.env) :: starEach [e2] X.env) (hs2 : starEach [e2] X.env = (false, eval e2 X.env) :: starEach [] X.env) (hp : ((backTo pos (starEach [e2] X.env)).any fun x => x.fst) = false)
    (h : WE X C e ⟨γ, sl⟩ fun G d => WE X C e2 ⟨G, sl⟩ fun G' c => pIsi [d, c] (Q G')) : WE X C (.Call (.Name "isinstance" p) [e, e2] [] pos) ⟨γ, sl⟩ Q :=
  we_cb call_isi d_isi hg b.isinstance bb_isinstance (by decide) (by decide) hs hp (wa_cons hs (h.mono fun G d q => wa_cons hs2 (q.mono fun G c z => wa_nil z)))
theorem we_all (hc : X.calm = true) (b : Bi X.mg) (hg : Gl X "all") (hs : starEach [e] X.env = (false, eval e X.env) :: starEach [] X.env) (h : WE X C e ⟨γ, sl⟩ fun G d => pAll [d] (Q G)) : WE X C (.Call (.Name "all" p) [e] [] pos) ⟨γ, sl⟩ Q :=
  we_cb (cr_all hc) d_all hg b.all bb_all (by decide) (by decide) hs rfl (wa_cons hs (h.mono fun G d q => wa_nil q))
theorem we_any (hc : X.calm = true) (b : Bi X.mg) (hg : Gl X "any") (hs : starEach [e] X.env = (false, eval e X.env) :: starEach [] X.env) (h : WE X C e ⟨γ, sl⟩ fun G d => pAny [d] (Q G)) : WE X C (.Call (.Name "any" p) [e] [] pos) ⟨γ, sl⟩ Q :=
  we_cb (cr_any hc) d_any hg b.any bb_any (by decide) (by decide) hs rfl (wa_cons hs (h.mono fun G d q => wa_nil q))
theorem we_sum (hc : X.calm = true) (b : Bi X.mg) (hg : Gl X "sum") (hs : starEach [e] X.env = (false, eval e X.env) :: starEach [] X.env) (h : WE X C e ⟨γ, sl⟩ fun G d => pSum [d] (Q G)) : WE X C (.Call (.Name "sum" p) [e] [] pos) ⟨γ, sl⟩ Q :=
  we_cb (cr_sum hc) d_sum hg b.sum bb_sum (by decide) (by decide) hs rfl (wa_cons hs (h.mono fun G d q => wa_nil q))
theorem we_minL (hc : X.calm = true) (b : Bi X.mg) (hg : Gl X "min") (hs : starEach [e] X.env = (false, eval e X.env) :: starEach [] X.env) (h : WE X C e ⟨γ, sl⟩ fun G d => pMinL [d] (Q G)) : WE X C (.Call (.Name "min" p) [e] [] pos) ⟨γ, sl⟩ Q :=
  we_cb (cr_min hc) d_minL hg b.min bb_min (by decide) (by decide) hs rfl (wa_cons hs (h.mono fun G d q => wa_nil q))
theorem we_maxL (hc : X.calm = true) (b : Bi X.mg) (hg : Gl X "max") (hs : starEach [e] X.env = (false, eval e X.env) :: starEach [] X.env) (h : WE X C e ⟨γ, sl⟩ fun G d => pMaxL [d] (Q G)) : WE X C (.Call (.Name "max" p) [e] [] pos) ⟨γ, sl⟩ Q :=
  we_cb (cr_max hc) d_maxL hg b.max bb_max (by decide) (by decide) hs rfl (wa_cons hs (h.mono fun G d q => wa_nil q))
theorem we_min2 (hc : X.calm = true) (b : Bi X.mg) (hg : Gl X "min") (hs : starEach [e, e2] X.env = (false, eval e X.env) :: starEach [e2] X.env) (hs2 : starEach [e2] X.env = (false, eval e2 X.env) :: starEach [] X.env) (hp : ((backTo pos (starEach [e2] X.env)).any fun x => x.fst) = false)
    (h : WE X C e ⟨γ, sl⟩ fun G d => WE X C e2 ⟨G, sl⟩ fun G' c => pMin2 [d, c] (Q G')) : WE X C (.Call (.Name "min" p) [e, e2] [] pos) ⟨γ, sl⟩ Q :=
  we_cb (call_min2 hc) d_min2 hg b.min bb_min (by decide) (by decide) hs hp (wa_cons hs (h.mono fun G d q => wa_cons hs2 (q.mono fun G c z => wa_nil z)))
theorem we_max2 (hc : X.calm = true) (b : Bi X.mg) (hg : Gl X "max") (hs : starEach [e, e2] X.env = (false, eval e X.env) :: starEach [e2] X.env) (hs2 : starEach [e2] X.env = (false, eval e2 X.env) :: starEach [] X.env) (hp : ((backTo pos (starEach [e2] X.env)).any fun x => x.fst) = false)
    (h : WE X C e ⟨γ, sl⟩ fun G d => WE X C e2 ⟨G, sl⟩ fun G' c => pMax2 [d, c] (Q G')) : WE X C (.Call (.Name "max" p) [e, e2] [] pos) ⟨γ, sl⟩ Q :=
  we_cb (call_max2 hc) d_max2 hg b.max bb_max (by decide) (by decide) hs hp (wa_cons hs (h.mono fun G d q => wa_cons hs2 (q.mono fun G c z => wa_nil z)))
theorem we_int1 (b : Bi X.mg) (hg : Gl X "int") (hs : starEach [e] X.env = (false, eval e X.env) :: starEach [] X.env) (h : WE X C e ⟨γ, sl⟩ fun G d => pInt1 [d] (Q G)) : WE X C (.Call (.Name "int" p) [e] [] pos) ⟨γ, sl⟩ Q :=
  we_ct call_int1 d_int1 hg b.int bb_int (by decide) (by decide) hs rfl (wa_cons hs (h.mono fun G d q => wa_nil q))
theorem we_list1 (b : Bi X.mg) (hg : Gl X "list") (hs : starEach [e] X.env = (false, eval e X.env) :: starEach [] X.env) (h : WE X C e ⟨γ, sl⟩ fun G d => pList [d] (Q G)) : WE X C (.Call (.Name "list" p) [e] [] pos) ⟨γ, sl⟩ Q :=
  we_ct call_list_of d_list hg b.list bb_list (by decide) (by decide) hs rfl (wa_cons hs (h.mono fun G d q => wa_nil q))
theorem we_tuple1 (b : Bi X.mg) (hg : Gl X "tuple") (hs : starEach [e] X.env = (false, eval e X.env) :: starEach [] X.env) (h : WE X C e ⟨γ, sl⟩ fun G d => pTuple [d] (Q G)) : WE X C (.Call (.Name "tuple" p) [e] [] pos) ⟨γ, sl⟩ Q :=
  we_ct call_tuple_of d_tuple hg b.tuple bb_tuple (by decide) (by decide) hs rfl (wa_cons hs (h.mono fun G d q => wa_nil q))
theorem we_tyInt (b : Bi X.mg) (hg : Gl X "int") (q : Q γ (.raw (.ty "int"))) : WE X C (.Name "int" pos) ⟨γ, sl⟩ Q := we_blt hg b.int bb_int (by decide) (by decide) q
theorem we_tyBool (b : Bi X.mg) (hg : Gl X "bool") (q : Q γ (.raw (.ty "bool"))) : WE X C (.Name "bool" pos) ⟨γ, sl⟩ Q := we_blt hg b.bool bb_bool (by decide) (by decide) q
theorem we_tyStr (b : Bi X.mg) (hg : Gl X "str") (q : Q γ (.raw (.ty "str"))) : WE X C (.Name "str" pos) ⟨γ, sl⟩ Q := we_blt hg b.str bb_str (by decide) (by decide) q
theorem we_tyList (b : Bi X.mg) (hg : Gl X "list") (q : Q γ (.raw (.ty "list"))) : WE X C (.Name "list" pos) ⟨γ, sl⟩ Q := we_blt hg b.list bb_list (by decide) (by decide) q
theorem we_tyTuple (b : Bi X.mg) (hg : Gl X "tuple") (q : Q γ (.raw (.ty "tuple"))) : WE X C (.Name "tuple" pos) ⟨γ, sl⟩ Q := we_blt hg b.tuple bb_tuple (by decide) (by decide) q
theorem we_tyDict (b : Bi X.mg) (hg : Gl X "dict") (q : Q γ (.raw (.ty "dict"))) : WE X C (.Name "dict" pos) ⟨γ, sl⟩ Q := we_blt hg b.dict bb_dict (by decide) (by decide) q
/-- a module's constant, an int -/
theorem we_gInt {x : Str} {i : Int} (hg : Gl X x) (hm : ∃ t, X.mg x = some (.int i t)) (hd : (x == ("__debug__" : Str)) = false) (q : Q γ (.int i)) : WE X C (.Name x pos) ⟨γ, sl⟩ Q := by
  obtain ⟨t, hm⟩ := hm
  exact we_glob (v := .int i) hg hm ⟨t, rfl⟩ hd (fun F => by rw [Rp]) q
end
end DL

set_option maxRecDepth 100000
set_option maxHeartbeats 4000000
namespace DL
open PySem L2
/-! ### the operations, case by case -/
section
variable {Q : D → Prop} {i j : Int} {xs ys : List D} {x y : Str} {d e : D} {k : Bool} {ns : List Int}
theorem q_addI (q : Q (.int (i + j))) : pAdd (.int i) (.int j) Q := q
theorem q_addL (h : xs.length + ys.length ≤ 1000000) (q : Q (.lst (xs ++ ys))) : pAdd (.lst xs) (.lst ys) Q := ⟨h, q⟩
theorem q_addS (h : x.length + y.length ≤ 1000000) (q : Q (.str (x ++ y))) : pAdd (.str x) (.str y) Q := ⟨h, q⟩
theorem q_sub (q : Q (.int (i - j))) : pSub (.int i) (.int j) Q := q
theorem q_mulI (h : CMul i j) (q : Q (.int (i * j))) : pMul (.int i) (.int j) Q := ⟨h, q⟩
theorem q_mulL (h0 : 0 ≤ i ∧ i ≤ 1000000 ∧ xs.length * i.toNat ≤ 1000000) (q : Q (.lst (List.replicate i.toNat xs).flatten)) : pMul (.lst xs) (.int i) Q := ⟨h0.1, h0.2.1, h0.2.2, q⟩
theorem q_mod (h : 0 < j) (q : Q (.int (i % j))) : pMod (.int i) (.int j) Q := ⟨h, q⟩
theorem q_div (h : CDiv i j) (q : Q (.int (i / j))) : pDiv (.int i) (.int j) Q := ⟨h, q⟩
theorem q_pow (h : CPow i j) (q : Q (.int (i ^ j.toNat))) : pPow (.int i) (.int j) Q := ⟨h, q⟩
theorem q_lt (q : Q (.bl (decide (i < j)))) : pLt (.int i) (.int j) Q := q
theorem q_le (q : Q (.bl (decide (i ≤ j)))) : pLe (.int i) (.int j) Q := q
theorem q_gt (q : Q (.bl (decide (j < i)))) : pGt (.int i) (.int j) Q := q
theorem q_ge (q : Q (.bl (decide (j ≤ i)))) : pGe (.int i) (.int j) Q := q
theorem q_neg (q : Q (.int (-i))) : pNeg (.int i) Q := q
theorem q_is (q : Q (.bl d.isNon)) : pIs d .non Q := by cases d <;> exact q
theorem q_isN (q : Q (.bl !d.isNon)) : pIsN d .non Q := by cases d <;> exact q
theorem q_int (q : Q (.int i)) : pInt1 [.int i] Q := q
theorem q_intB (q : Q (.int (if k then 1 else 0))) : pInt1 [.bl k] Q := q
theorem q_lenL (q : Q (.int xs.length)) : pLen [.lst xs] Q := q
theorem q_lenT (q : Q (.int xs.length)) : pLen [.tup xs] Q := q
theorem q_lenR (q : Q (.int ns.length)) : pLen [.scr ns] Q := q
theorem q_lenS (h : x.length ≤ 1000000) (q : Q (.int x.length)) : pLen [.str x] Q := ⟨h, q⟩
theorem q_max2 (q : Q (.int (if j > i then j else i))) : pMax2 [.int i, .int j] Q := q
theorem q_min2 (q : Q (.int (if j < i then j else i))) : pMin2 [.int i, .int j] Q := q
theorem q_listL (q : Q (.lst xs)) : pList [.lst xs] Q := q
theorem q_listT (q : Q (.lst xs)) : pList [.tup xs] Q := q
theorem q_tupL (q : Q (.tup xs)) : pTuple [.lst xs] Q := q
theorem q_tupT (q : Q (.tup xs)) : pTuple [.tup xs] Q := q
theorem q_eqI (q : Q (.bl (decide (i = j)))) : pEq (.int i) (.int j) Q := ⟨rfl, rfl, by rw [D.py, D.py, PyData.eqv, Bool.beq_eq_decide_eq]; exact q⟩
theorem q_neI (q : Q (.bl (!decide (i = j)))) : pNe (.int i) (.int j) Q := ⟨rfl, rfl, by rw [D.py, D.py, PyData.eqv, Bool.beq_eq_decide_eq]; exact q⟩
theorem good_str {n : Nat} (h : (x.cps.all (· < 0x110000)) = true) : D.good n (.str x) = true := by rw [D.good]; exact h
theorem q_eqS (hx : (x.cps.all (· < 0x110000)) = true) (hy : (y.cps.all (· < 0x110000)) = true) (q : Q (.bl (decide (x = y)))) : pEq (.str x) (.str y) Q := ⟨good_str hx, good_str hy, by rw [D.py, D.py, PyData.eqv, Bool.beq_eq_decide_eq]; exact q⟩
theorem q_neS (hx : (x.cps.all (· < 0x110000)) = true) (hy : (y.cps.all (· < 0x110000)) = true) (q : Q (.bl (!decide (x = y)))) : pNe (.str x) (.str y) Q := ⟨good_str hx, good_str hy, by rw [D.py, D.py, PyData.eqv, Bool.beq_eq_decide_eq]; exact q⟩
theorem good_ints {n : Nat} : ∀ ns : List Int, D.goodAll n (ns.map D.int) = true
  | [] => by rw [List.map_nil, D.goodAll]
  | m :: ns => by rw [List.map_cons, D.goodAll, good_ints ns, D.good]; rfl
theorem pyAll_ints : ∀ ns : List Int, D.pyAll (ns.map D.int) = ns.map PyData.int
  | [] => by rw [List.map_nil, D.pyAll]; rfl
  | m :: ns => by rw [List.map_cons, D.pyAll, pyAll_ints ns, D.py]; rfl
theorem eqvAll_ints : ∀ ns ms : List Int, PyData.eqvAll (ns.map PyData.int) (ms.map PyData.int) = decide (ns = ms)
  | [], [] => by simp [PyData.eqvAll]
  | [], m :: ms => by simp [PyData.eqvAll]
  | n :: ns, [] => by simp [PyData.eqvAll]
  | n :: ns, m :: ms => by
    rw [List.map_cons, List.map_cons, PyData.eqvAll, eqvAll_ints ns ms, PyData.eqv]
    by_cases h : n = m
    · subst h
      simp
    · simp [h]
variable {ms : List Int}
theorem q_eqL (q : Q (.bl (decide (ns = ms)))) : pEq (.lst (ns.map D.int)) (.lst (ms.map D.int)) Q :=
  ⟨by rw [D.good]; exact good_ints ns, by rw [D.good]; exact good_ints ms, by rw [D.py, D.py, PyData.eqv, pyAll_ints, pyAll_ints, eqvAll_ints]; exact q⟩
theorem q_neL (q : Q (.bl (!decide (ns = ms)))) : pNe (.lst (ns.map D.int)) (.lst (ms.map D.int)) Q :=
  ⟨by rw [D.good]; exact good_ints ns, by rw [D.good]; exact good_ints ms, by rw [D.py, D.py, PyData.eqv, pyAll_ints, pyAll_ints, eqvAll_ints]; exact q⟩
theorem q_neR0 (q : Q (.bl (!decide (ns = [])))) : pNe (.scr ns) (.lst []) Q :=
  ⟨rfl, rfl, by rw [D.py, D.py, PyData.eqv, D.pyAll]; rw [show ([] : List PyData) = ([] : List Int).map PyData.int from rfl, eqvAll_ints]; exact q⟩
theorem q_ixL (h : atI xs i = some d) (q : Q d) : pIx (.lst xs) (.int i) Q := ⟨d, h, q⟩
theorem q_ixT (h : atI xs i = some d) (q : Q d) : pIx (.tup xs) (.int i) Q := ⟨d, h, q⟩
theorem q_ixR {n : Int} (h : atI ns i = some n) (q : Q (.int n)) : pIx (.scr ns) (.int i) Q := ⟨n, h, q⟩
theorem q_iterL {Q : List D → Prop} (q : Q xs) : pIter (.lst xs) Q := q
theorem q_iterT {Q : List D → Prop} (q : Q xs) : pIter (.tup xs) Q := q
theorem q_slL {lo hi : Option Int} (q : Q (.lst (cutD xs lo hi))) : pSl (.lst xs) lo hi Q := q
theorem q_isi {T : String} (h : d.ty.isSome = true) (hT : T ∈ kinds) (q : Q (.bl (d.isT T))) : pIsi [d, .raw (.ty T)] Q := ⟨h, hT, q⟩
end

/-! ### one rule an operator -/
section
variable {X : Cx} {C : Fx} {γ : Gd} {sl : List Sl} {Q : Gd → D → Prop} {QT : Gd → Bool → Prop} {a b : Expr} {pos : Pos}
theorem we_add (h : WE X C a ⟨γ, sl⟩ fun G x => WE X C b ⟨G, sl⟩ fun G' y => pAdd x y (Q G')) : WE X C (.BinOp a .Add b pos) ⟨γ, sl⟩ Q := we_op o_add d_add h
theorem we_sub (h : WE X C a ⟨γ, sl⟩ fun G x => WE X C b ⟨G, sl⟩ fun G' y => pSub x y (Q G')) : WE X C (.BinOp a .Sub b pos) ⟨γ, sl⟩ Q := we_op op_sub d_sub h
theorem we_mul (h : WE X C a ⟨γ, sl⟩ fun G x => WE X C b ⟨G, sl⟩ fun G' y => pMul x y (Q G')) : WE X C (.BinOp a .Mult b pos) ⟨γ, sl⟩ Q := we_op o_mul d_mul h
theorem we_mod (h : WE X C a ⟨γ, sl⟩ fun G x => WE X C b ⟨G, sl⟩ fun G' y => pMod x y (Q G')) : WE X C (.BinOp a .Mod b pos) ⟨γ, sl⟩ Q := we_op op_mod d_mod h
theorem we_div (h : WE X C a ⟨γ, sl⟩ fun G x => WE X C b ⟨G, sl⟩ fun G' y => pDiv x y (Q G')) : WE X C (.BinOp a .FloorDiv b pos) ⟨γ, sl⟩ Q := we_op op_fdiv d_div h
theorem we_pow (h : WE X C a ⟨γ, sl⟩ fun G x => WE X C b ⟨G, sl⟩ fun G' y => pPow x y (Q G')) : WE X C (.BinOp a .Pow b pos) ⟨γ, sl⟩ Q := we_op op_pow d_pow h
theorem we_neg (h : WE X C a ⟨γ, sl⟩ fun G x => pNeg x (Q G)) : WE X C (.UnaryOp .USub a pos) ⟨γ, sl⟩ Q := we_un un_neg d_neg h
theorem we_lt (h : WE X C a ⟨γ, sl⟩ fun G x => WE X C b ⟨G, sl⟩ fun G' y => pLt x y (Q G')) : WE X C (.Compare a [.Lt] [b] pos) ⟨γ, sl⟩ Q := we_cmp op_lt d_lt (nomark _) h
theorem wt_lt (h : WE X C a ⟨γ, sl⟩ fun G x => WE X C b ⟨G, sl⟩ fun G' y => pLt x y fun z => ∃ k, z = .bl k ∧ QT G' k) : WT X C (.Compare a [.Lt] [b] pos) ⟨γ, sl⟩ QT := wt_cmp op_lt d_lt (nomark _) h
theorem we_le (h : WE X C a ⟨γ, sl⟩ fun G x => WE X C b ⟨G, sl⟩ fun G' y => pLe x y (Q G')) : WE X C (.Compare a [.LtE] [b] pos) ⟨γ, sl⟩ Q := we_cmp op_le d_le (nomark _) h
theorem wt_le (h : WE X C a ⟨γ, sl⟩ fun G x => WE X C b ⟨G, sl⟩ fun G' y => pLe x y fun z => ∃ k, z = .bl k ∧ QT G' k) : WT X C (.Compare a [.LtE] [b] pos) ⟨γ, sl⟩ QT := wt_cmp op_le d_le (nomark _) h
theorem we_gt (h : WE X C a ⟨γ, sl⟩ fun G x => WE X C b ⟨G, sl⟩ fun G' y => pGt x y (Q G')) : WE X C (.Compare a [.Gt] [b] pos) ⟨γ, sl⟩ Q := we_cmp op_gt d_gt (nomark _) h
theorem wt_gt (h : WE X C a ⟨γ, sl⟩ fun G x => WE X C b ⟨G, sl⟩ fun G' y => pGt x y fun z => ∃ k, z = .bl k ∧ QT G' k) : WT X C (.Compare a [.Gt] [b] pos) ⟨γ, sl⟩ QT := wt_cmp op_gt d_gt (nomark _) h
theorem we_ge (h : WE X C a ⟨γ, sl⟩ fun G x => WE X C b ⟨G, sl⟩ fun G' y => pGe x y (Q G')) : WE X C (.Compare a [.GtE] [b] pos) ⟨γ, sl⟩ Q := we_cmp op_ge d_ge (nomark _) h
theorem wt_ge (h : WE X C a ⟨γ, sl⟩ fun G x => WE X C b ⟨G, sl⟩ fun G' y => pGe x y fun z => ∃ k, z = .bl k ∧ QT G' k) : WT X C (.Compare a [.GtE] [b] pos) ⟨γ, sl⟩ QT := wt_cmp op_ge d_ge (nomark _) h
theorem we_is (h : WE X C a ⟨γ, sl⟩ fun G x => WE X C b ⟨G, sl⟩ fun G' y => pIs x y (Q G')) : WE X C (.Compare a [.Is] [b] pos) ⟨γ, sl⟩ Q := we_cmp op_isN d_is (nomark _) h
theorem wt_is (h : WE X C a ⟨γ, sl⟩ fun G x => WE X C b ⟨G, sl⟩ fun G' y => pIs x y fun z => ∃ k, z = .bl k ∧ QT G' k) : WT X C (.Compare a [.Is] [b] pos) ⟨γ, sl⟩ QT := wt_cmp op_isN d_is (nomark _) h
theorem we_isN (h : WE X C a ⟨γ, sl⟩ fun G x => WE X C b ⟨G, sl⟩ fun G' y => pIsN x y (Q G')) : WE X C (.Compare a [.IsNot] [b] pos) ⟨γ, sl⟩ Q := we_cmp op_notN d_isN (nomark _) h
theorem wt_isN (h : WE X C a ⟨γ, sl⟩ fun G x => WE X C b ⟨G, sl⟩ fun G' y => pIsN x y fun z => ∃ k, z = .bl k ∧ QT G' k) : WT X C (.Compare a [.IsNot] [b] pos) ⟨γ, sl⟩ QT := wt_cmp op_notN d_isN (nomark _) h
theorem we_eq (hu : X.A.units + 64 < cLine) (h : WE X C a ⟨γ, sl⟩ fun G x => WE X C b ⟨G, sl⟩ fun G' y => pEq x y (Q G')) : WE X C (.Compare a [.Eq] [b] pos) ⟨γ, sl⟩ Q := we_cmp (op_eqD hu) d_eq (nomark _) h
theorem wt_eq (hu : X.A.units + 64 < cLine) (h : WE X C a ⟨γ, sl⟩ fun G x => WE X C b ⟨G, sl⟩ fun G' y => pEq x y fun z => ∃ k, z = .bl k ∧ QT G' k) : WT X C (.Compare a [.Eq] [b] pos) ⟨γ, sl⟩ QT := wt_cmp (op_eqD hu) d_eq (nomark _) h
theorem we_ne (hu : X.A.units + 64 < cLine) (h : WE X C a ⟨γ, sl⟩ fun G x => WE X C b ⟨G, sl⟩ fun G' y => pNe x y (Q G')) : WE X C (.Compare a [.NotEq] [b] pos) ⟨γ, sl⟩ Q := we_cmp (op_neD hu) d_ne (nomark _) h
theorem wt_ne (hu : X.A.units + 64 < cLine) (h : WE X C a ⟨γ, sl⟩ fun G x => WE X C b ⟨G, sl⟩ fun G' y => pNe x y fun z => ∃ k, z = .bl k ∧ QT G' k) : WT X C (.Compare a [.NotEq] [b] pos) ⟨γ, sl⟩ QT := wt_cmp (op_neD hu) d_ne (nomark _) h
theorem we_in (hu : X.A.units + 65 < cLine) (hm : behindInMarks .In b = false) (h : WE X C a ⟨γ, sl⟩ fun G x => WE X C b ⟨G, sl⟩ fun G' y => pIn x y (Q G')) : WE X C (.Compare a [.In] [b] pos) ⟨γ, sl⟩ Q := we_cmp (op_inD hu) d_in hm h
theorem wt_in (hu : X.A.units + 65 < cLine) (hm : behindInMarks .In b = false) (h : WE X C a ⟨γ, sl⟩ fun G x => WE X C b ⟨G, sl⟩ fun G' y => pIn x y fun z => ∃ k, z = .bl k ∧ QT G' k) : WT X C (.Compare a [.In] [b] pos) ⟨γ, sl⟩ QT := wt_cmp (op_inD hu) d_in hm h
theorem we_notIn (hu : X.A.units + 65 < cLine) (hm : behindInMarks .NotIn b = false) (h : WE X C a ⟨γ, sl⟩ fun G x => WE X C b ⟨G, sl⟩ fun G' y => pNotIn x y (Q G')) : WE X C (.Compare a [.NotIn] [b] pos) ⟨γ, sl⟩ Q := we_cmp (op_notInD hu) d_notIn hm h
theorem wt_notIn (hu : X.A.units + 65 < cLine) (hm : behindInMarks .NotIn b = false) (h : WE X C a ⟨γ, sl⟩ fun G x => WE X C b ⟨G, sl⟩ fun G' y => pNotIn x y fun z => ∃ k, z = .bl k ∧ QT G' k) : WT X C (.Compare a [.NotIn] [b] pos) ⟨γ, sl⟩ QT := wt_cmp (op_notInD hu) d_notIn hm h
theorem we_lele {c : Expr} (hm : lastMarks [.LtE, .LtE] [b, c] = false) (h : WE X C a ⟨γ, sl⟩ fun G x => WE X C b ⟨G, sl⟩ fun G' y => pLe x y fun z => ∃ k, z = .bl k ∧ if k = true then WE X C c ⟨G', sl⟩ fun G2 w => pLe y w (Q G2) else Q G' (.bl false)) : WE X C (.Compare a [.LtE, .LtE] [b, c] pos) ⟨γ, sl⟩ Q := we_chain op_le op_le d_le d_le hm h
theorem units65 {k : Nat} {A : Around} (r : Room k A) : A.units + 65 < cLine := by have := r.un; omega
/-- an owned list is frozen -/
theorem wss_freeze {st : List Stmt} {N : En} {ds : List D} (i : Nat) (hs : sl[i]? = some (.ow ds)) (h : WSs X C st ⟨γ, sl.set i (.sh (.lst ds))⟩ N) : WSs X C st ⟨γ, sl⟩ N := .mk fun σ H F r => by
  obtain ⟨p, vs, _, r', _, _⟩ := r.freeze hs
  exact h.run σ H _ r'
/-- the slots written anew -/
theorem wss_sl {st : List Stmt} {N : En} {sl' : List Sl} (e : sl = sl') (h : WSs X C st ⟨γ, sl'⟩ N) : WSs X C st ⟨γ, sl⟩ N := by rw [e]; exact h
end
end DL

set_option maxRecDepth 100000
set_option maxHeartbeats 4000000
namespace DL
open PySem L2
/-! ### the law's pool: a list of a list of ints and a place -/
def gPool (p l : Addr) : Gd where
  own a := a = p ∨ a = l
  inv H := (∃ n : Int, 0 ≤ n ∧ H p = some (.lst [.ref l, .int n])) ∧ ∃ ns : List Int, H l = some (.lst (ns.map V.int))
  st := fun H H' ⟨⟨n, h0, h1⟩, ns, h2⟩ k => ⟨⟨n, h0, k p _ (.inl rfl) h1⟩, ns, k l _ (.inr rfl) h2⟩
/-- the place has moved on -/
theorem pool_on {p l : Addr} {H F : Hp} {n : Int} (ok : Ok (gPool p l) H F) (h0 : 0 ≤ n) : Step (gPool p l) (gPool p l) H F (upd H p (.lst [.ref l, .int n])) F := by
  obtain ⟨⟨m, hm, hp⟩, ns, hl⟩ := ok.iv
  have npl : l ≠ p := by
    intro e
    rw [e, hp] at hl
    injection hl with z
    injection z with z
    cases ns with
    | nil => cases z
    | cons a r => injection z with z _; cases z
  refine ⟨fun _ _ h => h, fun a u h => ?_, fun a h z => absurd h z, fun a u g h => ?_, fun a h => ?_, ⟨⟨n, h0, upd_same⟩, ns, by rw [upd_ne npl]; exact hl⟩, fun _ z => .inl z, ok.fo, fun a z => ?_⟩
  · rw [upd_ne (ne_of_none h (ok.fo p (.inl rfl)))]
    exact ok.fh a u h
  · have ne : a ≠ p := fun z => g (.inl z)
    rw [upd_ne ne]
    exact h
  · by_cases e : a = p
    · rw [e, upd_same]
      exact fun z => nomatch z
    · rw [upd_ne e]
      exact h
  · by_cases e : a = p
    · rw [e, upd_same]
      exact fun z => nomatch z
    · rw [upd_ne e]
      exact ok.ex a z
/-- two new lists are a pool -/
theorem pool_new {G : Gd} {H F H1 F1 : Hp} {p l : Addr} {ns : List Int} {G1 : Gd} (s : Step G G1 H F H1 F1) (hl0 : H l = none) (fl : F1 l = none) (hl : H1 l = some (.lst (ns.map V.int))) (hp : H1 p = none) :
    Step G (gPool p l) H F (upd H1 p (.lst [.ref l, .int 0])) F1 := by
  have fp : F1 p = none := by
    cases e : F1 p with
    | none => rfl
    | some u => rw [s.fh p u e] at hp; cases hp
  have hp0 : H p = none := by
    cases e : H p with
    | none => rfl
    | some u => exact absurd hp (s.dm p (ne_none e))
  have npl : l ≠ p := ne_of_none hl hp
  refine ⟨s.fe, fun a u h => ?_, s.nw, fun a u g h => ?_, fun a h => ?_, ⟨⟨0, by decide, upd_same⟩, ns, by rw [upd_ne npl]; exact hl⟩, fun a z => ?_, fun a z => ?_, fun a z => ?_⟩
  · rw [upd_ne (ne_of_none h fp)]
    exact s.fh a u h
  · rw [upd_ne (ne_of_none h hp0)]
    exact s.kp a u g h
  · by_cases e : a = p
    · rw [e, upd_same]
      exact fun z => nomatch z
    · rw [upd_ne e]
      exact s.dm a h
  · rcases z with rfl | rfl
    · exact .inr hp0
    · exact .inr hl0
  · rcases z with rfl | rfl
    · exact fp
    · exact fl
  · rcases z with rfl | rfl
    · rw [upd_same]
      exact fun z => nomatch z
    · rw [upd_ne npl]
      exact ne_none hl
def pNumbers : DSp := fun G ds R => ∃ (cell salt : Int) (ns : List Int), ds = [.int cell, .int salt, .lst (ns.map .int)] ∧ 0 ≤ salt ∧ salt ≤ 1000 ∧ ns.length ≤ 1000 ∧ (∀ n ∈ ns, 0 < n ∧ n < 1000000) ∧ ∀ rs : List Int, R G (.own (rs.map .int))
def pPool : DSp := fun G ds R => ∃ cell salt many : Int, ds = [.int cell, .int salt, .int many] ∧ 0 ≤ salt ∧ salt ≤ 1000 ∧ 0 ≤ many ∧ many ≤ 1000 ∧ ∀ p l, R (gPool p l) (.raw (.ref p))
def pDraw : DSp := fun G ds R => ∃ (p l : Addr) (m : Int), ds = [.raw (.ref p), .int m] ∧ G = gPool p l ∧ 0 < m ∧ ∀ r : Int, 0 ≤ r → r < m → R (gPool p l) (.int r)
/-- some is a list -/
def pPick : DSp := fun G ds R => ∃ (p l : Addr) (xs : List D), ds = [.raw (.ref p), .lst xs] ∧ G = gPool p l ∧ xs ≠ [] ∧ ∀ x ∈ xs, R (gPool p l) x
def pOpened : DSp := fun G ds R => ∃ (ns : List Int) (k many : Int), ds = [.scr ns, .int k, .int many] ∧ 0 ≤ k ∧ k ≤ 1000 ∧ (ns ≠ [] → k < ns.length) ∧ 0 ≤ many ∧ many ≤ 1000 ∧ ∀ p l, R (gPool p l) (.raw (.ref p))
theorem atI_ints {ns : List Int} {i : Nat} (h : i < ns.length) : atI (ns.map D.int) (i : Int) = some (.int ns[i]) := atI_nat (by rw [List.getElem?_map, List.getElem?_eq_getElem h]; rfl)
theorem atI_in {α : Type} {xs : List α} {i : Int} (h0 : 0 ≤ i) (h1 : i < xs.length) : ∃ x, atI xs i = some x ∧ x ∈ xs := by
  obtain ⟨n, rfl⟩ := Int.eq_ofNat_of_zero_le h0
  have hn : n < xs.length := by omega
  exact ⟨xs[n], atI_nat (List.getElem?_eq_getElem hn), List.getElem_mem hn⟩
section
variable {Q : Gd → D → Prop} {G : Gd}
theorem fr_non (q : Q G .non) : fr Q G .non := q
theorem fr_bl {b : Bool} (q : Q G (.bl b)) : fr Q G (.bl b) := q
theorem fr_int {i : Int} (q : Q G (.int i)) : fr Q G (.int i) := q
theorem fr_str {s : Str} (q : Q G (.str s)) : fr Q G (.str s) := q
theorem fr_raw {v : V} (q : Q G (.raw v)) : fr Q G (.raw v) := q
theorem fr_lst {xs : List D} (q : Q G (.lst xs)) : fr Q G (.lst xs) := q
theorem fr_tup {xs : List D} (q : Q G (.tup xs)) : fr Q G (.tup xs) := q
theorem fr_own {xs : List D} (q : Q G (.lst xs)) : fr Q G (.own xs) := q
theorem fr_dct {xs : List (Key × D)} (q : Q G (.dct xs)) : fr Q G (.dct xs) := q
theorem fr_ins {C : Addr} {xs : List (Str × D)} (q : Q G (.ins C xs)) : fr Q G (.ins C xs) := q
end
section
variable {X : Cx} {C : Fx} {γ : Gd} {sl : List Sl} {elt tg iter c : Expr} {scope : Scope} {vs : List Nat} {Q : Gd → D → Prop}
theorem take_succ_get {α : Type} {l : List α} {i : Nat} {x : α} (h : l[i]? = some x) : l.take (i + 1) = l.take i ++ [x] := by
  rw [List.take_add_one, h]
  rfl
/-- a comprehension that makes one item of each -/
theorem lc_mapN {i : Nat} (h : WI X C tg iter ⟨γ, sl⟩ fun G ds => ds.length ≤ 900000 ∧ ∃ f : D → D, (∀ (B : Hp) d, d ∈ ds → ∀ X', Blk X scope X' → WE X' { C with B := B } elt ⟨G, (wipeS sl vs).set i (.sh d)⟩ fun G3 y => G3 = G ∧ y = f d) ∧ Q G (.lst (ds.map f))) :
    LcR X C γ sl elt tg iter [] scope vs (bName i) Q := by
  refine ⟨fun σ H F r => cI_mono (h.run σ H F r) fun J H' ⟨G, ds, F', s, jw, hz, f, hf, q⟩ => ⟨G, ds, F', s, jw, hz, fun i G' acc => G' = G ∧ acc = (ds.take i).map f, ⟨rfl, rfl⟩, ?_, ?_⟩⟩
  · rintro B i d G' acc hd ⟨rfl, rfl⟩
    refine fun X' bX => wts_nil (iteT fun X' bX => (hf B d (List.mem_of_getElem? hd) X' bX).mono fun G3 y ⟨e1, e2⟩ => ⟨e1, ?_⟩)
    rw [take_succ_get hd, List.map_append, e2]
    rfl
  · rintro G' acc ⟨rfl, rfl⟩
    rw [List.take_length]
    exact q
/-- .. of each that a test lets by -/
theorem lc_filterN {i : Nat} (h : WI X C tg iter ⟨γ, sl⟩ fun G ds => ds.length ≤ 900000 ∧ ∃ (f : D → D) (p : D → Bool), (∀ (B : Hp) d, d ∈ ds → ∀ X', Blk X scope X' → WT X' { C with B := B } c ⟨G, (wipeS sl vs).set i (.sh d)⟩ fun G3 k => G3 = G ∧ k = p d) ∧
      (∀ (B : Hp) d, d ∈ ds → p d = true → ∀ X', Blk X scope X' → WE X' { C with B := B } elt ⟨G, (wipeS sl vs).set i (.sh d)⟩ fun G3 y => G3 = G ∧ y = f d) ∧ Q G (.lst ((ds.filter p).map f))) :
    LcR X C γ sl elt tg iter [c] scope vs (bName i) Q := by
  refine ⟨fun σ H F r => cI_mono (h.run σ H F r) fun J H' ⟨G, ds, F', s, jw, hz, f, p, hp, hf, q⟩ => ⟨G, ds, F', s, jw, hz, fun i G' acc => G' = G ∧ acc = ((ds.take i).filter p).map f, ⟨rfl, rfl⟩, ?_, ?_⟩⟩
  · rintro B i d G' acc hd ⟨rfl, rfl⟩
    refine fun X' bX => wts_one ((hp B d (List.mem_of_getElem? hd) X' bX).mono fun G2 k ⟨e1, e2⟩ => ?_)
    subst e1 e2
    refine ite2 (fun hk => fun X' bX => ?_) (fun hk => ?_)
    · refine (hf B d (List.mem_of_getElem? hd) hk X' bX).mono fun G3 y ⟨e1, e2⟩ => ⟨e1, ?_⟩
      rw [take_succ_get hd, List.filter_append, List.map_append, e2, List.filter_cons, if_pos hk]
      rfl
    · refine ⟨rfl, ?_⟩
      rw [take_succ_get hd, List.filter_append, List.map_append, List.filter_cons, if_neg hk]
      simp
  · rintro G' acc ⟨rfl, rfl⟩
    rw [List.take_length]
    exact q
/-- over pairs -/
theorem lc_mapP {i j : Nat} (h : WI X C tg iter ⟨γ, sl⟩ fun G ds => ∃ ps : List (D × D), ds = (ps.map fun q => D.tup [q.1, q.2]) ∧ ps.length ≤ 900000 ∧ ∃ f : D → D → D, (∀ (B : Hp) a b, (a, b) ∈ ps → ∀ X', Blk X scope X' → WE X' { C with B := B } elt ⟨G, ((wipeS sl vs).set i (.sh a)).set j (.sh b)⟩ fun G3 y => G3 = G ∧ y = f a b) ∧ Q G (.lst (ps.map fun q => f q.1 q.2))) :
    LcR X C γ sl elt tg iter [] scope vs (bTup [i, j]) Q := by
  refine ⟨fun σ H F r => cI_mono (h.run σ H F r) fun J H' ⟨G, ds, F', s, jw, ps, eds, hz, f, hf, q⟩ => ⟨G, ds, F', s, jw, by rw [eds, List.length_map]; exact hz, fun i G' acc => G' = G ∧ acc = (ps.take i).map fun q => f q.1 q.2, ⟨rfl, rfl⟩, ?_, ?_⟩⟩
  · rintro B i d G' acc hd ⟨rfl, rfl⟩
    rw [eds, List.getElem?_map] at hd
    cases hq : ps[i]? with
    | none => rw [hq] at hd; cases hd
    | some q0 =>
      rw [hq] at hd
      cases hd
      refine b_tup2 (fun X' bX => wts_nil (iteT fun X' bX => (hf B q0.1 q0.2 (List.mem_of_getElem? hq) X' bX).mono fun G3 y ⟨e1, e2⟩ => ⟨e1, ?_⟩))
      rw [take_succ_get hq, List.map_append, e2]
      rfl
  · rintro G' acc ⟨rfl, rfl⟩
    rw [eds, List.length_map, List.take_length]
    exact q
/-- a comprehension whose items are drawn: what holds of each -/
theorem lc_draws {i : Nat} (h : WI X C tg iter ⟨γ, sl⟩ fun G ds => ds.length ≤ 900000 ∧ ∃ I : D → Prop, (∀ (B : Hp) d, d ∈ ds → ∀ X', Blk X scope X' → WE X' { C with B := B } elt ⟨G, (wipeS sl vs).set i (.sh d)⟩ fun G3 y => G3 = G ∧ I y) ∧ ∀ acc : List D, acc.length = ds.length → (∀ y ∈ acc, I y) → Q G (.lst acc)) :
    LcR X C γ sl elt tg iter [] scope vs (bName i) Q := by
  refine ⟨fun σ H F r => cI_mono (h.run σ H F r) fun J H' ⟨G, ds, F', s, jw, hz, I, hf, q⟩ => ⟨G, ds, F', s, jw, hz, fun i G' acc => G' = G ∧ acc.length = i ∧ ∀ y ∈ acc, I y, ⟨rfl, rfl, fun _ z => (nomatch z)⟩, ?_, ?_⟩⟩
  · rintro B i d G' acc hd ⟨rfl, hl, ha⟩
    refine fun X' bX => wts_nil (iteT fun X' bX => (hf B d (List.mem_of_getElem? hd) X' bX).mono fun G3 y ⟨e1, e2⟩ => ⟨e1, ?_, fun z hz => ?_⟩)
    · rw [List.length_append, hl]
      rfl
    · rcases List.mem_append.mp hz with hz | hz
      · exact ha z hz
      · rw [List.mem_singleton.mp hz]
        exact e2
  · rintro G' acc ⟨rfl, hl, ha⟩
    exact q acc hl ha
end
theorem iteNT {A B : Prop} (h : B) : if (!true) = true then A else B := h
theorem iteNF {A B : Prop} (h : A) : if (!false) = true then A else B := h
theorem atI_iL {ns : List Int} {i : Int} (n : Nat) (e : i = n) (h : n < ns.length) : atI (ns.map D.int) i = some (.int ns[n]) := by rw [e]; exact atI_ints h
/-- what follows is shown once, from Mid -/
theorem ws_cut {X : Cx} {C : Fx} {γ : Gd} {sl : List Sl} {st : Stmt} {nx bk ct : E → Prop} {rt : Gd → D → Prop} (Mid : E → Prop) (h : WS X C st ⟨γ, sl⟩ ⟨Mid, rt, bk, ct⟩) (k : ∀ ρ', Mid ρ' → nx ρ') : WS X C st ⟨γ, sl⟩ ⟨nx, rt, bk, ct⟩ :=
  .mk fun σ H F r => cS_mono (h.run σ H F r) (fun _ _ ⟨ρ', F', r', q⟩ => ⟨ρ', F', r', k ρ' q⟩) (fun _ _ q => q) (fun _ _ q => q) (fun _ _ q => q)
end DL

set_option maxRecDepth 100000
set_option maxHeartbeats 4000000
namespace DL
open PySem L2
section
variable {K : PySem.W.Frag} {C : Fx} {ρ : E} {σ : St} {H F : Hp}
theorem RpL.rev : ∀ {ds : List D} {vs : List V}, RpL K F ds vs → RpL K F ds.reverse vs.reverse
  | [], vs, h => by
    rw [RpL] at h
    subst h
    exact RpL.nil
  | d :: ds, vs, h => by
    rw [RpL] at h
    obtain ⟨v, t, rfl, h1, h2⟩ := h
    rw [List.reverse_cons, List.reverse_cons]
    exact RpL.append (RpL.rev h2) (RpL.one h1)
/-- a list that nobody else holds is put into slot i -/
theorem Rel.putOwn {i : Nat} {ds : List D} {vs : List V} {p : Addr} (r : Rel K C ρ σ H F) (h0 : C.H p = none) (fp : F p = none) (gp : ¬ ρ.G.own p) (hp : H p = some (.lst vs)) (h : RpL K F ds vs)
    (nw : ∀ j : Nat, σ[j]? = some (some (V.ref p)) → ∀ s : Sl, ρ.sl[j]? = some s → s.owned = false) : Rel K C ⟨ρ.G, ρ.sl.set i (.ow ds)⟩ (σ.set i (some (.ref p))) H F := by
  refine r.put (p := p) i r.st r.fl (fun j s q _ _ _ h => h) ⟨rfl, h0, fp, gp, vs, hp, h⟩ fun _ j s q _ ej hs _ hq z => ?_
  subst z
  cases s with
  | un => cases hs
  | sh => cases hs
  | ow ds' => exact absurd (nw j hq.1 _ ej) (by intro z; cases z)
  | od ds' => exact absurd (nw j hq.1 _ ej) (by intro z; cases z)
end
section
variable {X : Cx} {C : Fx} {γ : Gd} {sl : List Sl} {nx bk ct : E → Prop} {rt : Gd → D → Prop} {e c : Expr} {pos pos' : Pos}
/-- a, b = [..], [..]: both will be filled -/
theorem ws_par2O {i j : Nat} {x y : Str} {es fs : List Expr} {px py pt pa pb : Pos} {kt k2 : Nat} {pt2 : Pos} (hc : X.calm = true) (hN : X.N.Nodup) (hi : X.N[i]? = some x) (hj : X.N[j]? = some y) (hij : i ≠ j)
    (hx : X.env.scope.names.lookup x = some .local) (hy : X.env.scope.names.lookup y = some .local)
    (hw : swappedStores [.Tuple [.Name x px, .Name y py] kt pt] (.Tuple [.List es pa, .List fs pb] k2 pt2) X.env = pure (some [x, y]))
    (hs : swapsWithSole [.Tuple [.Name x px, .Name y py] kt pt] (.Tuple [.List es pa, .List fs pb] k2 pt2) pos.line X.env = pure false)
    (h : WA X C es ⟨γ, sl⟩ fun G ds => ds.length ≤ 1000000 ∧ WA X C fs ⟨G, sl⟩ fun G' ds' => ds'.length ≤ 1000000 ∧ nx ⟨G', (sl.set i (.ow ds)).set j (.ow ds')⟩) :
    WS X C (.Assign [.Tuple [.Name x px, .Name y py] kt pt] (.Tuple [.List es pa, .List fs pb] k2 pt2) pos) ⟨γ, sl⟩ ⟨nx, rt, bk, ct⟩ := .mk fun σ H F r => by
  refine cS_of (ps_par hc hN hi hj hij hx hy (pa_cons (pe_lst (pa_c es)) (pa_cons (pe_lst (pa_c fs)) pa_nil)) hw hs) ?_
  refine cA_mono (h.run σ H F r) fun vs H1 ⟨G1, ds, F1, s1, r1, hl, h1⟩ => ⟨by rw [r1.length]; exact size_ok hl, fun p hp => ?_⟩
  have ra := r.step s1
  have st := ra.ok.loose (o := .lst vs) hp
  have rb := ra.step st
  refine cA_mono (h1.run σ _ F1 rb) fun us H2 ⟨G2, ds', F2, s2, r2, hl2, q⟩ => ⟨by rw [r2.length]; exact size_ok hl2, fun p' hp' => ?_⟩
  have g1 : ¬ G1.own p := fun z => ra.ok.ex p z hp
  have f1 : F1 p = none := by
    cases e : F1 p with
    | none => rfl
    | some u => rw [ra.ok.fh p u e] at hp; cases hp
  have h2 : H2 p = some (.lst vs) := s2.kp p _ g1 upd_same
  have f2 : F2 p = none := by
    cases e : F2 p with
    | none => rfl
    | some u =>
      have := s2.nw p f1 (by rw [e]; exact fun z => nomatch z)
      rw [upd_same] at this
      cases this
  have g2 : ¬ G2.own p := fun z => by
    rcases s2.ow p z with z | z
    · exact g1 z
    · rw [upd_same] at z
      cases z
  have c0 : C.H p = none := by
    cases e : C.H p with
    | none => rfl
    | some u => exact absurd hp (ra.st.dm p (ne_none e))
  have rc := rb.step s2
  have rd := rc.putOwn (i := i) c0 f2 g2 h2 (RpL.mono s2.fe _ _ r1) fun k hk s hs => by
    obtain ⟨pa, inj, hsl⟩ := ra.sl
    have hq := hsl k s hs
    cases s with
    | un => rfl
    | sh => rfl
    | ow d =>
      obtain ⟨e1, _, _, _, ws, hw, _⟩ := hq
      rw [hk] at e1
      injection e1 with e1
      injection e1 with e1
      injection e1 with e1
      rw [← e1, hp] at hw
      cases hw
    | od d =>
      obtain ⟨e1, _, _, _, ws, hw, _⟩ := hq
      rw [hk] at e1
      injection e1 with e1
      injection e1 with e1
      injection e1 with e1
      rw [← e1, hp] at hw
      cases hw
  exact ⟨_, _, rfl, _, F2, rd.newOwn hp' r2, q⟩
/-- a, b, c = x, y, z -/
theorem ws_par3 {i j l : Nat} {x y z : Str} {a b c : Expr} {px py pz pt : Pos} {kt k2 : Nat} {pt2 : Pos} (hc : X.calm = true) (hN : X.N.Nodup) (hi : X.N[i]? = some x) (hj : X.N[j]? = some y) (hl : X.N[l]? = some z) (hij : i ≠ j) (hil : i ≠ l) (hjl : j ≠ l)
    (hx : X.env.scope.names.lookup x = some .local) (hy : X.env.scope.names.lookup y = some .local) (hz : X.env.scope.names.lookup z = some .local)
    (hw : swappedStores [.Tuple [.Name x px, .Name y py, .Name z pz] kt pt] (.Tuple [a, b, c] k2 pt2) X.env = pure (some [x, y, z]))
    (hs : swapsWithSole [.Tuple [.Name x px, .Name y py, .Name z pz] kt pt] (.Tuple [a, b, c] k2 pt2) pos.line X.env = pure false)
    (h : WA X C [a, b, c] ⟨γ, sl⟩ fun G ds => ∃ d1 d2 d3, ds = [d1, d2, d3] ∧ nx ⟨G, ((sl.set i (.sh d1)).set j (.sh d2)).set l (.sh d3)⟩) : WS X C (.Assign [.Tuple [.Name x px, .Name y py, .Name z pz] kt pt] (.Tuple [a, b, c] k2 pt2) pos) ⟨γ, sl⟩ ⟨nx, rt, bk, ct⟩ := .mk fun σ H F r =>
  cS_of (ps_par3 hc hN hi hj hl hij hil hjl hx hy hz (pa_c [a, b, c]) hw hs) (cA_mono (h.run σ H F r) fun vs H1 ⟨G1, ds, F1, s1, r1, d1, d2, d3, e, q⟩ => by
    subst e
    rw [RpL] at r1
    obtain ⟨u, t, rfl, h0, r1⟩ := r1
    obtain ⟨v, w, rfl, h1, h2⟩ := r1.inv2
    exact ⟨u, v, w, rfl, _, F1, (((r.step s1).set h0).set h1).set h2, q⟩)
/-- xs[::-1] -/
theorem we_rev {k : Nat} {p1 p2 p3 : Pos} {Q : Gd → D → Prop} (h : WE X C e ⟨γ, sl⟩ fun G x => ∃ xs, x = .lst xs ∧ Q G (.lst xs.reverse)) : WE X C (.Subscript e (.Slice none none (some (.UnaryOp .USub (.Constant (.int 1) k p1) p2)) p3) pos) ⟨γ, sl⟩ Q := .mk fun σ H F r => by
  refine cE_of (pe_revL (pe_c e)) (cE_mono (h.run σ H F r) fun v H1 ⟨G1, d, F1, s1, r1, xs, ed, q⟩ => ?_)
  subst ed
  rw [Rp] at r1
  obtain ⟨a, vs, rfl, ha, hl⟩ := r1
  refine ⟨a, vs, rfl, SqL.of (s1.fh _ _ ha), fun p hp => ?_⟩
  have st := s1.ok.laid (o := .lst vs.reverse) hp
  refine ⟨G1, .lst xs.reverse, _, s1.trans st, ?_, q⟩
  rw [Rp]
  exact ⟨p, _, rfl, upd_same, RpL.rev (RpL.mono st.fe _ _ hl)⟩
end
section
variable {Q : D → Prop}
theorem eqS_kp (q : Q (.bl false)) : pEq (.str "keep") (.str "put") Q := q_eqS (by decide +kernel) (by decide +kernel) (by rw [show decide (("keep" : Str) = "put") = false by decide +kernel]; exact q)
theorem eqS_pk (q : Q (.bl false)) : pEq (.str "put") (.str "keep") Q := q_eqS (by decide +kernel) (by decide +kernel) (by rw [show decide (("put" : Str) = "keep") = false by decide +kernel]; exact q)
theorem eqS_kk (q : Q (.bl true)) : pEq (.str "keep") (.str "keep") Q := q_eqS (by decide +kernel) (by decide +kernel) (by rw [show decide (("keep" : Str) = "keep") = true by decide +kernel]; exact q)
theorem eqS_pp (q : Q (.bl true)) : pEq (.str "put") (.str "put") Q := q_eqS (by decide +kernel) (by decide +kernel) (by rw [show decide (("put" : Str) = "put") = true by decide +kernel]; exact q)
theorem neS_pp (q : Q (.bl false)) : pNe (.str "put") (.str "put") Q := q_neS (by decide +kernel) (by decide +kernel) (by rw [show decide (("put" : Str) = "put") = true by decide +kernel]; exact q)
end
theorem ws_sl {X : Cx} {C : Fx} {γ : Gd} {sl sl' : List Sl} {st : Stmt} {N : En} (e : sl = sl') (h : WS X C st ⟨γ, sl'⟩ N) : WS X C st ⟨γ, sl⟩ N := by rw [e]; exact h
theorem atI0 {α : Type} {x : α} {xs : List α} : atI (x :: xs) 0 = some x := atI_nat (j := 0) rfl
theorem atI1 {α : Type} {x y : α} {xs : List α} : atI (x :: y :: xs) 1 = some y := atI_nat (j := 1) rfl
theorem atI2 {α : Type} {x y z : α} {xs : List α} : atI (x :: y :: z :: xs) 2 = some z := atI_nat (j := 2) rfl
theorem cutD_tail {α : Type} {x : α} {xs : List α} : cutD (x :: xs) (some 1) none = xs := by
  unfold cutD
  simp [HT.sIx]
theorem cutD_tailN {α : Type} : cutD ([] : List α) (some 1) none = [] := rfl
theorem cutD_mid {α : Type} {xs : List α} {s m : Nat} (h : s + m ≤ xs.length) : cutD xs (some (s : Int)) (some ((s : Int) + m)) = (xs.drop s).take m := by
  unfold cutD
  rw [← Int.natCast_add, HT.sIx_nat, HT.sIx_nat, Nat.min_eq_left (by omega), Nat.min_eq_left (by omega), Nat.add_sub_cancel_left]
end DL

namespace DL
open PySem L2
theorem q_isiT {d : D} {T : String} {Q : D → Prop} (h : d.ty.isSome = true) (hT : T ∈ kinds) (e : d.isT T = true) (q : Q (.bl true)) : pIsi [d, .raw (.ty T)] Q := ⟨h, hT, by rw [e]; exact q⟩
theorem q_isiF {d : D} {T : String} {Q : D → Prop} (h : d.ty.isSome = true) (hT : T ∈ kinds) (e : d.isT T = false) (q : Q (.bl false)) : pIsi [d, .raw (.ty T)] Q := ⟨h, hT, by rw [e]; exact q⟩
theorem iteTd {A B : Prop} {b : Bool} (e : b = true) (h : A) : if b = true then A else B := by rw [e]; exact iteT h
theorem iteFd {A B : Prop} {b : Bool} (e : b = false) (h : B) : if b = true then A else B := by rw [e]; exact iteF h
end DL

/-! Changes of contents: the least cost, plain mathematics. -/
namespace Ch
inductive Ed where
  | keep (s m : Nat) | put (xs : List Int)
/-- the common beginning -/
def mlen : List Int → List Int → Nat
  | a :: as, b :: bs => if a = b then mlen as bs + 1 else 0
  | _, _ => 0
def bestUp (base t : List Int) : Nat → Nat × Nat
  | 0 => (0, 0)
  | n + 1 => if mlen (base.drop n) t > (bestUp base t n).2 then (n, mlen (base.drop n) t) else bestUp base t n
def best (base t : List Int) : Nat × Nat := bestUp base t base.length
def withNum (x : Int) : List Ed → List Ed
  | .put xs :: r => .put (x :: xs) :: r
  | r => .put [x] :: r
abbrev CR := Nat × List Ed
def turn (base : List Int) (x : Int) (t : List Int) (fs ws : List CR) : List CR × List CR :=
  let b := best base (x :: t)
  let w := ws.headD (0, [])
  let new : CR := (w.1 + 2, withNum x w.2)
  let inner : CR := (w.1 + 1, withNum x w.2)
  if b.2 > 0 then
    let f := fs.getD (b.2 - 1) (0, [])
    let kept : CR := (f.1 + 2, .keep b.1 b.2 :: f.2)
    ((if kept.1 ≤ new.1 then kept else new) :: fs, (if kept.1 ≤ inner.1 then kept else inner) :: ws)
  else (new :: fs, inner :: ws)
def go (base : List Int) : List Int → List CR × List CR
  | [] => ([(0, [])], [(0, [])])
  | x :: t => turn base x t (go base t).1 (go base t).2
def F (base t : List Int) : CR := (go base t).1.headD (0, [])
def W (base t : List Int) : CR := (go base t).2.headD (0, [])
theorem go1 (base : List Int) (x : Int) (t : List Int) : (go base (x :: t)).1 = F base (x :: t) :: (go base t).1 := by
  unfold F
  rw [go, turn]
  dsimp only
  split <;> rfl
theorem go2 (base : List Int) (x : Int) (t : List Int) : (go base (x :: t)).2 = W base (x :: t) :: (go base t).2 := by
  unfold W
  rw [go, turn]
  dsimp only
  split <;> rfl
theorem go_len (base : List Int) : ∀ t : List Int, (go base t).1.length = t.length + 1 ∧ (go base t).2.length = t.length + 1
  | [] => ⟨rfl, rfl⟩
  | x :: t => by
    rw [go1, go2, List.length_cons, List.length_cons, List.length_cons, (go_len base t).1, (go_len base t).2]
    exact ⟨rfl, rfl⟩
theorem go_at (base : List Int) : ∀ (t : List Int) (k : Nat), k ≤ t.length → (go base t).1[k]? = some (F base (t.drop k))
  | [], 0, _ => rfl
  | x :: t, 0, _ => by rw [go1]; rfl
  | x :: t, k + 1, h => by
    rw [go1, List.getElem?_cons_succ, List.drop_succ_cons]
    exact go_at base t k (by simpa using h)
theorem F_nil (base : List Int) : F base [] = (0, []) := rfl
theorem W_nil (base : List Int) : W base [] = (0, []) := rfl
/-- the keep that the search finds -/
def K (base : List Int) (x : Int) (t : List Int) : CR := ((F base ((x :: t).drop (best base (x :: t)).2)).1 + 2, .keep (best base (x :: t)).1 (best base (x :: t)).2 :: (F base ((x :: t).drop (best base (x :: t)).2)).2)
theorem mlen_le : ∀ (a b : List Int), mlen a b ≤ b.length ∧ mlen a b ≤ a.length
  | a :: as, b :: bs => by
    rw [mlen]
    split
    · have := mlen_le as bs
      simp only [List.length_cons]
      omega
    · exact ⟨Nat.zero_le _, Nat.zero_le _⟩
  | [], _ => by rw [mlen]; exact ⟨Nat.zero_le _, Nat.zero_le _⟩; intros; simp_all
  | _ :: _, [] => by rw [mlen]; exact ⟨Nat.zero_le _, Nat.zero_le _⟩; intros; simp_all
theorem mlen_take : ∀ (a b : List Int) (k : Nat), k ≤ mlen a b → a.take k = b.take k
  | _, _, 0, _ => by rw [List.take_zero, List.take_zero]
  | a :: as, b :: bs, k + 1, h => by
    rw [mlen] at h
    split at h
    · rename_i e
      rw [List.take_succ_cons, List.take_succ_cons, e, mlen_take as bs k (by omega)]
    · omega
  | [], _, k + 1, h => by simp [mlen] at h
  | _ :: _, [], k + 1, h => by simp [mlen] at h
theorem le_mlen : ∀ (k a b : List Int), k.length ≤ mlen (k ++ a) (k ++ b)
  | [], _, _ => Nat.zero_le _
  | x :: k, a, b => by
    rw [List.cons_append, List.cons_append, mlen, if_pos rfl, List.length_cons]
    have := le_mlen k a b
    omega
theorem bestUp_spec (base t : List Int) : ∀ n : Nat, (∀ s, s < n → mlen (base.drop s) t ≤ (bestUp base t n).2) ∧ ((bestUp base t n).2 = 0 ∨ ((bestUp base t n).1 < n ∧ (bestUp base t n).2 = mlen (base.drop (bestUp base t n).1) t)) ∧ ((bestUp base t n).2 = 0 → (bestUp base t n).1 = 0)
  | 0 => ⟨fun _ h => by omega, .inl rfl, fun _ => rfl⟩
  | n + 1 => by
    have ih := bestUp_spec base t n
    rw [bestUp]
    split
    · rename_i h
      refine ⟨fun s hs => ?_, .inr ⟨by simp, rfl⟩, fun z => ?_⟩
      · by_cases e : s = n
        · subst e; exact Nat.le_refl _
        · have := ih.1 s (by omega); dsimp only; omega
      · dsimp only at z; omega
    · rename_i h
      refine ⟨fun s hs => ?_, ?_, ih.2.2⟩
      · by_cases e : s = n
        · subst e; omega
        · exact ih.1 s (by omega)
      · rcases ih.2.1 with z | z
        · exact .inl z
        · exact .inr ⟨by omega, z.2⟩
theorem best_pos {base t : List Int} (h : 0 < (best base t).2) : (best base t).1 < base.length ∧ (best base t).2 = mlen (base.drop (best base t).1) t ∧ (best base t).1 + (best base t).2 ≤ base.length ∧ (best base t).2 ≤ t.length := by
  have := (bestUp_spec base t base.length).2.1
  unfold best at h ⊢
  rcases this with z | ⟨z1, z2⟩
  · omega
  · have h1 := mlen_le (base.drop (bestUp base t base.length).1) t
    rw [List.length_drop, ← z2] at h1
    exact ⟨z1, z2, by omega, h1.1⟩
theorem best_le {base t : List Int} : (best base t).2 ≤ t.length := by
  by_cases h : 0 < (best base t).2
  · exact (best_pos h).2.2.2
  · omega
theorem FW_cons (base : List Int) (x : Int) (t : List Int) :
    F base (x :: t) = (if 0 < (best base (x :: t)).2 ∧ (K base x t).1 ≤ (W base t).1 + 2 then K base x t else ((W base t).1 + 2, withNum x (W base t).2)) ∧
    W base (x :: t) = (if 0 < (best base (x :: t)).2 ∧ (K base x t).1 ≤ (W base t).1 + 1 then K base x t else ((W base t).1 + 1, withNum x (W base t).2)) := by
  have key : 0 < (best base (x :: t)).2 → (go base t).1.getD ((best base (x :: t)).2 - 1) (0, []) = F base ((x :: t).drop (best base (x :: t)).2) := by
    intro h
    have hl := best_le (base := base) (t := x :: t)
    rw [List.length_cons] at hl
    rw [List.getD_eq_getElem?_getD, go_at base t _ (by omega)]
    obtain ⟨m, hm⟩ : ∃ m, (best base (x :: t)).2 = m + 1 := ⟨(best base (x :: t)).2 - 1, by omega⟩
    rw [hm]
    rfl
  have hF : F base (x :: t) = (turn base x t (go base t).1 (go base t).2).1.headD (0, []) := rfl
  have hW : W base (x :: t) = (turn base x t (go base t).1 (go base t).2).2.headD (0, []) := rfl
  rw [hF, hW, turn]
  dsimp only
  by_cases h : 0 < (best base (x :: t)).2
  · rw [if_pos h, key h]
    refine ⟨?_, ?_⟩
    · show (if (K base x t).1 ≤ (W base t).1 + 2 then K base x t else ((W base t).1 + 2, withNum x (W base t).2)) = _
      by_cases q : (K base x t).1 ≤ (W base t).1 + 2
      · rw [if_pos q, if_pos ⟨h, q⟩]
      · rw [if_neg q, if_neg (fun z => q z.2)]
    · show (if (K base x t).1 ≤ (W base t).1 + 1 then K base x t else ((W base t).1 + 1, withNum x (W base t).2)) = _
      by_cases q : (K base x t).1 ≤ (W base t).1 + 1
      · rw [if_pos q, if_pos ⟨h, q⟩]
      · rw [if_neg q, if_neg (fun z => q z.2)]
  · rw [if_neg h, if_neg (fun z => h z.1), if_neg (fun z => h z.1)]
    exact ⟨rfl, rfl⟩

/-! ### what costs what -/
inductive Co (base : List Int) : Bool → List Int → Nat → Prop
  | nil (w : Bool) : Co base w [] 0
  | put {w : Bool} {x : Int} {t : List Int} {c : Nat} : Co base true t c → Co base w (x :: t) (c + if w then 1 else 2)
  | keep {w : Bool} {k t : List Int} {c : Nat} : k ≠ [] → k <:+: base → Co base false t c → Co base w (k ++ t) (c + 2)
theorem Co.down {base : List Int} {w : Bool} {t : List Int} {c : Nat} (h : Co base w t c) : ∃ c', c' ≤ c + 1 ∧ Co base false t c' := by
  cases h with
  | nil => exact ⟨0, Nat.zero_le _, .nil _⟩
  | put h => refine ⟨_, ?_, .put h⟩; cases w <;> simp
  | keep a b h => exact ⟨_, Nat.le_succ _, .keep a b h⟩
theorem Co.up {base : List Int} {t : List Int} {c : Nat} (h : Co base false t c) (w : Bool) : ∃ c', c' ≤ c ∧ Co base w t c' := by
  cases h with
  | nil => exact ⟨0, Nat.zero_le _, .nil _⟩
  | put h => refine ⟨_, ?_, .put h⟩; split <;> simp
  | keep a b h => exact ⟨_, Nat.le_refl _, .keep a b h⟩
/-- one number less ahead is no dearer -/
theorem Co.tail {base : List Int} {x : Int} {t : List Int} {c : Nat} (h : Co base false (x :: t) c) : ∃ c', c' ≤ c ∧ Co base false t c' := by
  generalize e : x :: t = u at h
  cases h with
  | nil => cases e
  | put h =>
    cases e
    obtain ⟨c', h1, h2⟩ := h.down
    exact ⟨c', by simp; omega, h2⟩
  | keep a b h =>
    rename_i k t' c
    cases k with
    | nil => exact absurd rfl a
    | cons y k =>
      rw [List.cons_append] at e
      injection e with e1 e2
      subst e2
      cases k with
      | nil => exact ⟨c, by omega, h⟩
      | cons z k =>
        refine ⟨_, Nat.le_refl _, .keep (by simp) ?_ h⟩
        obtain ⟨p, q, hpq⟩ := b
        exact ⟨p ++ [y], q, by rw [← hpq]; simp⟩
theorem Co.drop {base : List Int} : ∀ (k : List Int) {t : List Int} {c : Nat}, Co base false (k ++ t) c → ∃ c', c' ≤ c ∧ Co base false t c'
  | [], t, c, h => ⟨c, Nat.le_refl _, h⟩
  | x :: k, t, c, h => by
    obtain ⟨c1, h1, h2⟩ := Co.tail h
    obtain ⟨c2, h3, h4⟩ := Co.drop k h2
    exact ⟨c2, by omega, h4⟩
/-- the mirror's numbers are costs, and least -/
theorem infix_mlen {base t : List Int} {s k : Nat} (h : k ≤ mlen (base.drop s) t) : t.take k <:+: base := by
  rw [← mlen_take _ _ _ h]
  refine ⟨base.take s, (base.drop s).drop k, ?_⟩
  rw [List.append_assoc, List.take_append_drop, List.take_append_drop]
theorem costs (base : List Int) : ∀ (n : Nat) (t : List Int), t.length ≤ n → Co base false t (F base t).1 ∧ Co base true t (W base t).1
  | _, [], _ => ⟨.nil _, .nil _⟩
  | 0, x :: t, h => by simp at h
  | n + 1, x :: t, h => by
    have hl : t.length ≤ n := by simpa using h
    have ih := costs base n t hl
    have kk : 0 < (best base (x :: t)).2 → ∀ w, Co base w (x :: t) (K base x t).1 := by
      intro hp w
      obtain ⟨h1, h2, h3, h4⟩ := best_pos hp
      have ih2 := (costs base n ((x :: t).drop (best base (x :: t)).2) (by rw [List.length_drop, List.length_cons]; omega)).1
      have := Co.keep (w := w) (k := (x :: t).take (best base (x :: t)).2) (by
        intro z
        have := congrArg List.length z
        rw [List.length_take, List.length_nil] at this
        omega) (infix_mlen (s := (best base (x :: t)).1) (by omega)) ih2
      rw [List.take_append_drop] at this
      exact this
    obtain ⟨e1, e2⟩ := FW_cons base x t
    rw [e1, e2]
    refine ⟨?_, ?_⟩
    · split
      · rename_i q; exact kk q.1 false
      · exact .put (w := false) ih.2
    · split
      · rename_i q; exact kk q.1 true
      · exact .put (w := true) ih.2
theorem least (base : List Int) : ∀ (n : Nat) (t : List Int), t.length ≤ n → (∀ c, Co base false t c → (F base t).1 ≤ c) ∧ (∀ c, Co base true t c → (W base t).1 ≤ c)
  | _, [], _ => ⟨fun _ _ => Nat.zero_le _, fun _ _ => Nat.zero_le _⟩
  | 0, x :: t, h => by simp at h
  | n + 1, x :: t, h => by
    have hl : t.length ≤ n := by simpa using h
    have ih := least base n t hl
    obtain ⟨e1, e2⟩ := FW_cons base x t
    have kk : ∀ (k u : List Int) (c : Nat), k ≠ [] → k <:+: base → k ++ u = x :: t → Co base false u c → 0 < (best base (x :: t)).2 ∧ (K base x t).1 ≤ c + 2 := by
      intro k u c hk hb e hc
      obtain ⟨p, q, hpq⟩ := hb
      have hlen : k.length ≤ mlen (base.drop p.length) (x :: t) := by
        rw [← hpq, ← e, List.append_assoc, List.drop_left]
        exact le_mlen k q u
      have kpos : 0 < k.length := List.length_pos_iff.mpr hk
      have plt : p.length < base.length := by rw [← hpq, List.length_append, List.length_append]; omega
      have hbest : k.length ≤ (best base (x :: t)).2 := Nat.le_trans hlen ((bestUp_spec base (x :: t) base.length).1 p.length plt)
      refine ⟨by omega, ?_⟩
      show (F base ((x :: t).drop (best base (x :: t)).2)).1 + 2 ≤ c + 2
      obtain ⟨d, hd⟩ : ∃ d, (best base (x :: t)).2 = k.length + d := ⟨(best base (x :: t)).2 - k.length, by omega⟩
      have eu : (x :: t).drop (best base (x :: t)).2 = u.drop d := by
        rw [hd, ← e, ← List.drop_drop, List.drop_left]
      rw [eu]
      have : u.take d ++ u.drop d = u := List.take_append_drop d u
      rw [← this] at hc
      obtain ⟨c', h1, h2⟩ := Co.drop _ hc
      have hlu : (u.drop d).length ≤ n := by
        have := congrArg List.length e
        rw [List.length_append, List.length_cons] at this
        rw [List.length_drop]
        omega
      have := (least base n (u.drop d) hlu).1 c' h2
      omega
    rw [e1, e2]
    refine ⟨fun c hc => ?_, fun c hc => ?_⟩
    · generalize eu : x :: t = u at hc
      cases hc with
      | nil => cases eu
      | put hc =>
        cases eu
        have := ih.2 _ hc
        split
        · rename_i q; simp; omega
        · simp; omega
      | keep a b hc =>
        obtain ⟨h1, h2⟩ := kk _ _ _ a b eu.symm hc
        split
        · exact h2
        · rename_i q
          have : ¬ (K base x t).1 ≤ (W base t).1 + 2 := fun z => q ⟨by rw [← eu]; exact h1, z⟩
          dsimp only
          omega
    · generalize eu : x :: t = u at hc
      cases hc with
      | nil => cases eu
      | put hc =>
        cases eu
        have := ih.2 _ hc
        split
        · rename_i q; simp; omega
        · simp; omega
      | keep a b hc =>
        obtain ⟨h1, h2⟩ := kk _ _ _ a b eu.symm hc
        split
        · exact h2
        · rename_i q
          have : ¬ (K base x t).1 ≤ (W base t).1 + 1 := fun z => q ⟨by rw [← eu]; exact h1, z⟩
          dsimp only
          omega
/-- the least cost -/
def lc (base t : List Int) : Nat := (F base t).1
theorem lc_is (base t : List Int) : Co base false t (lc base t) := (costs base t.length t (Nat.le_refl _)).1
theorem lc_le {base t : List Int} {c : Nat} (h : Co base false t c) : lc base t ≤ c := (least base t.length t (Nat.le_refl _)).1 c h
theorem wc_is (base t : List Int) : Co base true t (W base t).1 := (costs base t.length t (Nat.le_refl _)).2
theorem wc_le {base t : List Int} {c : Nat} (h : Co base true t c) : (W base t).1 ≤ c := (least base t.length t (Nat.le_refl _)).2 c h

/-! ### how costs stand to one another -/
theorem Co.wider {base base' : List Int} (hb : ∀ k, k <:+: base → k <:+: base') {w : Bool} {t : List Int} {c : Nat} (h : Co base w t c) : Co base' w t c := by
  induction h with
  | nil w => exact .nil w
  | put _ ih => exact .put ih
  | keep a b _ ih => exact .keep a (hb _ b) ih
theorem lc_more (base more t : List Int) : lc (base ++ more) t ≤ lc base t ∧ lc (more ++ base) t ≤ lc base t := by
  refine ⟨lc_le (Co.wider (fun k h => ?_) (lc_is base t)), lc_le (Co.wider (fun k h => ?_) (lc_is base t))⟩
  · obtain ⟨p, q, e⟩ := h
    exact ⟨p, q ++ more, by rw [← e]; simp⟩
  · obtain ⟨p, q, e⟩ := h
    exact ⟨more ++ p, q, by rw [← e]; simp⟩
theorem Co.two {base t2 : List Int} {c2 : Nat} (h2 : Co base false t2 c2) {w : Bool} {t : List Int} {c : Nat} (h : Co base w t c) : ∃ c', c' ≤ c + c2 ∧ Co base w (t ++ t2) c' := by
  induction h with
  | nil w =>
    obtain ⟨c', h1, h3⟩ := h2.up w
    exact ⟨c', by omega, h3⟩
  | put _ ih =>
    obtain ⟨c', h1, h3⟩ := ih
    exact ⟨_, by omega, .put h3⟩
  | keep a b _ ih =>
    obtain ⟨c', h1, h3⟩ := ih
    rw [List.append_assoc]
    exact ⟨_, by omega, .keep a b h3⟩
theorem lc_two (base t t2 : List Int) : lc base (t ++ t2) ≤ lc base t + lc base t2 := by
  obtain ⟨c, h1, h2⟩ := Co.two (lc_is base t2) (lc_is base t)
  exact Nat.le_trans (lc_le h2) h1
theorem lc_one (base : List Int) (x : Int) : lc base [x] ≤ 2 := lc_le (.put (w := false) (.nil true))
theorem lc_snoc_le (base t : List Int) (x : Int) : lc base (t ++ [x]) ≤ lc base t + 2 := Nat.le_trans (lc_two base t [x]) (Nat.add_le_add_left (lc_one base x) _)
theorem lc_cons (base t : List Int) (x : Int) : lc base t ≤ lc base (x :: t) := by
  obtain ⟨c, h1, h2⟩ := Co.tail (lc_is base (x :: t))
  exact Nat.le_trans (lc_le h2) h1
theorem Co.init {base : List Int} {x : Int} {w : Bool} {u : List Int} {c : Nat} (h : Co base w u c) : ∀ t, u = t ++ [x] → ∃ c', c' ≤ c ∧ Co base w t c' := by
  induction h with
  | nil w =>
    intro t e
    have := congrArg List.length e
    simp at this
  | put h ih =>
    intro t e
    cases t with
    | nil => exact ⟨0, Nat.zero_le _, .nil _⟩
    | cons y t =>
      rw [List.cons_append] at e
      injection e with e1 e2
      obtain ⟨c', h1, h2⟩ := ih t e2
      exact ⟨_, by omega, .put (x := y) h2⟩
  | keep a b h ih =>
    rename_i w k t' c
    intro t e
    rcases List.eq_nil_or_concat t' with rfl | ⟨t0, z, rfl⟩
    · rw [List.append_nil] at e
      cases t with
      | nil => exact ⟨0, Nat.zero_le _, .nil _⟩
      | cons y t =>
        refine ⟨2, by omega, ?_⟩
        have := Co.keep (w := w) (k := y :: t) (base := base) (t := []) (c := 0) (by simp) (by
          obtain ⟨p, q, hpq⟩ := b
          exact ⟨p, x :: q, by rw [← hpq, e]; simp⟩) (.nil _)
        rw [List.append_nil] at this
        exact this
    · rw [List.concat_eq_append, ← List.append_assoc] at e
      have e1 := List.append_inj_left' e rfl
      have e2 := List.append_inj_right' e rfl
      injection e2 with e2
      obtain ⟨c', h1, h2⟩ := ih t0 (by rw [List.concat_eq_append, e2])
      rw [← e1]
      exact ⟨_, by omega, .keep a b h2⟩
theorem lc_snoc (base t : List Int) (x : Int) : lc base t ≤ lc base (t ++ [x]) := by
  obtain ⟨c, h1, h2⟩ := Co.init (lc_is base (t ++ [x])) t rfl
  exact Nat.le_trans (lc_le h2) h1
theorem Co.map {base : List Int} (f : Int → Int) {w : Bool} {t : List Int} {c : Nat} (h : Co base w t c) : Co (base.map f) w (t.map f) c := by
  induction h with
  | nil w => exact .nil w
  | put _ ih => exact .put ih
  | keep a b _ ih =>
    rw [List.map_append]
    refine .keep (by simpa using a) ?_ ih
    obtain ⟨p, q, e⟩ := b
    exact ⟨p.map f, q.map f, by rw [← e]; simp⟩
theorem lc_map (base t : List Int) (f g : Int → Int) (hb : ∀ x ∈ base, g (f x) = x) (ht : ∀ x ∈ t, g (f x) = x) : lc (base.map f) (t.map f) = lc base t := by
  apply Nat.le_antisymm
  · exact lc_le (Co.map f (lc_is base t))
  · have h := Co.map g (lc_is (base.map f) (t.map f))
    have e1 : (base.map f).map g = base := by
      rw [List.map_map]
      exact (List.map_congr_left (g := id) hb).trans (List.map_id base)
    have e2 : (t.map f).map g = t := by
      rw [List.map_map]
      exact (List.map_congr_left (g := id) ht).trans (List.map_id t)
    rw [e1, e2] at h
    exact lc_le h
/-- pieces -/
inductive Pc where
  | k (xs : List Int) | p (xs : List Int)
def Pc.nums : Pc → List Int
  | .k xs => xs
  | .p xs => xs
def Pc.cost : Pc → Nat
  | .k _ => 2
  | .p xs => 1 + xs.length
def Pc.ok (base : List Int) : Pc → Prop
  | .k xs => xs ≠ [] ∧ xs <:+: base
  | .p xs => xs ≠ []
def nums (ps : List Pc) : List Int := (ps.map Pc.nums).flatten
def cost (ps : List Pc) : Nat := (ps.map Pc.cost).sum
def oks (base : List Int) (ps : List Pc) : Prop := ∀ q ∈ ps, q.ok base
theorem Co.put_all {base : List Int} : ∀ (xs : List Int) {t : List Int} {c : Nat}, Co base true t c → Co base true (xs ++ t) (c + xs.length)
  | [], _, _, h => h
  | x :: xs, t, c, h => by
    have := Co.put (w := true) (x := x) (Co.put_all xs h)
    exact this
theorem Co.of_pieces {base : List Int} : ∀ (ps : List Pc), oks base ps → ∃ c, c ≤ cost ps ∧ Co base false (nums ps) c
  | [], _ => ⟨0, Nat.zero_le _, .nil _⟩
  | .k xs :: ps, h => by
    obtain ⟨c, h1, h2⟩ := Co.of_pieces ps fun q hq => h q (List.mem_cons_of_mem _ hq)
    have hk := h (.k xs) List.mem_cons_self
    refine ⟨c + 2, ?_, .keep hk.1 hk.2 h2⟩
    show c + 2 ≤ 2 + cost ps
    omega
  | .p xs :: ps, h => by
    obtain ⟨c, h1, h2⟩ := Co.of_pieces ps fun q hq => h q (List.mem_cons_of_mem _ hq)
    have hk : xs ≠ [] := h (.p xs) List.mem_cons_self
    obtain ⟨c', h3, h4⟩ := h2.up true
    cases xs with
    | nil => exact absurd rfl hk
    | cons x xs =>
      refine ⟨c' + xs.length + 2, ?_, ?_⟩
      · show _ ≤ 1 + (xs.length + 1) + cost ps
        omega
      · exact Co.put (w := false) (x := x) (Co.put_all xs h4)
theorem pieces_of {base : List Int} {w : Bool} {t : List Int} {c : Nat} (h : Co base w t c) : ∃ ps, oks base ps ∧ nums ps = t ∧ (cost ps ≤ c ∨ (w = true ∧ cost ps ≤ c + 1 ∧ ∃ xs r, ps = .p xs :: r)) := by
  induction h with
  | nil w => exact ⟨[], fun _ z => (nomatch z), rfl, .inl (Nat.le_refl _)⟩
  | put h ih =>
    rename_i w x t c
    obtain ⟨ps, h1, h2, h3⟩ := ih
    have fin : ∀ ps', (cost ps' ≤ c + 2) → (∃ xs r, ps' = Pc.p xs :: r) → (cost ps' ≤ c + (if w = true then 1 else 2) ∨ (w = true ∧ cost ps' ≤ c + (if w = true then 1 else 2) + 1 ∧ ∃ xs r, ps' = .p xs :: r)) := by
      intro ps' hc hp
      cases w with
      | false => exact .inl (by simpa using hc)
      | true => exact .inr ⟨rfl, by simpa using hc, hp⟩
    rcases h3 with h3 | ⟨_, h3, xs, r, rfl⟩
    · refine ⟨.p [x] :: ps, fun q hq => ?_, ?_, fin _ ?_ ⟨_, _, rfl⟩⟩
      · rcases List.mem_cons.mp hq with rfl | hq
        · exact List.cons_ne_nil _ _
        · exact h1 q hq
      · show [x] ++ nums ps = x :: t
        rw [h2]
        rfl
      · show 1 + 1 + cost ps ≤ c + 2
        omega
    · refine ⟨.p (x :: xs) :: r, fun q hq => ?_, ?_, fin _ ?_ ⟨_, _, rfl⟩⟩
      · rcases List.mem_cons.mp hq with rfl | hq
        · exact List.cons_ne_nil _ _
        · exact h1 q (List.mem_cons_of_mem _ hq)
      · show (x :: xs) ++ nums r = x :: t
        rw [← h2]
        rfl
      · have : cost (Pc.p xs :: r) = 1 + xs.length + cost r := rfl
        show 1 + (xs.length + 1) + cost r ≤ c + 2
        omega
  | keep a b h ih =>
    rename_i w k t c
    obtain ⟨ps, h1, h2, h3⟩ := ih
    refine ⟨.k k :: ps, fun q hq => ?_, ?_, .inl ?_⟩
    · rcases List.mem_cons.mp hq with rfl | hq
      · exact ⟨a, b⟩
      · exact h1 q hq
    · show k ++ nums ps = k ++ t
      rw [h2]
    · show 2 + cost ps ≤ c + 2
      rcases h3 with h3 | ⟨z, _⟩
      · omega
      · cases z
def Pc.rev : Pc → Pc
  | .k xs => .k xs.reverse
  | .p xs => .p xs.reverse
theorem nums_rev : ∀ ps : List Pc, nums (ps.reverse.map Pc.rev) = (nums ps).reverse
  | [] => rfl
  | q :: ps => by
    have ih := nums_rev ps
    unfold nums at ih ⊢
    rw [List.reverse_cons, List.map_append, List.map_append, List.flatten_append, ih]
    cases q <;> simp [Pc.rev, Pc.nums]
theorem cost_rev (ps : List Pc) : cost (ps.reverse.map Pc.rev) = cost ps := by
  unfold cost
  rw [List.map_map, List.map_reverse, List.sum_reverse]
  congr 1
  apply List.map_congr_left
  intro q _
  cases q <;> simp [Pc.rev, Pc.cost]
theorem lc_rev_le (base t : List Int) : lc base.reverse t.reverse ≤ lc base t := by
  obtain ⟨ps, h1, h2, h3⟩ := pieces_of (lc_is base t)
  have hc : cost ps ≤ lc base t := by
    rcases h3 with h3 | ⟨z, _⟩
    · exact h3
    · cases z
  obtain ⟨c, h4, h5⟩ := Co.of_pieces (base := base.reverse) (ps.reverse.map Pc.rev) (by
    intro q hq
    obtain ⟨q0, hq0, rfl⟩ := List.mem_map.mp hq
    have := h1 q0 (List.mem_reverse.mp hq0)
    cases q0 with
    | k xs =>
      obtain ⟨a, p, r, e⟩ := this
      exact ⟨by simpa using a, r.reverse, p.reverse, by rw [← e]; simp⟩
    | p xs =>
      have a : xs ≠ [] := this
      show xs.reverse ≠ []
      simpa using a)
  rw [nums_rev, h2] at h5
  rw [cost_rev] at h4
  have := lc_le h5
  omega
theorem lc_rev (base t : List Int) : lc base.reverse t.reverse = lc base t := by
  apply Nat.le_antisymm (lc_rev_le base t)
  have := lc_rev_le base.reverse t.reverse
  rw [List.reverse_reverse, List.reverse_reverse] at this
  exact this
theorem lc_whole (base t : List Int) : lc base t ≤ 1 + t.length := by
  cases t with
  | nil => exact Nat.le_trans (lc_le (.nil false)) (Nat.zero_le _)
  | cons x t =>
    have h := Co.put (w := false) (x := x) (Co.put_all (base := base) t (.nil true))
    rw [List.append_nil] at h
    have := lc_le h
    simp at this
    rw [List.length_cons]
    omega
theorem lc_nil (base : List Int) : lc base [] = 0 := rfl

/-! ### the law's own reckoning -/
def mn : List Nat → Nat
  | [] => 0
  | [a] => a
  | a :: l => min a (mn l)
theorem mn_spec : ∀ l : List Nat, l ≠ [] → mn l ∈ l ∧ ∀ y ∈ l, mn l ≤ y
  | [], h => absurd rfl h
  | [a], _ => ⟨List.mem_singleton.mpr rfl, fun y hy => by rw [List.mem_singleton.mp hy]; exact Nat.le_refl _⟩
  | a :: b :: l, _ => by
    have ih := mn_spec (b :: l) (List.cons_ne_nil _ _)
    have e : mn (a :: b :: l) = min a (mn (b :: l)) := rfl
    rw [e]
    refine ⟨?_, fun y hy => ?_⟩
    · by_cases h : a ≤ mn (b :: l)
      · rw [Nat.min_eq_left h]; exact List.mem_cons_self
      · rw [Nat.min_eq_right (by omega)]; exact List.mem_cons_of_mem _ ih.1
    · rcases List.mem_cons.mp hy with rfl | hy
      · exact Nat.min_le_left _ _
      · exact Nat.le_trans (Nat.min_le_right _ _) (ih.2 y hy)
theorem mn_uniq {l : List Nat} {m : Nat} (h1 : m ∈ l) (h2 : ∀ y ∈ l, m ≤ y) : m = mn l := by
  have hne : l ≠ [] := fun z => by rw [z] at h1; cases h1
  have := mn_spec l hne
  exact Nat.le_antisymm (h2 _ this.1) (this.2 _ h1)
/-- what keeping costs, for each beginning and each number of numbers -/
def keeps (base t : List Int) (fr : List Nat) : List Nat := (List.range base.length).flatMap fun s => (List.range (mlen (base.drop s) t)).map fun j => 2 + fr.getD j 0
def ch (base : List Int) : List Int → List Nat × List Nat
  | [] => ([0], [0])
  | x :: t => (mn ((2 + (ch base t).2.headD 0) :: keeps base (x :: t) (ch base t).1) :: (ch base t).1, mn ((1 + (ch base t).2.headD 0) :: keeps base (x :: t) (ch base t).1) :: (ch base t).2)
theorem ch_at (base : List Int) : ∀ t : List Int, (∀ k, k ≤ t.length → (ch base t).1[k]? = some (lc base (t.drop k))) ∧ (∀ k, k ≤ t.length → (ch base t).2[k]? = some (W base (t.drop k)).1)
  | [] => ⟨fun k h => by have : k = 0 := by simpa using h
                         subst this; rfl, fun k h => by have : k = 0 := by simpa using h
                                                        subst this; rfl⟩
  | x :: t => by
    have ih := ch_at base t
    have hw : (ch base t).2.headD 0 = (W base t).1 := by
      have := ih.2 0 (Nat.zero_le _)
      rw [List.drop_zero] at this
      cases h : (ch base t).2 with
      | nil => rw [h] at this; cases this
      | cons a l => rw [h] at this; simpa using this
    have hk : ∀ c, c ∈ keeps base (x :: t) (ch base t).1 → ∀ w, Co base w (x :: t) c := by
      intro c hc
      unfold keeps at hc
      obtain ⟨s, hs, hc⟩ := List.mem_flatMap.mp hc
      obtain ⟨j, hj, rfl⟩ := List.mem_map.mp hc
      have hj' := List.mem_range.mp hj
      have hl := (mlen_le (base.drop s) (x :: t)).1
      rw [List.length_cons] at hl
      have hg : (ch base t).1.getD j 0 = lc base (t.drop j) := by
        rw [List.getD_eq_getElem?_getD, ih.1 j (by omega)]
        rfl
      intro w
      rw [hg, Nat.add_comm]
      have := Co.keep (w := w) (k := (x :: t).take (j + 1)) (by simp) (infix_mlen (s := s) (by omega)) (lc_is base (t.drop j))
      rw [List.take_succ_cons, List.cons_append, List.take_append_drop] at this
      exact this
    have hb : ∀ (w : Bool) (c : Nat), Co base w (x :: t) c → (c = (if w then 1 else 2) + (W base t).1 ∨ (if w then 1 else 2) + (W base t).1 ≤ c) ∨ ∃ d ∈ keeps base (x :: t) (ch base t).1, d ≤ c := by
      intro w c hc
      generalize eu : x :: t = u at hc
      cases hc with
      | nil => cases eu
      | put hc =>
        cases eu
        have := wc_le hc
        exact .inl (.inr (by omega))
      | keep a b hc =>
        rename_i k t' c
        right
        obtain ⟨p, q, hpq⟩ := b
        have kpos : 0 < k.length := List.length_pos_iff.mpr a
        have hlen : k.length ≤ mlen (base.drop p.length) (x :: t) := by
          rw [← hpq, eu, List.append_assoc, List.drop_left]
          exact le_mlen k q t'
        have plt : p.length < base.length := by rw [← hpq, List.length_append, List.length_append]; omega
        refine ⟨2 + (ch base t).1.getD (k.length - 1) 0, ?_, ?_⟩
        · unfold keeps
          exact List.mem_flatMap.mpr ⟨p.length, List.mem_range.mpr plt, List.mem_map.mpr ⟨k.length - 1, List.mem_range.mpr (by rw [← eu]; omega), rfl⟩⟩
        · have hlt := congrArg List.length eu
          rw [List.length_cons, List.length_append] at hlt
          rw [List.getD_eq_getElem?_getD, ih.1 (k.length - 1) (by omega)]
          have ed : t.drop (k.length - 1) = t' := by
            have := congrArg (List.drop k.length) eu
            rw [List.drop_left] at this
            obtain ⟨m, hm⟩ : ∃ m, k.length = m + 1 := ⟨k.length - 1, by omega⟩
            rw [hm, List.drop_succ_cons] at this
            rw [hm]
            exact this
          rw [ed]
          have := lc_le hc
          show 2 + lc base t' ≤ c + 2
          omega
    have h1 : mn ((2 + (ch base t).2.headD 0) :: keeps base (x :: t) (ch base t).1) = lc base (x :: t) := by
      symm
      have co : ∀ y ∈ ((2 + (ch base t).2.headD 0) :: keeps base (x :: t) (ch base t).1), Co base false (x :: t) y := by
        intro y hy
        rcases List.mem_cons.mp hy with rfl | hy
        · rw [hw, Nat.add_comm]
          exact Co.put (w := false) (wc_is base t)
        · exact hk y hy false
      refine mn_uniq ?_ fun y hy => lc_le (co y hy)
      rcases hb false _ (lc_is base (x :: t)) with (h | h) | ⟨d, hd, h⟩
      · rw [hw]
        exact List.mem_cons.mpr (.inl (by simpa using h))
      · have := lc_le (co _ List.mem_cons_self)
        rw [hw] at this ⊢
        exact List.mem_cons.mpr (.inl (Nat.le_antisymm this (by simpa using h)))
      · have := lc_le (hk d hd false)
        have e : lc base (x :: t) = d := Nat.le_antisymm this h
        rw [e]
        exact List.mem_cons_of_mem _ hd
    have h2 : mn ((1 + (ch base t).2.headD 0) :: keeps base (x :: t) (ch base t).1) = (W base (x :: t)).1 := by
      symm
      have co : ∀ y ∈ ((1 + (ch base t).2.headD 0) :: keeps base (x :: t) (ch base t).1), Co base true (x :: t) y := by
        intro y hy
        rcases List.mem_cons.mp hy with rfl | hy
        · rw [hw, Nat.add_comm]
          exact Co.put (w := true) (wc_is base t)
        · exact hk y hy true
      refine mn_uniq ?_ fun y hy => wc_le (co y hy)
      rcases hb true _ (wc_is base (x :: t)) with (h | h) | ⟨d, hd, h⟩
      · rw [hw]
        exact List.mem_cons.mpr (.inl (by simpa using h))
      · have := wc_le (co _ List.mem_cons_self)
        rw [hw] at this ⊢
        exact List.mem_cons.mpr (.inl (Nat.le_antisymm this (by simpa using h)))
      · have := wc_le (hk d hd true)
        have e : (W base (x :: t)).1 = d := Nat.le_antisymm this h
        rw [e]
        exact List.mem_cons_of_mem _ hd
    refine ⟨fun k hk => ?_, fun k hk => ?_⟩
    · cases k with
      | zero => rw [ch, h1]; rfl
      | succ k => rw [ch, List.getElem?_cons_succ, List.drop_succ_cons]; exact ih.1 k (by simpa using hk)
    · cases k with
      | zero => rw [ch, h2]; rfl
      | succ k => rw [ch, List.getElem?_cons_succ, List.drop_succ_cons]; exact ih.2 k (by simpa using hk)

/-! ### the rows -/
def Ed.ok (n : Nat) : Ed → Prop
  | .keep s m => 1 ≤ m ∧ s + m ≤ n
  | .put xs => xs ≠ []
def Ed.nums (base : List Int) : Ed → List Int
  | .keep s m => (base.drop s).take m
  | .put xs => xs
def mk (base : List Int) (es : List Ed) : List Int := (es.map (Ed.nums base)).flatten
def apart : List Ed → Prop
  | .put _ :: .put _ :: _ => False
  | _ :: r => apart r
  | [] => True
structure Good (base t : List Int) (es : List Ed) : Prop where
  ok : ∀ e ∈ es, e.ok base.length
  made : mk base es = t
  apart : apart es
theorem apart_tail {e : Ed} {es : List Ed} (h : apart (e :: es)) : apart es := by
  cases e with
  | keep s m => exact h
  | put xs =>
    cases es with
    | nil => trivial
    | cons e' es =>
      cases e' with
      | keep => exact h
      | put => exact h.elim
theorem good_with {base t : List Int} {es : List Ed} (x : Int) (h : Good base t es) : Good base (x :: t) (withNum x es) := by
  cases es with
  | nil => exact ⟨fun e he => by rw [List.mem_singleton.mp he]; exact List.cons_ne_nil _ _, by rw [← h.made]; rfl, trivial⟩
  | cons e es =>
    cases e with
    | keep s m =>
      refine ⟨fun e he => ?_, by rw [← h.made]; rfl, h.apart⟩
      rcases List.mem_cons.mp he with rfl | he
      · exact List.cons_ne_nil _ _
      · exact h.ok e he
    | put xs =>
      refine ⟨fun e he => ?_, by rw [← h.made]; rfl, ?_⟩
      · rcases List.mem_cons.mp he with rfl | he
        · exact List.cons_ne_nil _ _
        · exact h.ok e (List.mem_cons_of_mem _ he)
      · have := h.apart
        cases es with
        | nil => trivial
        | cons e' es =>
          cases e' with
          | keep => exact this
          | put => exact this.elim
theorem good (base : List Int) : ∀ (n : Nat) (t : List Int), t.length ≤ n → Good base t (F base t).2 ∧ Good base t (W base t).2
  | _, [], _ => ⟨⟨fun _ z => (nomatch z), rfl, trivial⟩, ⟨fun _ z => (nomatch z), rfl, trivial⟩⟩
  | 0, x :: t, h => by simp at h
  | n + 1, x :: t, h => by
    have hl : t.length ≤ n := by simpa using h
    have ih := good base n t hl
    have kk : 0 < (best base (x :: t)).2 → Good base (x :: t) (K base x t).2 := by
      intro hp
      obtain ⟨h1, h2, h3, h4⟩ := best_pos hp
      have ih2 := (good base n ((x :: t).drop (best base (x :: t)).2) (by rw [List.length_drop, List.length_cons]; omega)).1
      refine ⟨fun e he => ?_, ?_, ih2.apart⟩
      · rcases List.mem_cons.mp he with rfl | he
        · exact ⟨hp, h3⟩
        · exact ih2.ok e he
      · show (base.drop (best base (x :: t)).1).take (best base (x :: t)).2 ++ mk base _ = x :: t
        rw [ih2.made, mlen_take _ (x :: t) _ (by omega), List.take_append_drop]
    obtain ⟨e1, e2⟩ := FW_cons base x t
    rw [e1, e2]
    refine ⟨?_, ?_⟩
    · split
      · rename_i q; exact kk q.1
      · exact good_with x ih.2
    · split
      · rename_i q; exact kk q.1
      · exact good_with x ih.2
theorem good_F (base t : List Int) : Good base t (F base t).2 := (good base t.length t (Nat.le_refl _)).1

theorem mlen_iff : ∀ (a b : List Int) (k : Nat), k ≤ mlen a b → (k < mlen a b ↔ ∃ x, a[k]? = some x ∧ b[k]? = some x)
  | [], b, k, h => by simp [mlen] at h ⊢
  | a :: as, [], k, h => by simp [mlen] at h ⊢
  | a :: as, b :: bs, k, h => by
    rw [mlen] at h ⊢
    by_cases e : a = b
    · rw [if_pos e] at h ⊢
      cases k with
      | zero => exact ⟨fun _ => ⟨a, rfl, by rw [e]; rfl⟩, fun _ => Nat.succ_pos _⟩
      | succ k =>
        rw [List.getElem?_cons_succ, List.getElem?_cons_succ, ← mlen_iff as bs k (by omega)]
        omega
    · rw [if_neg e] at h ⊢
      have hk : k = 0 := by omega
      subst hk
      refine ⟨fun z => by omega, fun ⟨x, h1, h2⟩ => ?_⟩
      cases h1
      cases h2
      exact absurd rfl e
end Ch

set_option maxRecDepth 100000
set_option maxHeartbeats 4000000
namespace K35
open PySem L2 DL
def top (i : Nat) : Stmt := PySem.Challenge.pw_packedbases_k35_whole_costs_of_changes.main.body.getD i (.Pass ⟨0, 0, 0, 0⟩)
section
local macro_rules | `(tactic| walk_at "vis") => `(tactic| first | exact Or.inl rfl | exact Or.inr (Or.inl rfl) | exact Or.inr (Or.inr rfl))
local macro_rules | `(tactic| walk_at "v") => `(tactic| first
  | refine we_var (i := 0) rfl (by walk_at "vis") (by decide) (by decide) rfl ?_ | refine we_var (i := 1) rfl (by walk_at "vis") (by decide) (by decide) rfl ?_
  | refine we_var (i := 2) rfl (by walk_at "vis") (by decide) (by decide) rfl ?_ | refine we_var (i := 3) rfl (by walk_at "vis") (by decide) (by decide) rfl ?_
  | refine we_var (i := 4) rfl (by walk_at "vis") (by decide) (by decide) rfl ?_ | refine we_var (i := 5) rfl (by walk_at "vis") (by decide) (by decide) rfl ?_
  | refine we_var (i := 6) rfl (by walk_at "vis") (by decide) (by decide) rfl ?_ | refine we_var (i := 7) rfl (by walk_at "vis") (by decide) (by decide) rfl ?_
  | refine we_var (i := 8) rfl (by walk_at "vis") (by decide) (by decide) rfl ?_ | refine we_var (i := 9) rfl (by walk_at "vis") (by decide) (by decide) rfl ?_
  | refine we_var (i := 10) rfl (by walk_at "vis") (by decide) (by decide) rfl ?_ | refine we_var (i := 11) rfl (by walk_at "vis") (by decide) (by decide) rfl ?_
  | refine we_var (i := 12) rfl (by walk_at "vis") (by decide) (by decide) rfl ?_ | refine we_var (i := 13) rfl (by walk_at "vis") (by decide) (by decide) rfl ?_
  | refine we_var (i := 14) rfl (by walk_at "vis") (by decide) (by decide) rfl ?_ | refine we_var (i := 15) rfl (by walk_at "vis") (by decide) (by decide) rfl ?_)
local macro_rules | `(tactic| walk_at "c") => `(tactic| first
  | refine we_len (by assumption) rfl rfl ?_ | refine we_isi (by assumption) rfl rfl rfl rfl ?_ | refine we_int1 (by assumption) rfl rfl ?_
  | refine we_all rfl (by assumption) rfl rfl ?_ | refine we_any rfl (by assumption) rfl rfl ?_ | refine we_sum rfl (by assumption) rfl rfl ?_
  | refine we_list1 (by assumption) rfl rfl ?_ | refine we_tuple1 (by assumption) rfl rfl ?_ | refine we_min2 rfl (by assumption) rfl rfl rfl rfl ?_ | refine we_max2 rfl (by assumption) rfl rfl rfl rfl ?_
  | refine we_minL rfl (by assumption) rfl rfl ?_ | refine we_maxL rfl (by assumption) rfl rfl ?_
  | refine we_call (by assumption) (Room.mono (by assumption) (by decide)) rfl (by decide) rfl rfl ?_ | refine we_call0 (by assumption) (Room.mono (by assumption) (by decide)) rfl (by decide) ?_)
local macro_rules | `(tactic| walk_at "n") => `(tactic| first
  | walk_at "v"
  | refine we_tyInt (by assumption) rfl ?_ | refine we_tyBool (by assumption) rfl ?_ | refine we_tyStr (by assumption) rfl ?_ | refine we_tyList (by assumption) rfl ?_ | refine we_tyTuple (by assumption) rfl ?_ | refine we_tyDict (by assumption) rfl ?_
  | refine we_gInt rfl (by assumption) (by decide) ?_)
local macro_rules | `(tactic| walk_at "e") => `(tactic| first
  | ((with_reducible show WE _ _ (Expr.Constant _ _ _) _ _); first | refine we_int ?_ | refine we_str ?_ | refine we_bl ?_ | refine we_non ?_)
  | ((with_reducible show WE _ _ (Expr.Name _ _) _ _); walk_at "n")
  | ((with_reducible show WE _ _ (Expr.Call _ _ _ _) _ _); walk_at "c")
  | ((with_reducible show WE _ _ (Expr.BinOp _ _ _ _) _ _); first | refine we_add ?_ | refine we_sub ?_ | refine we_mul ?_ | refine we_mod ?_ | refine we_div ?_ | refine we_pow ?_)
  | ((with_reducible show WE _ _ (Expr.UnaryOp _ _ _) _ _); first | refine we_not ?_ | refine we_neg ?_)
  | ((with_reducible show WE _ _ (Expr.BoolOp _ _ _) _ _); first | refine we_one ?_ | refine we_and ?_ | refine we_or ?_)
  | ((with_reducible show WE _ _ (Expr.Compare _ _ _ _) _ _); first | refine we_lt ?_ | refine we_le ?_ | refine we_gt ?_ | refine we_ge ?_ | refine we_eq (Room.units (by assumption)) ?_ | refine we_ne (Room.units (by assumption)) ?_ | refine we_is ?_ | refine we_isN ?_ | refine we_in (units65 (by assumption)) rfl ?_ | refine we_notIn (units65 (by assumption)) rfl ?_ | refine we_lele rfl ?_)
  | ((with_reducible show WE _ _ (Expr.IfExp _ _ _ _) _ _); refine we_ifx ?_)
  | ((with_reducible show WE _ _ (Expr.Subscript _ _ _) _ _); first | refine we_sl ?_ | refine we_ix ix_seq d_ix (fun _ _ => rfl) ?_)
  | ((with_reducible show WE _ _ (Expr.List _ _) _ _); refine we_lst ?_)
  | ((with_reducible show WE _ _ (Expr.Tuple _ _ _) _ _); refine we_tup ?_)
  | ((with_reducible show WO _ _ _ _ _ _); first | refine wo_none ?_ | refine wo_some ?_)
  | ((with_reducible show bName _ _ _ _); refine b_name ?_)
  | ((with_reducible show bTup _ _ _ _); first | refine b_tup2 ?_ | refine b_tup3 ?_ | refine b_tup rfl ?_)
  | ((with_reducible show WA _ _ _ _ _); first | refine wa_nil ?_ | refine wa_star rfl ?_ | refine wa_cons rfl ?_))
local macro_rules | `(tactic| walk_at "t") => `(tactic| first
  | ((with_reducible show WW _ _ _ _ _); first | refine ww_and1 ?_ | refine ww_or1 ?_ | refine ww_and ?_ | refine ww_or ?_)
  | ((with_reducible show WT _ _ (Expr.UnaryOp _ _ _) _ _); refine wt_not ?_)
  | ((with_reducible show WT _ _ (Expr.BoolOp _ _ _) _ _); refine wt_w ?_)
  | ((with_reducible show WT _ _ (Expr.Compare _ _ _ _) _ _); first | refine wt_lt ?_ | refine wt_le ?_ | refine wt_gt ?_ | refine wt_ge ?_ | refine wt_eq (Room.units (by assumption)) ?_ | refine wt_ne (Room.units (by assumption)) ?_ | refine wt_is ?_ | refine wt_isN ?_ | refine wt_in (units65 (by assumption)) rfl ?_ | refine wt_notIn (units65 (by assumption)) rfl ?_ | refine wt_val (fun _ => rfl) ?_)
  | ((with_reducible show WT _ _ _ _ _); refine wt_val (fun _ => rfl) ?_))
local macro_rules | `(tactic| walk_at "set") => `(tactic| first
  | refine ws_set (i := 0) (by assumption) rfl (by walk_at "vis") rfl (Or.inl rfl) ?_ | refine ws_set (i := 1) (by assumption) rfl (by first | exact Or.inl rfl | exact Or.inr rfl) rfl (Or.inl rfl) ?_
  | refine ws_set (i := 2) (by assumption) rfl (by first | exact Or.inl rfl | exact Or.inr rfl) rfl (Or.inl rfl) ?_ | refine ws_set (i := 3) (by assumption) rfl (by first | exact Or.inl rfl | exact Or.inr rfl) rfl (Or.inl rfl) ?_
  | refine ws_set (i := 4) (by assumption) rfl (by first | exact Or.inl rfl | exact Or.inr rfl) rfl (Or.inl rfl) ?_ | refine ws_set (i := 5) (by assumption) rfl (by first | exact Or.inl rfl | exact Or.inr rfl) rfl (Or.inl rfl) ?_
  | refine ws_set (i := 6) (by assumption) rfl (by first | exact Or.inl rfl | exact Or.inr rfl) rfl (Or.inl rfl) ?_ | refine ws_set (i := 7) (by assumption) rfl (by first | exact Or.inl rfl | exact Or.inr rfl) rfl (Or.inl rfl) ?_
  | refine ws_set (i := 8) (by assumption) rfl (by first | exact Or.inl rfl | exact Or.inr rfl) rfl (Or.inl rfl) ?_ | refine ws_set (i := 9) (by assumption) rfl (by first | exact Or.inl rfl | exact Or.inr rfl) rfl (Or.inl rfl) ?_
  | refine ws_set (i := 10) (by assumption) rfl (by first | exact Or.inl rfl | exact Or.inr rfl) rfl (Or.inl rfl) ?_ | refine ws_set (i := 11) (by assumption) rfl (by first | exact Or.inl rfl | exact Or.inr rfl) rfl (Or.inl rfl) ?_
  | refine ws_set (i := 12) (by assumption) rfl (by first | exact Or.inl rfl | exact Or.inr rfl) rfl (Or.inl rfl) ?_ | refine ws_set (i := 13) (by assumption) rfl (by first | exact Or.inl rfl | exact Or.inr rfl) rfl (Or.inl rfl) ?_)
local macro_rules | `(tactic| walk_at "s") => `(tactic| first
  | ((with_reducible show WSs _ _ _ _ _); first | refine wss_cons ?_ | refine wss_nil ?_)
  | ((with_reducible show WS _ _ (Stmt.Return _ _) _ _); refine ws_ret ?_)
  | ((with_reducible show WS _ _ (Stmt.If _ _ _ _) _ _); refine ws_if ?_)
  | ((with_reducible show WS _ _ (Stmt.Assign [Expr.Name _ _] _ _) _ _); (fail_if_success (with_reducible show WS _ _ (Stmt.Assign [Expr.Name _ _] (Expr.List [] _) _) _ _)); walk_at "set"))
local macro_rules | `(tactic| walk_at "z") => `(tactic| first | decide | omega | (simp only [List.length_map, List.length_append, List.length_cons, List.length_nil, List.length_replicate]; omega))
local macro_rules | `(tactic| walk_at "p") => `(tactic| first
  | ((with_reducible show fr _ _ _); first | refine fr_non ?_ | refine fr_bl ?_ | refine fr_int ?_ | refine fr_str ?_ | refine fr_raw ?_ | refine fr_lst ?_ | refine fr_tup ?_ | refine fr_own ?_ | refine fr_dct ?_ | refine fr_ins ?_)
  | ((with_reducible show pAdd _ _ _); first | refine q_addI ?_ | refine q_addL (by walk_at "z") ?_ | refine q_addS (by walk_at "z") ?_)
  | ((with_reducible show pSub _ _ _); refine q_sub ?_)
  | ((with_reducible show pMod _ _ _); refine q_mod (by walk_at "z") ?_)
  | ((with_reducible show pMul _ _ _); first | refine q_mulI (by first | (refine Or.inl ⟨?_, ?_⟩ <;> walk_at "z") | (refine Or.inr ⟨?_, ?_⟩ <;> walk_at "z")) ?_ | refine q_mulL ⟨by walk_at "z", by walk_at "z", by walk_at "z"⟩ ?_)
  | ((with_reducible show pDiv _ _ _); refine q_div ⟨by walk_at "z", by walk_at "z"⟩ ?_)
  | ((with_reducible show pPow _ _ _); refine q_pow ⟨by walk_at "z", by walk_at "z", by walk_at "z"⟩ ?_)
  | ((with_reducible show pLt _ _ _); refine q_lt ?_) | ((with_reducible show pLe _ _ _); refine q_le ?_) | ((with_reducible show pGt _ _ _); refine q_gt ?_) | ((with_reducible show pGe _ _ _); refine q_ge ?_)
  | ((with_reducible show pNeg _ _); refine q_neg ?_) | ((with_reducible show pIs _ _ _); refine q_is ?_) | ((with_reducible show pIsN _ _ _); refine q_isN ?_)
  | ((with_reducible show pInt1 _ _); first | refine q_int ?_ | refine q_intB ?_)
  | ((with_reducible show pLen _ _); first | refine q_lenL ?_ | refine q_lenT ?_ | refine q_lenR ?_ | refine q_lenS (by walk_at "z") ?_)
  | ((with_reducible show pMax2 _ _); refine q_max2 ?_) | ((with_reducible show pMin2 _ _); refine q_min2 ?_)
  | ((with_reducible show pList _ _); first | refine q_listL ?_ | refine q_listT ?_)
  | ((with_reducible show pTuple _ _); first | refine q_tupL ?_ | refine q_tupT ?_)
  | ((with_reducible show pEq _ _ _); first | refine q_eqI ?_ | refine q_eqL ?_ | refine q_eqS (by decide) (by decide) ?_)
  | ((with_reducible show pNe _ _ _); first | refine q_neI ?_ | refine q_neL ?_ | refine q_neS (by decide) (by decide) ?_)
  | ((with_reducible show pIter _ _); first | refine q_iterL ?_ | refine q_iterT ?_)
  | ((with_reducible show pSl _ _ _ _); refine q_slL ?_)
  | ((with_reducible show pIsi _ _); refine q_isi rfl (by decide) ?_)
  | ((with_reducible show _ ≤ 1000000 ∧ _); refine ⟨by walk_at "z", ?_⟩) | ((with_reducible show _ < 900000 ∧ _); refine ⟨by walk_at "z", ?_⟩))
local macro_rules | `(tactic| walk_at "new") => `(tactic| first
  | refine ws_new (i := 0) (by assumption) rfl (by first | exact Or.inl rfl | exact Or.inr rfl) rfl (Or.inl rfl) ?_
  | refine ws_new (i := 1) (by assumption) rfl (by first | exact Or.inl rfl | exact Or.inr rfl) rfl (Or.inl rfl) ?_
  | refine ws_new (i := 2) (by assumption) rfl (by first | exact Or.inl rfl | exact Or.inr rfl) rfl (Or.inl rfl) ?_
  | refine ws_new (i := 3) (by assumption) rfl (by first | exact Or.inl rfl | exact Or.inr rfl) rfl (Or.inl rfl) ?_
  | refine ws_new (i := 4) (by assumption) rfl (by first | exact Or.inl rfl | exact Or.inr rfl) rfl (Or.inl rfl) ?_
  | refine ws_new (i := 5) (by assumption) rfl (by first | exact Or.inl rfl | exact Or.inr rfl) rfl (Or.inl rfl) ?_
  | refine ws_new (i := 6) (by assumption) rfl (by first | exact Or.inl rfl | exact Or.inr rfl) rfl (Or.inl rfl) ?_
  | refine ws_new (i := 7) (by assumption) rfl (by first | exact Or.inl rfl | exact Or.inr rfl) rfl (Or.inl rfl) ?_
  | refine ws_new (i := 8) (by assumption) rfl (by first | exact Or.inl rfl | exact Or.inr rfl) rfl (Or.inl rfl) ?_
  | refine ws_new (i := 9) (by assumption) rfl (by first | exact Or.inl rfl | exact Or.inr rfl) rfl (Or.inl rfl) ?_
  | refine ws_new (i := 10) (by assumption) rfl (by first | exact Or.inl rfl | exact Or.inr rfl) rfl (Or.inl rfl) ?_
  | refine ws_new (i := 11) (by assumption) rfl (by first | exact Or.inl rfl | exact Or.inr rfl) rfl (Or.inl rfl) ?_
  | refine ws_new (i := 12) (by assumption) rfl (by first | exact Or.inl rfl | exact Or.inr rfl) rfl (Or.inl rfl) ?_
  | refine ws_new (i := 13) (by assumption) rfl (by first | exact Or.inl rfl | exact Or.inr rfl) rfl (Or.inl rfl) ?_
  | refine ws_new (i := 14) (by assumption) rfl (by first | exact Or.inl rfl | exact Or.inr rfl) rfl (Or.inl rfl) ?_
  | refine ws_new (i := 15) (by assumption) rfl (by first | exact Or.inl rfl | exact Or.inr rfl) rfl (Or.inl rfl) ?_)
local macro_rules | `(tactic| walk_at "app") => `(tactic| first
  | refine ws_app (i := 0) rfl (by walk_at "vis") (by decide) (by decide) rfl rfl rfl rfl rfl rfl rfl ?_
  | refine ws_app (i := 1) rfl (by walk_at "vis") (by decide) (by decide) rfl rfl rfl rfl rfl rfl rfl ?_
  | refine ws_app (i := 2) rfl (by walk_at "vis") (by decide) (by decide) rfl rfl rfl rfl rfl rfl rfl ?_
  | refine ws_app (i := 3) rfl (by walk_at "vis") (by decide) (by decide) rfl rfl rfl rfl rfl rfl rfl ?_
  | refine ws_app (i := 4) rfl (by walk_at "vis") (by decide) (by decide) rfl rfl rfl rfl rfl rfl rfl ?_
  | refine ws_app (i := 5) rfl (by walk_at "vis") (by decide) (by decide) rfl rfl rfl rfl rfl rfl rfl ?_
  | refine ws_app (i := 6) rfl (by walk_at "vis") (by decide) (by decide) rfl rfl rfl rfl rfl rfl rfl ?_
  | refine ws_app (i := 7) rfl (by walk_at "vis") (by decide) (by decide) rfl rfl rfl rfl rfl rfl rfl ?_
  | refine ws_app (i := 8) rfl (by walk_at "vis") (by decide) (by decide) rfl rfl rfl rfl rfl rfl rfl ?_
  | refine ws_app (i := 9) rfl (by walk_at "vis") (by decide) (by decide) rfl rfl rfl rfl rfl rfl rfl ?_
  | refine ws_app (i := 10) rfl (by walk_at "vis") (by decide) (by decide) rfl rfl rfl rfl rfl rfl rfl ?_
  | refine ws_app (i := 11) rfl (by walk_at "vis") (by decide) (by decide) rfl rfl rfl rfl rfl rfl rfl ?_
  | refine ws_app (i := 12) rfl (by walk_at "vis") (by decide) (by decide) rfl rfl rfl rfl rfl rfl rfl ?_
  | refine ws_app (i := 13) rfl (by walk_at "vis") (by decide) (by decide) rfl rfl rfl rfl rfl rfl rfl ?_
  | refine ws_app (i := 14) rfl (by walk_at "vis") (by decide) (by decide) rfl rfl rfl rfl rfl rfl rfl ?_
  | refine ws_app (i := 15) rfl (by walk_at "vis") (by decide) (by decide) rfl rfl rfl rfl rfl rfl rfl ?_)
local macro_rules | `(tactic| walk_at "ext") => `(tactic| first
  | refine ws_ext (i := 0) rfl (by walk_at "vis") (by decide) (by decide) rfl rfl rfl rfl rfl rfl rfl ?_
  | refine ws_ext (i := 1) rfl (by walk_at "vis") (by decide) (by decide) rfl rfl rfl rfl rfl rfl rfl ?_
  | refine ws_ext (i := 2) rfl (by walk_at "vis") (by decide) (by decide) rfl rfl rfl rfl rfl rfl rfl ?_
  | refine ws_ext (i := 3) rfl (by walk_at "vis") (by decide) (by decide) rfl rfl rfl rfl rfl rfl rfl ?_
  | refine ws_ext (i := 4) rfl (by walk_at "vis") (by decide) (by decide) rfl rfl rfl rfl rfl rfl rfl ?_
  | refine ws_ext (i := 5) rfl (by walk_at "vis") (by decide) (by decide) rfl rfl rfl rfl rfl rfl rfl ?_
  | refine ws_ext (i := 6) rfl (by walk_at "vis") (by decide) (by decide) rfl rfl rfl rfl rfl rfl rfl ?_
  | refine ws_ext (i := 7) rfl (by walk_at "vis") (by decide) (by decide) rfl rfl rfl rfl rfl rfl rfl ?_
  | refine ws_ext (i := 8) rfl (by walk_at "vis") (by decide) (by decide) rfl rfl rfl rfl rfl rfl rfl ?_
  | refine ws_ext (i := 9) rfl (by walk_at "vis") (by decide) (by decide) rfl rfl rfl rfl rfl rfl rfl ?_
  | refine ws_ext (i := 10) rfl (by walk_at "vis") (by decide) (by decide) rfl rfl rfl rfl rfl rfl rfl ?_
  | refine ws_ext (i := 11) rfl (by walk_at "vis") (by decide) (by decide) rfl rfl rfl rfl rfl rfl rfl ?_
  | refine ws_ext (i := 12) rfl (by walk_at "vis") (by decide) (by decide) rfl rfl rfl rfl rfl rfl rfl ?_
  | refine ws_ext (i := 13) rfl (by walk_at "vis") (by decide) (by decide) rfl rfl rfl rfl rfl rfl rfl ?_
  | refine ws_ext (i := 14) rfl (by walk_at "vis") (by decide) (by decide) rfl rfl rfl rfl rfl rfl rfl ?_
  | refine ws_ext (i := 15) rfl (by walk_at "vis") (by decide) (by decide) rfl rfl rfl rfl rfl rfl rfl ?_)
local macro_rules | `(tactic| walk_at "ins0") => `(tactic| first
  | refine ws_ins0 (i := 0) rfl (by walk_at "vis") (by decide) (by decide) rfl rfl rfl rfl rfl rfl rfl ?_
  | refine ws_ins0 (i := 1) rfl (by walk_at "vis") (by decide) (by decide) rfl rfl rfl rfl rfl rfl rfl ?_
  | refine ws_ins0 (i := 2) rfl (by walk_at "vis") (by decide) (by decide) rfl rfl rfl rfl rfl rfl rfl ?_
  | refine ws_ins0 (i := 3) rfl (by walk_at "vis") (by decide) (by decide) rfl rfl rfl rfl rfl rfl rfl ?_
  | refine ws_ins0 (i := 4) rfl (by walk_at "vis") (by decide) (by decide) rfl rfl rfl rfl rfl rfl rfl ?_
  | refine ws_ins0 (i := 5) rfl (by walk_at "vis") (by decide) (by decide) rfl rfl rfl rfl rfl rfl rfl ?_
  | refine ws_ins0 (i := 6) rfl (by walk_at "vis") (by decide) (by decide) rfl rfl rfl rfl rfl rfl rfl ?_
  | refine ws_ins0 (i := 7) rfl (by walk_at "vis") (by decide) (by decide) rfl rfl rfl rfl rfl rfl rfl ?_
  | refine ws_ins0 (i := 8) rfl (by walk_at "vis") (by decide) (by decide) rfl rfl rfl rfl rfl rfl rfl ?_
  | refine ws_ins0 (i := 9) rfl (by walk_at "vis") (by decide) (by decide) rfl rfl rfl rfl rfl rfl rfl ?_
  | refine ws_ins0 (i := 10) rfl (by walk_at "vis") (by decide) (by decide) rfl rfl rfl rfl rfl rfl rfl ?_
  | refine ws_ins0 (i := 11) rfl (by walk_at "vis") (by decide) (by decide) rfl rfl rfl rfl rfl rfl rfl ?_
  | refine ws_ins0 (i := 12) rfl (by walk_at "vis") (by decide) (by decide) rfl rfl rfl rfl rfl rfl rfl ?_
  | refine ws_ins0 (i := 13) rfl (by walk_at "vis") (by decide) (by decide) rfl rfl rfl rfl rfl rfl rfl ?_
  | refine ws_ins0 (i := 14) rfl (by walk_at "vis") (by decide) (by decide) rfl rfl rfl rfl rfl rfl rfl ?_
  | refine ws_ins0 (i := 15) rfl (by walk_at "vis") (by decide) (by decide) rfl rfl rfl rfl rfl rfl rfl ?_)
local macro_rules | `(tactic| walk_at "retOwn") => `(tactic| first
  | refine ws_retOwn (i := 0) rfl (by walk_at "vis") (by decide) (by decide) rfl ?_
  | refine ws_retOwn (i := 1) rfl (by walk_at "vis") (by decide) (by decide) rfl ?_
  | refine ws_retOwn (i := 2) rfl (by walk_at "vis") (by decide) (by decide) rfl ?_
  | refine ws_retOwn (i := 3) rfl (by walk_at "vis") (by decide) (by decide) rfl ?_
  | refine ws_retOwn (i := 4) rfl (by walk_at "vis") (by decide) (by decide) rfl ?_
  | refine ws_retOwn (i := 5) rfl (by walk_at "vis") (by decide) (by decide) rfl ?_
  | refine ws_retOwn (i := 6) rfl (by walk_at "vis") (by decide) (by decide) rfl ?_
  | refine ws_retOwn (i := 7) rfl (by walk_at "vis") (by decide) (by decide) rfl ?_
  | refine ws_retOwn (i := 8) rfl (by walk_at "vis") (by decide) (by decide) rfl ?_
  | refine ws_retOwn (i := 9) rfl (by walk_at "vis") (by decide) (by decide) rfl ?_
  | refine ws_retOwn (i := 10) rfl (by walk_at "vis") (by decide) (by decide) rfl ?_
  | refine ws_retOwn (i := 11) rfl (by walk_at "vis") (by decide) (by decide) rfl ?_
  | refine ws_retOwn (i := 12) rfl (by walk_at "vis") (by decide) (by decide) rfl ?_
  | refine ws_retOwn (i := 13) rfl (by walk_at "vis") (by decide) (by decide) rfl ?_
  | refine ws_retOwn (i := 14) rfl (by walk_at "vis") (by decide) (by decide) rfl ?_
  | refine ws_retOwn (i := 15) rfl (by walk_at "vis") (by decide) (by decide) rfl ?_)
local macro_rules | `(tactic| walk_at "ixOwn") => `(tactic| first
  | refine we_ixOwn (i := 0) rfl (by walk_at "vis") (by decide) (by decide) rfl (fun _ _ => rfl) ?_
  | refine we_ixOwn (i := 1) rfl (by walk_at "vis") (by decide) (by decide) rfl (fun _ _ => rfl) ?_
  | refine we_ixOwn (i := 2) rfl (by walk_at "vis") (by decide) (by decide) rfl (fun _ _ => rfl) ?_
  | refine we_ixOwn (i := 3) rfl (by walk_at "vis") (by decide) (by decide) rfl (fun _ _ => rfl) ?_
  | refine we_ixOwn (i := 4) rfl (by walk_at "vis") (by decide) (by decide) rfl (fun _ _ => rfl) ?_
  | refine we_ixOwn (i := 5) rfl (by walk_at "vis") (by decide) (by decide) rfl (fun _ _ => rfl) ?_
  | refine we_ixOwn (i := 6) rfl (by walk_at "vis") (by decide) (by decide) rfl (fun _ _ => rfl) ?_
  | refine we_ixOwn (i := 7) rfl (by walk_at "vis") (by decide) (by decide) rfl (fun _ _ => rfl) ?_
  | refine we_ixOwn (i := 8) rfl (by walk_at "vis") (by decide) (by decide) rfl (fun _ _ => rfl) ?_
  | refine we_ixOwn (i := 9) rfl (by walk_at "vis") (by decide) (by decide) rfl (fun _ _ => rfl) ?_
  | refine we_ixOwn (i := 10) rfl (by walk_at "vis") (by decide) (by decide) rfl (fun _ _ => rfl) ?_
  | refine we_ixOwn (i := 11) rfl (by walk_at "vis") (by decide) (by decide) rfl (fun _ _ => rfl) ?_
  | refine we_ixOwn (i := 12) rfl (by walk_at "vis") (by decide) (by decide) rfl (fun _ _ => rfl) ?_
  | refine we_ixOwn (i := 13) rfl (by walk_at "vis") (by decide) (by decide) rfl (fun _ _ => rfl) ?_
  | refine we_ixOwn (i := 14) rfl (by walk_at "vis") (by decide) (by decide) rfl (fun _ _ => rfl) ?_
  | refine we_ixOwn (i := 15) rfl (by walk_at "vis") (by decide) (by decide) rfl (fun _ _ => rfl) ?_)
local macro_rules | `(tactic| walk_at "go") => `(tactic| repeat (first | walk_at "e" | walk_at "t" | walk_at "s" | walk_at "p" | (with_reducible refine ⟨_, rfl, ?_⟩) | (with_reducible refine iteT ?_) | (with_reducible refine iteF ?_) | (with_reducible refine iteNT ?_) | (with_reducible refine iteNF ?_)))
open Ch
def iL (xs : List Int) : D := .lst (xs.map .int)
def edD : Ed → D
  | .keep s m => .tup [.str "keep", .int s, .int m]
  | .put xs => .tup [.str "put", .tup (xs.map .int)]
def edsD (es : List Ed) : D := .lst (es.map edD)
theorem sc5 : FnScope ["value"] ["value"] (defScope (top 5)) := ⟨rfl, rfl, rfl, by decide +kernel, rfl, by decide +kernel, by decide +kernel⟩
theorem sc6 : FnScope ["value", "least", "most"] ["value", "least", "most"] (defScope (top 6)) := ⟨rfl, rfl, rfl, by decide +kernel, rfl, by decide +kernel, by decide +kernel⟩
theorem sc10 : FnScope ["value", "number"] ["value"] (defScope (top 10)) := ⟨rfl, rfl, rfl, by decide +kernel, rfl, by decide +kernel, by decide +kernel⟩
theorem sc11 : FnScope ["value"] ["value"] (defScope (top 11)) := ⟨rfl, rfl, rfl, by decide +kernel, rfl, by decide +kernel, by decide +kernel⟩
def isI (d : D) : Bool := d.isT "int" && !d.isT "bool"
theorem isI_int (i : Int) : isI (.int i) = true := rfl
def pIsInt : DSp := fun G ds R => ∃ d, ds = [d] ∧ d.ty.isSome = true ∧ R G (.bl (isI d))
def pIsWithin : DSp := fun G ds R => ∃ i lo hi : Int, ds = [.int i, .int lo, .int hi] ∧ R G (.bl (decide (lo ≤ i) && decide (i ≤ hi)))
def pAreC : DSp := fun G ds R => ∃ xs : List Int, ds = [iL xs] ∧ xs.length ≤ 60 ∧ R G (.bl true)
def pCheckC : DSp := fun G ds R => ∃ xs : List Int, ds = [iL xs] ∧ xs.length ≤ 60 ∧ R G .non
section
variable {Pr : Program} {w : World} {K : PySem.W.Frag} {mg : Str → Option Value} {base : Heap}
theorem ok5 {f : Addr} {fd : FuncData} (F : Fun K "is_integer" "is_integer" (top 5) f fd) (b : Bi mg) : FnOk Pr w K mg base CX0 1 f fd ["value"] (toSp K pIsInt) := by
  refine def_ok F sc5 (fun G ds R ⟨d, e, _⟩ => by rw [e]; rfl) fun cdv A outer s H0 E0 C ds R hr hp => ?_
  obtain ⟨d, rfl, hd, h⟩ := hp
  have nd := sc5.nd
  walk_at "go"
  refine ⟨hd, by decide, _, rfl, ?_⟩
  unfold isI at h
  refine ite2 (fun h1 => ?_) (fun h1 => ?_)
  · walk_at "go"
    refine ⟨hd, by decide, _, rfl, ?_⟩
    rw [h1] at h
    exact h
  · rw [show d.isT "int" = false by simpa using h1] at h
    exact h
theorem ok6 {f : Addr} {fd : FuncData} (F : Fun K "is_within" "is_within" (top 6) f fd) (b : Bi mg) (c5 : Cal Pr w K mg base 1 "is_integer" pIsInt) : FnOk Pr w K mg base CX0 2 f fd ["value", "least", "most"] (toSp K pIsWithin) := by
  refine def_ok F sc6 (fun G ds R ⟨_, _, _, e, _⟩ => by rw [e]; rfl) fun cdv A outer s H0 E0 C ds R hr hp => ?_
  obtain ⟨i, lo, hi, rfl, h⟩ := hp
  have nd := sc6.nd
  walk_at "go"
  refine ⟨_, rfl, rfl, ?_⟩
  rw [isI_int]
  walk_at "go"
  refine ite2 (fun h1 => ?_) (fun h1 => ?_)
  · walk_at "go"
    rw [h1] at h
    exact h
  · rw [show decide (lo ≤ i) = false by simpa using h1] at h
    exact h
theorem ok10 {f : Addr} {fd : FuncData} (F : Fun K "are_contents" "are_contents" (top 10) f fd) (b : Bi mg) (c5 : Cal Pr w K mg base 1 "is_integer" pIsInt) (m8 : ∃ t, mg "MOST_CONTENTS" = some (.int 60 t)) : FnOk Pr w K mg base CX0 2 f fd ["value"] (toSp K pAreC) := by
  refine def_ok F sc10 (fun G ds R ⟨_, e, _⟩ => by rw [e]; rfl) fun cdv A outer s H0 E0 C ds R hr hp => ?_
  obtain ⟨xs, rfl, hl, h⟩ := hp
  have nd := sc10.nd
  walk_at "go"
  rw [show (iL xs).isT "list" = true from rfl]
  unfold iL
  walk_at "go"
  rw [List.length_map, decide_eq_true (show ((xs.length : Nat) : Int) ≤ 60 by omega)]
  walk_at "go"
  refine we_lc (own := [("number", 1)]) rfl nd (blkOk_by (N := ["value", "number"]) (sc := defScope (top 10)) (by decide +kernel)) (fun X' ⟨_, _, _, _, _, e⟩ => by subst e; exact pg_name (i := 1) nd rfl (Or.inl rfl)) gb_name (by decide) (fun _ => rfl) (lc_mapN (wi_seq ?_))
  walk_at "go"
  refine ⟨by rw [List.length_map]; omega, fun _ => .bl true, ?_, ?_⟩
  · rintro B d hd X' ⟨_, _, _, _, _, rfl⟩
    obtain ⟨i, _, rfl⟩ := List.mem_map.mp hd
    walk_at "go"
    refine ⟨_, rfl, rfl, ?_⟩
    rw [isI_int]
    exact ⟨rfl, rfl⟩
  · refine ⟨xs.map fun _ => true, by rw [List.map_map, List.map_map]; rfl, ?_⟩
    rw [show (xs.map fun _ => true).all id = true by simp]
    exact h
theorem ok11 {f : Addr} {fd : FuncData} (F : Fun K "check_contents" "check_contents" (top 11) f fd) (b : Bi mg) (c10 : Cal Pr w K mg base 2 "are_contents" pAreC) : FnOk Pr w K mg base CX0 3 f fd ["value"] (toSp K pCheckC) := by
  refine def_ok F sc11 (fun G ds R ⟨_, e, _⟩ => by rw [e]; rfl) fun cdv A outer s H0 E0 C ds R hr hp => ?_
  obtain ⟨xs, rfl, hl, h⟩ := hp
  have nd := sc11.nd
  walk_at "go"
  refine ⟨xs, rfl, hl, ?_⟩
  walk_at "go"
  exact h
end
end
section
local macro_rules | `(tactic| walk_at "vis") => `(tactic| first | exact Or.inl rfl | exact Or.inr (Or.inl rfl) | exact Or.inr (Or.inr rfl))
local macro_rules | `(tactic| walk_at "v") => `(tactic| first
  | refine we_var (i := 0) rfl (by walk_at "vis") (by decide) (by decide) rfl ?_ | refine we_var (i := 1) rfl (by walk_at "vis") (by decide) (by decide) rfl ?_
  | refine we_var (i := 2) rfl (by walk_at "vis") (by decide) (by decide) rfl ?_ | refine we_var (i := 3) rfl (by walk_at "vis") (by decide) (by decide) rfl ?_
  | refine we_var (i := 4) rfl (by walk_at "vis") (by decide) (by decide) rfl ?_ | refine we_var (i := 5) rfl (by walk_at "vis") (by decide) (by decide) rfl ?_
  | refine we_var (i := 6) rfl (by walk_at "vis") (by decide) (by decide) rfl ?_ | refine we_var (i := 7) rfl (by walk_at "vis") (by decide) (by decide) rfl ?_
  | refine we_var (i := 8) rfl (by walk_at "vis") (by decide) (by decide) rfl ?_ | refine we_var (i := 9) rfl (by walk_at "vis") (by decide) (by decide) rfl ?_
  | refine we_var (i := 10) rfl (by walk_at "vis") (by decide) (by decide) rfl ?_ | refine we_var (i := 11) rfl (by walk_at "vis") (by decide) (by decide) rfl ?_
  | refine we_var (i := 12) rfl (by walk_at "vis") (by decide) (by decide) rfl ?_ | refine we_var (i := 13) rfl (by walk_at "vis") (by decide) (by decide) rfl ?_
  | refine we_var (i := 14) rfl (by walk_at "vis") (by decide) (by decide) rfl ?_ | refine we_var (i := 15) rfl (by walk_at "vis") (by decide) (by decide) rfl ?_)
local macro_rules | `(tactic| walk_at "c") => `(tactic| first
  | refine we_len (by assumption) rfl rfl ?_ | refine we_isi (by assumption) rfl rfl rfl rfl ?_ | refine we_int1 (by assumption) rfl rfl ?_
  | refine we_all rfl (by assumption) rfl rfl ?_ | refine we_any rfl (by assumption) rfl rfl ?_ | refine we_sum rfl (by assumption) rfl rfl ?_
  | refine we_list1 (by assumption) rfl rfl ?_ | refine we_tuple1 (by assumption) rfl rfl ?_ | refine we_min2 rfl (by assumption) rfl rfl rfl rfl ?_ | refine we_max2 rfl (by assumption) rfl rfl rfl rfl ?_
  | refine we_minL rfl (by assumption) rfl rfl ?_ | refine we_maxL rfl (by assumption) rfl rfl ?_
  | refine we_call (by assumption) (Room.mono (by assumption) (by decide)) rfl (by decide) rfl rfl ?_ | refine we_call0 (by assumption) (Room.mono (by assumption) (by decide)) rfl (by decide) ?_)
local macro_rules | `(tactic| walk_at "n") => `(tactic| first
  | walk_at "v"
  | refine we_tyInt (by assumption) rfl ?_ | refine we_tyBool (by assumption) rfl ?_ | refine we_tyStr (by assumption) rfl ?_ | refine we_tyList (by assumption) rfl ?_ | refine we_tyTuple (by assumption) rfl ?_ | refine we_tyDict (by assumption) rfl ?_
  | refine we_gInt rfl (by assumption) (by decide) ?_)
local macro_rules | `(tactic| walk_at "e") => `(tactic| first
  | ((with_reducible show WE _ _ (Expr.Constant _ _ _) _ _); first | refine we_int ?_ | refine we_str ?_ | refine we_bl ?_ | refine we_non ?_)
  | ((with_reducible show WE _ _ (Expr.Name _ _) _ _); walk_at "n")
  | ((with_reducible show WE _ _ (Expr.Call _ _ _ _) _ _); walk_at "c")
  | ((with_reducible show WE _ _ (Expr.BinOp _ _ _ _) _ _); first | refine we_add ?_ | refine we_sub ?_ | refine we_mul ?_ | refine we_mod ?_ | refine we_div ?_ | refine we_pow ?_)
  | ((with_reducible show WE _ _ (Expr.UnaryOp _ _ _) _ _); first | refine we_not ?_ | refine we_neg ?_)
  | ((with_reducible show WE _ _ (Expr.BoolOp _ _ _) _ _); first | refine we_one ?_ | refine we_and ?_ | refine we_or ?_)
  | ((with_reducible show WE _ _ (Expr.Compare _ _ _ _) _ _); first | refine we_lt ?_ | refine we_le ?_ | refine we_gt ?_ | refine we_ge ?_ | refine we_eq (Room.units (by assumption)) ?_ | refine we_ne (Room.units (by assumption)) ?_ | refine we_is ?_ | refine we_isN ?_ | refine we_in (units65 (by assumption)) rfl ?_ | refine we_notIn (units65 (by assumption)) rfl ?_ | refine we_lele rfl ?_)
  | ((with_reducible show WE _ _ (Expr.IfExp _ _ _ _) _ _); refine we_ifx ?_)
  | ((with_reducible show WE _ _ (Expr.Subscript _ _ _) _ _); first | refine we_sl ?_ | refine we_ix ix_seq d_ix (fun _ _ => rfl) ?_)
  | ((with_reducible show WE _ _ (Expr.List _ _) _ _); refine we_lst ?_)
  | ((with_reducible show WE _ _ (Expr.Tuple _ _ _) _ _); refine we_tup ?_)
  | ((with_reducible show WO _ _ _ _ _ _); first | refine wo_none ?_ | refine wo_some ?_)
  | ((with_reducible show bName _ _ _ _); refine b_name ?_)
  | ((with_reducible show bTup _ _ _ _); first | refine b_tup2 ?_ | refine b_tup3 ?_ | refine b_tup rfl ?_)
  | ((with_reducible show WA _ _ _ _ _); first | refine wa_nil ?_ | refine wa_star rfl ?_ | refine wa_cons rfl ?_))
local macro_rules | `(tactic| walk_at "t") => `(tactic| first
  | ((with_reducible show WW _ _ _ _ _); first | refine ww_and1 ?_ | refine ww_or1 ?_ | refine ww_and ?_ | refine ww_or ?_)
  | ((with_reducible show WT _ _ (Expr.UnaryOp _ _ _) _ _); refine wt_not ?_)
  | ((with_reducible show WT _ _ (Expr.BoolOp _ _ _) _ _); refine wt_w ?_)
  | ((with_reducible show WT _ _ (Expr.Compare _ _ _ _) _ _); first | refine wt_lt ?_ | refine wt_le ?_ | refine wt_gt ?_ | refine wt_ge ?_ | refine wt_eq (Room.units (by assumption)) ?_ | refine wt_ne (Room.units (by assumption)) ?_ | refine wt_is ?_ | refine wt_isN ?_ | refine wt_in (units65 (by assumption)) rfl ?_ | refine wt_notIn (units65 (by assumption)) rfl ?_ | refine wt_val (fun _ => rfl) ?_)
  | ((with_reducible show WT _ _ _ _ _); refine wt_val (fun _ => rfl) ?_))
local macro_rules | `(tactic| walk_at "set") => `(tactic| first
  | refine ws_set (i := 0) (by assumption) rfl (by walk_at "vis") rfl (Or.inl rfl) ?_ | refine ws_set (i := 1) (by assumption) rfl (by first | exact Or.inl rfl | exact Or.inr rfl) rfl (Or.inl rfl) ?_
  | refine ws_set (i := 2) (by assumption) rfl (by first | exact Or.inl rfl | exact Or.inr rfl) rfl (Or.inl rfl) ?_ | refine ws_set (i := 3) (by assumption) rfl (by first | exact Or.inl rfl | exact Or.inr rfl) rfl (Or.inl rfl) ?_
  | refine ws_set (i := 4) (by assumption) rfl (by first | exact Or.inl rfl | exact Or.inr rfl) rfl (Or.inl rfl) ?_ | refine ws_set (i := 5) (by assumption) rfl (by first | exact Or.inl rfl | exact Or.inr rfl) rfl (Or.inl rfl) ?_
  | refine ws_set (i := 6) (by assumption) rfl (by first | exact Or.inl rfl | exact Or.inr rfl) rfl (Or.inl rfl) ?_ | refine ws_set (i := 7) (by assumption) rfl (by first | exact Or.inl rfl | exact Or.inr rfl) rfl (Or.inl rfl) ?_
  | refine ws_set (i := 8) (by assumption) rfl (by first | exact Or.inl rfl | exact Or.inr rfl) rfl (Or.inl rfl) ?_ | refine ws_set (i := 9) (by assumption) rfl (by first | exact Or.inl rfl | exact Or.inr rfl) rfl (Or.inl rfl) ?_
  | refine ws_set (i := 10) (by assumption) rfl (by first | exact Or.inl rfl | exact Or.inr rfl) rfl (Or.inl rfl) ?_ | refine ws_set (i := 11) (by assumption) rfl (by first | exact Or.inl rfl | exact Or.inr rfl) rfl (Or.inl rfl) ?_
  | refine ws_set (i := 12) (by assumption) rfl (by first | exact Or.inl rfl | exact Or.inr rfl) rfl (Or.inl rfl) ?_ | refine ws_set (i := 13) (by assumption) rfl (by first | exact Or.inl rfl | exact Or.inr rfl) rfl (Or.inl rfl) ?_)
local macro_rules | `(tactic| walk_at "s") => `(tactic| first
  | ((with_reducible show WSs _ _ _ _ _); first | refine wss_cons ?_ | refine wss_nil ?_)
  | ((with_reducible show WS _ _ (Stmt.Return _ _) _ _); refine ws_ret ?_)
  | ((with_reducible show WS _ _ (Stmt.If _ _ _ _) _ _); refine ws_if ?_)
  | ((with_reducible show WS _ _ (Stmt.Assign [Expr.Name _ _] _ _) _ _); (fail_if_success (with_reducible show WS _ _ (Stmt.Assign [Expr.Name _ _] (Expr.List [] _) _) _ _)); walk_at "set"))
local macro_rules | `(tactic| walk_at "z") => `(tactic| first | decide | omega | (simp only [List.length_map, List.length_append, List.length_cons, List.length_nil, List.length_replicate]; omega))
local macro_rules | `(tactic| walk_at "p") => `(tactic| first
  | ((with_reducible show fr _ _ _); first | refine fr_non ?_ | refine fr_bl ?_ | refine fr_int ?_ | refine fr_str ?_ | refine fr_raw ?_ | refine fr_lst ?_ | refine fr_tup ?_ | refine fr_own ?_ | refine fr_dct ?_ | refine fr_ins ?_)
  | ((with_reducible show pAdd _ _ _); first | refine q_addI ?_ | refine q_addL (by walk_at "z") ?_ | refine q_addS (by walk_at "z") ?_)
  | ((with_reducible show pSub _ _ _); refine q_sub ?_)
  | ((with_reducible show pMod _ _ _); refine q_mod (by walk_at "z") ?_)
  | ((with_reducible show pMul _ _ _); first | refine q_mulI (by first | (refine Or.inl ⟨?_, ?_⟩ <;> walk_at "z") | (refine Or.inr ⟨?_, ?_⟩ <;> walk_at "z")) ?_ | refine q_mulL ⟨by walk_at "z", by walk_at "z", by walk_at "z"⟩ ?_)
  | ((with_reducible show pDiv _ _ _); refine q_div ⟨by walk_at "z", by walk_at "z"⟩ ?_)
  | ((with_reducible show pPow _ _ _); refine q_pow ⟨by walk_at "z", by walk_at "z", by walk_at "z"⟩ ?_)
  | ((with_reducible show pLt _ _ _); refine q_lt ?_) | ((with_reducible show pLe _ _ _); refine q_le ?_) | ((with_reducible show pGt _ _ _); refine q_gt ?_) | ((with_reducible show pGe _ _ _); refine q_ge ?_)
  | ((with_reducible show pNeg _ _); refine q_neg ?_) | ((with_reducible show pIs _ _ _); refine q_is ?_) | ((with_reducible show pIsN _ _ _); refine q_isN ?_)
  | ((with_reducible show pInt1 _ _); first | refine q_int ?_ | refine q_intB ?_)
  | ((with_reducible show pLen _ _); first | refine q_lenL ?_ | refine q_lenT ?_ | refine q_lenR ?_ | refine q_lenS (by walk_at "z") ?_)
  | ((with_reducible show pMax2 _ _); refine q_max2 ?_) | ((with_reducible show pMin2 _ _); refine q_min2 ?_)
  | ((with_reducible show pList _ _); first | refine q_listL ?_ | refine q_listT ?_)
  | ((with_reducible show pTuple _ _); first | refine q_tupL ?_ | refine q_tupT ?_)
  | ((with_reducible show pEq _ _ _); first | refine q_eqI ?_ | refine q_eqL ?_ | refine q_eqS (by decide) (by decide) ?_)
  | ((with_reducible show pNe _ _ _); first | refine q_neI ?_ | refine q_neL ?_ | refine q_neS (by decide) (by decide) ?_)
  | ((with_reducible show pIter _ _); first | refine q_iterL ?_ | refine q_iterT ?_)
  | ((with_reducible show pSl _ _ _ _); refine q_slL ?_)
  | ((with_reducible show pIsi _ _); refine q_isi rfl (by decide) ?_)
  | ((with_reducible show _ ≤ 1000000 ∧ _); refine ⟨by walk_at "z", ?_⟩) | ((with_reducible show _ < 900000 ∧ _); refine ⟨by walk_at "z", ?_⟩))
local macro_rules | `(tactic| walk_at "new") => `(tactic| first
  | refine ws_new (i := 0) (by assumption) rfl (by first | exact Or.inl rfl | exact Or.inr rfl) rfl (Or.inl rfl) ?_
  | refine ws_new (i := 1) (by assumption) rfl (by first | exact Or.inl rfl | exact Or.inr rfl) rfl (Or.inl rfl) ?_
  | refine ws_new (i := 2) (by assumption) rfl (by first | exact Or.inl rfl | exact Or.inr rfl) rfl (Or.inl rfl) ?_
  | refine ws_new (i := 3) (by assumption) rfl (by first | exact Or.inl rfl | exact Or.inr rfl) rfl (Or.inl rfl) ?_
  | refine ws_new (i := 4) (by assumption) rfl (by first | exact Or.inl rfl | exact Or.inr rfl) rfl (Or.inl rfl) ?_
  | refine ws_new (i := 5) (by assumption) rfl (by first | exact Or.inl rfl | exact Or.inr rfl) rfl (Or.inl rfl) ?_
  | refine ws_new (i := 6) (by assumption) rfl (by first | exact Or.inl rfl | exact Or.inr rfl) rfl (Or.inl rfl) ?_
  | refine ws_new (i := 7) (by assumption) rfl (by first | exact Or.inl rfl | exact Or.inr rfl) rfl (Or.inl rfl) ?_
  | refine ws_new (i := 8) (by assumption) rfl (by first | exact Or.inl rfl | exact Or.inr rfl) rfl (Or.inl rfl) ?_
  | refine ws_new (i := 9) (by assumption) rfl (by first | exact Or.inl rfl | exact Or.inr rfl) rfl (Or.inl rfl) ?_
  | refine ws_new (i := 10) (by assumption) rfl (by first | exact Or.inl rfl | exact Or.inr rfl) rfl (Or.inl rfl) ?_
  | refine ws_new (i := 11) (by assumption) rfl (by first | exact Or.inl rfl | exact Or.inr rfl) rfl (Or.inl rfl) ?_
  | refine ws_new (i := 12) (by assumption) rfl (by first | exact Or.inl rfl | exact Or.inr rfl) rfl (Or.inl rfl) ?_
  | refine ws_new (i := 13) (by assumption) rfl (by first | exact Or.inl rfl | exact Or.inr rfl) rfl (Or.inl rfl) ?_
  | refine ws_new (i := 14) (by assumption) rfl (by first | exact Or.inl rfl | exact Or.inr rfl) rfl (Or.inl rfl) ?_
  | refine ws_new (i := 15) (by assumption) rfl (by first | exact Or.inl rfl | exact Or.inr rfl) rfl (Or.inl rfl) ?_)
local macro_rules | `(tactic| walk_at "app") => `(tactic| first
  | refine ws_app (i := 0) rfl (by walk_at "vis") (by decide) (by decide) rfl rfl rfl rfl rfl rfl rfl ?_
  | refine ws_app (i := 1) rfl (by walk_at "vis") (by decide) (by decide) rfl rfl rfl rfl rfl rfl rfl ?_
  | refine ws_app (i := 2) rfl (by walk_at "vis") (by decide) (by decide) rfl rfl rfl rfl rfl rfl rfl ?_
  | refine ws_app (i := 3) rfl (by walk_at "vis") (by decide) (by decide) rfl rfl rfl rfl rfl rfl rfl ?_
  | refine ws_app (i := 4) rfl (by walk_at "vis") (by decide) (by decide) rfl rfl rfl rfl rfl rfl rfl ?_
  | refine ws_app (i := 5) rfl (by walk_at "vis") (by decide) (by decide) rfl rfl rfl rfl rfl rfl rfl ?_
  | refine ws_app (i := 6) rfl (by walk_at "vis") (by decide) (by decide) rfl rfl rfl rfl rfl rfl rfl ?_
  | refine ws_app (i := 7) rfl (by walk_at "vis") (by decide) (by decide) rfl rfl rfl rfl rfl rfl rfl ?_
  | refine ws_app (i := 8) rfl (by walk_at "vis") (by decide) (by decide) rfl rfl rfl rfl rfl rfl rfl ?_
  | refine ws_app (i := 9) rfl (by walk_at "vis") (by decide) (by decide) rfl rfl rfl rfl rfl rfl rfl ?_
  | refine ws_app (i := 10) rfl (by walk_at "vis") (by decide) (by decide) rfl rfl rfl rfl rfl rfl rfl ?_
  | refine ws_app (i := 11) rfl (by walk_at "vis") (by decide) (by decide) rfl rfl rfl rfl rfl rfl rfl ?_
  | refine ws_app (i := 12) rfl (by walk_at "vis") (by decide) (by decide) rfl rfl rfl rfl rfl rfl rfl ?_
  | refine ws_app (i := 13) rfl (by walk_at "vis") (by decide) (by decide) rfl rfl rfl rfl rfl rfl rfl ?_
  | refine ws_app (i := 14) rfl (by walk_at "vis") (by decide) (by decide) rfl rfl rfl rfl rfl rfl rfl ?_
  | refine ws_app (i := 15) rfl (by walk_at "vis") (by decide) (by decide) rfl rfl rfl rfl rfl rfl rfl ?_)
local macro_rules | `(tactic| walk_at "ext") => `(tactic| first
  | refine ws_ext (i := 0) rfl (by walk_at "vis") (by decide) (by decide) rfl rfl rfl rfl rfl rfl rfl ?_
  | refine ws_ext (i := 1) rfl (by walk_at "vis") (by decide) (by decide) rfl rfl rfl rfl rfl rfl rfl ?_
  | refine ws_ext (i := 2) rfl (by walk_at "vis") (by decide) (by decide) rfl rfl rfl rfl rfl rfl rfl ?_
  | refine ws_ext (i := 3) rfl (by walk_at "vis") (by decide) (by decide) rfl rfl rfl rfl rfl rfl rfl ?_
  | refine ws_ext (i := 4) rfl (by walk_at "vis") (by decide) (by decide) rfl rfl rfl rfl rfl rfl rfl ?_
  | refine ws_ext (i := 5) rfl (by walk_at "vis") (by decide) (by decide) rfl rfl rfl rfl rfl rfl rfl ?_
  | refine ws_ext (i := 6) rfl (by walk_at "vis") (by decide) (by decide) rfl rfl rfl rfl rfl rfl rfl ?_
  | refine ws_ext (i := 7) rfl (by walk_at "vis") (by decide) (by decide) rfl rfl rfl rfl rfl rfl rfl ?_
  | refine ws_ext (i := 8) rfl (by walk_at "vis") (by decide) (by decide) rfl rfl rfl rfl rfl rfl rfl ?_
  | refine ws_ext (i := 9) rfl (by walk_at "vis") (by decide) (by decide) rfl rfl rfl rfl rfl rfl rfl ?_
  | refine ws_ext (i := 10) rfl (by walk_at "vis") (by decide) (by decide) rfl rfl rfl rfl rfl rfl rfl ?_
  | refine ws_ext (i := 11) rfl (by walk_at "vis") (by decide) (by decide) rfl rfl rfl rfl rfl rfl rfl ?_
  | refine ws_ext (i := 12) rfl (by walk_at "vis") (by decide) (by decide) rfl rfl rfl rfl rfl rfl rfl ?_
  | refine ws_ext (i := 13) rfl (by walk_at "vis") (by decide) (by decide) rfl rfl rfl rfl rfl rfl rfl ?_
  | refine ws_ext (i := 14) rfl (by walk_at "vis") (by decide) (by decide) rfl rfl rfl rfl rfl rfl rfl ?_
  | refine ws_ext (i := 15) rfl (by walk_at "vis") (by decide) (by decide) rfl rfl rfl rfl rfl rfl rfl ?_)
local macro_rules | `(tactic| walk_at "ins0") => `(tactic| first
  | refine ws_ins0 (i := 0) rfl (by walk_at "vis") (by decide) (by decide) rfl rfl rfl rfl rfl rfl rfl ?_
  | refine ws_ins0 (i := 1) rfl (by walk_at "vis") (by decide) (by decide) rfl rfl rfl rfl rfl rfl rfl ?_
  | refine ws_ins0 (i := 2) rfl (by walk_at "vis") (by decide) (by decide) rfl rfl rfl rfl rfl rfl rfl ?_
  | refine ws_ins0 (i := 3) rfl (by walk_at "vis") (by decide) (by decide) rfl rfl rfl rfl rfl rfl rfl ?_
  | refine ws_ins0 (i := 4) rfl (by walk_at "vis") (by decide) (by decide) rfl rfl rfl rfl rfl rfl rfl ?_
  | refine ws_ins0 (i := 5) rfl (by walk_at "vis") (by decide) (by decide) rfl rfl rfl rfl rfl rfl rfl ?_
  | refine ws_ins0 (i := 6) rfl (by walk_at "vis") (by decide) (by decide) rfl rfl rfl rfl rfl rfl rfl ?_
  | refine ws_ins0 (i := 7) rfl (by walk_at "vis") (by decide) (by decide) rfl rfl rfl rfl rfl rfl rfl ?_
  | refine ws_ins0 (i := 8) rfl (by walk_at "vis") (by decide) (by decide) rfl rfl rfl rfl rfl rfl rfl ?_
  | refine ws_ins0 (i := 9) rfl (by walk_at "vis") (by decide) (by decide) rfl rfl rfl rfl rfl rfl rfl ?_
  | refine ws_ins0 (i := 10) rfl (by walk_at "vis") (by decide) (by decide) rfl rfl rfl rfl rfl rfl rfl ?_
  | refine ws_ins0 (i := 11) rfl (by walk_at "vis") (by decide) (by decide) rfl rfl rfl rfl rfl rfl rfl ?_
  | refine ws_ins0 (i := 12) rfl (by walk_at "vis") (by decide) (by decide) rfl rfl rfl rfl rfl rfl rfl ?_
  | refine ws_ins0 (i := 13) rfl (by walk_at "vis") (by decide) (by decide) rfl rfl rfl rfl rfl rfl rfl ?_
  | refine ws_ins0 (i := 14) rfl (by walk_at "vis") (by decide) (by decide) rfl rfl rfl rfl rfl rfl rfl ?_
  | refine ws_ins0 (i := 15) rfl (by walk_at "vis") (by decide) (by decide) rfl rfl rfl rfl rfl rfl rfl ?_)
local macro_rules | `(tactic| walk_at "retOwn") => `(tactic| first
  | refine ws_retOwn (i := 0) rfl (by walk_at "vis") (by decide) (by decide) rfl ?_
  | refine ws_retOwn (i := 1) rfl (by walk_at "vis") (by decide) (by decide) rfl ?_
  | refine ws_retOwn (i := 2) rfl (by walk_at "vis") (by decide) (by decide) rfl ?_
  | refine ws_retOwn (i := 3) rfl (by walk_at "vis") (by decide) (by decide) rfl ?_
  | refine ws_retOwn (i := 4) rfl (by walk_at "vis") (by decide) (by decide) rfl ?_
  | refine ws_retOwn (i := 5) rfl (by walk_at "vis") (by decide) (by decide) rfl ?_
  | refine ws_retOwn (i := 6) rfl (by walk_at "vis") (by decide) (by decide) rfl ?_
  | refine ws_retOwn (i := 7) rfl (by walk_at "vis") (by decide) (by decide) rfl ?_
  | refine ws_retOwn (i := 8) rfl (by walk_at "vis") (by decide) (by decide) rfl ?_
  | refine ws_retOwn (i := 9) rfl (by walk_at "vis") (by decide) (by decide) rfl ?_
  | refine ws_retOwn (i := 10) rfl (by walk_at "vis") (by decide) (by decide) rfl ?_
  | refine ws_retOwn (i := 11) rfl (by walk_at "vis") (by decide) (by decide) rfl ?_
  | refine ws_retOwn (i := 12) rfl (by walk_at "vis") (by decide) (by decide) rfl ?_
  | refine ws_retOwn (i := 13) rfl (by walk_at "vis") (by decide) (by decide) rfl ?_
  | refine ws_retOwn (i := 14) rfl (by walk_at "vis") (by decide) (by decide) rfl ?_
  | refine ws_retOwn (i := 15) rfl (by walk_at "vis") (by decide) (by decide) rfl ?_)
local macro_rules | `(tactic| walk_at "ixOwn") => `(tactic| first
  | refine we_ixOwn (i := 0) rfl (by walk_at "vis") (by decide) (by decide) rfl (fun _ _ => rfl) ?_
  | refine we_ixOwn (i := 1) rfl (by walk_at "vis") (by decide) (by decide) rfl (fun _ _ => rfl) ?_
  | refine we_ixOwn (i := 2) rfl (by walk_at "vis") (by decide) (by decide) rfl (fun _ _ => rfl) ?_
  | refine we_ixOwn (i := 3) rfl (by walk_at "vis") (by decide) (by decide) rfl (fun _ _ => rfl) ?_
  | refine we_ixOwn (i := 4) rfl (by walk_at "vis") (by decide) (by decide) rfl (fun _ _ => rfl) ?_
  | refine we_ixOwn (i := 5) rfl (by walk_at "vis") (by decide) (by decide) rfl (fun _ _ => rfl) ?_
  | refine we_ixOwn (i := 6) rfl (by walk_at "vis") (by decide) (by decide) rfl (fun _ _ => rfl) ?_
  | refine we_ixOwn (i := 7) rfl (by walk_at "vis") (by decide) (by decide) rfl (fun _ _ => rfl) ?_
  | refine we_ixOwn (i := 8) rfl (by walk_at "vis") (by decide) (by decide) rfl (fun _ _ => rfl) ?_
  | refine we_ixOwn (i := 9) rfl (by walk_at "vis") (by decide) (by decide) rfl (fun _ _ => rfl) ?_
  | refine we_ixOwn (i := 10) rfl (by walk_at "vis") (by decide) (by decide) rfl (fun _ _ => rfl) ?_
  | refine we_ixOwn (i := 11) rfl (by walk_at "vis") (by decide) (by decide) rfl (fun _ _ => rfl) ?_
  | refine we_ixOwn (i := 12) rfl (by walk_at "vis") (by decide) (by decide) rfl (fun _ _ => rfl) ?_
  | refine we_ixOwn (i := 13) rfl (by walk_at "vis") (by decide) (by decide) rfl (fun _ _ => rfl) ?_
  | refine we_ixOwn (i := 14) rfl (by walk_at "vis") (by decide) (by decide) rfl (fun _ _ => rfl) ?_
  | refine we_ixOwn (i := 15) rfl (by walk_at "vis") (by decide) (by decide) rfl (fun _ _ => rfl) ?_)
local macro_rules | `(tactic| walk_at "go") => `(tactic| repeat (first | walk_at "e" | walk_at "t" | walk_at "s" | walk_at "p" | (with_reducible refine ⟨_, rfl, ?_⟩) | (with_reducible refine iteT ?_) | (with_reducible refine iteF ?_) | (with_reducible refine iteNT ?_) | (with_reducible refine iteNF ?_)))
theorem sc23 : FnScope ["cell", "salt", "sizes", "whole", "left", "result", "k", "one"] ["cell", "salt", "sizes"] (defScope (top 23)) := ⟨rfl, rfl, rfl, by decide +kernel, rfl, by decide +kernel, by decide +kernel⟩
theorem sc24 : FnScope ["cell", "salt", "many"] ["cell", "salt", "many"] (defScope (top 24)) := ⟨rfl, rfl, rfl, by decide +kernel, rfl, by decide +kernel, by decide +kernel⟩
theorem sc25 : FnScope ["pool", "many", "at"] ["pool", "many"] (defScope (top 25)) := ⟨rfl, rfl, rfl, by decide +kernel, rfl, by decide +kernel, by decide +kernel⟩
theorem sc26 : FnScope ["script", "k", "many", "cell"] ["script", "k", "many"] (defScope (top 26)) := ⟨rfl, rfl, rfl, by decide +kernel, rfl, by decide +kernel, by decide +kernel⟩
section
variable {Pr : Program} {w : World} {K : PySem.W.Frag} {mg : Str → Option Value} {base : Heap}
theorem ok23 {f : Addr} {fd : FuncData} (F : Fun K "_law_numbers" "_law_numbers" (top 23) f fd) (b : Bi mg) : FnOk Pr w K mg base CX0 1 f fd ["cell", "salt", "sizes"] (toSp K pNumbers) := by
  refine def_ok F sc23 (fun G ds R ⟨_, _, _, e, _⟩ => by rw [e]; rfl) fun cdv A outer s H0 E0 C ds R hr hp => ?_
  obtain ⟨cell, salt, ns, rfl, hs0, hs1, hl, hn, h⟩ := hp
  have nd := sc23.nd
  walk_at "go"
  walk_at "new"
  walk_at "go"
  refine ws_for PassesOwn.never rfl (pg_name (i := 6) nd rfl (.inl rfl)) gb_name (fun _ => rfl) (wi_range1 rfl b.range rfl ?_)
  walk_at "go"
  refine ⟨by rw [List.length_map]; omega, by omega, ?_⟩
  rw [List.length_map, Int.toNat_natCast]
  refine ⟨fun i ρ' => ∃ (wh lf : Int) (rs : List Int) (v6 v7 : Sl), ρ' = ⟨C.G, [.sh (.int cell), .sh (.int salt), .sh (.lst (ns.map .int)), .sh (.int wh), .sh (.int lf), .ow (rs.map .int), v6, v7]⟩ ∧ rs.length = i, ⟨_, _, [], _, _, rfl, rfl⟩, ?_, ?_⟩
  · rintro B i d ρ' hd ⟨wh, lf, rs, v6, v7, rfl, hrs⟩
    obtain ⟨hi, rfl⟩ := ups_get' hd
    have hni := hn ns[i] (List.getElem_mem hi)
    walk_at "go"
    have fin : ∀ x y z : Int, ∀ u : Sl, (fun (i : Nat) (ρ' : E) => ∃ (wh lf : Int) (rs : List Int) (v6 v7 : Sl), ρ' = ⟨C.G, [.sh (.int cell), .sh (.int salt), .sh (.lst (ns.map .int)), .sh (.int wh), .sh (.int lf), .ow (rs.map .int), v6, v7]⟩ ∧ rs.length = i) (i + 1) ⟨C.G, [.sh (.int cell), .sh (.int salt), .sh (.lst (ns.map .int)), .sh (.int wh), .sh (.int y), .ow (rs.map .int ++ [.int x]), .sh (.int z), u]⟩ :=
      fun x y z u => ⟨wh, y, rs ++ [x], .sh (.int z), u, by rw [List.map_append]; rfl, by rw [List.length_append, hrs]; rfl⟩
    refine ite2 (fun h1 => ?_) (fun h1 => ?_)
    · walk_at "go"
      refine ite2 (fun h2 => ?_) (fun h2 => ?_)
      · walk_at "go"
        walk_at "app"
        walk_at "go"
        refine q_ixL (atI_ints hi) ?_
        walk_at "go"
        refine q_ixL (atI_ints hi) ?_
        walk_at "go"
        exact fin _ _ _ _
      · walk_at "go"
        walk_at "app"
        walk_at "go"
        refine q_ixL (atI_ints hi) ?_
        walk_at "go"
        exact fin _ _ _ _
    · walk_at "go"
      walk_at "app"
      walk_at "go"
      refine q_ixL (atI_ints hi) ?_
      walk_at "go"
      exact fin _ _ _ _
  · rintro ρ' ⟨wh, lf, rs, v6, v7, rfl, hrs⟩
    walk_at "s"
    walk_at "retOwn"
    exact h rs
theorem rep_flat (n : Nat) (x : Int) : (List.replicate n [D.int x]).flatten = (List.replicate n x).map D.int := by
  induction n with
  | zero => rfl
  | succ n ih => rw [List.replicate_succ, List.flatten_cons, ih, List.replicate_succ, List.map_cons]; rfl
theorem ok24 {f : Addr} {fd : FuncData} (F : Fun K "_law_pool" "_law_pool" (top 24) f fd) (b : Bi mg) (c : Cal Pr w K mg base 1 "_law_numbers" pNumbers) : FnOk Pr w K mg base CX0 2 f fd ["cell", "salt", "many"] (toSp K pPool) := by
  obtain ⟨f1, fd1, ps1, F1, m1, k1, b1⟩ := c.ex
  refine F.ok sc24 (fun vs H Q E ⟨G, F, ds, R, ok, h, ⟨_, _, _, e, _⟩, _⟩ => by rw [h.length, e]; rfl) fun cdv A outer s H vs Q E hr ⟨G, F, ds, R, ok, h, ⟨cell, salt, many, e, hs0, hs1, hm0, hm1, hR⟩, kk⟩ => ?_
  subst e
  rw [RpL] at h
  obtain ⟨v, t, rfl, r0, h⟩ := h
  obtain ⟨v1, v2, rfl, r1, r2⟩ := h.inv2
  rw [Rp] at r0 r1 r2
  subst r0 r1 r2
  refine ⟨_, pss_one (ps_ret (pe_lst (pa_cons (pe_call F1 hr rfl m1 k1 b1 .nil pass0 (pa_cons (pv 0) (pa_cons (pv 1) (pa_cons (pe_op op_rep (pe_lst (pa_cons pe_int pa_nil)) (pv 2)) pa_nil)))) (pa_cons pe_int pa_nil)))), ?_⟩
  refine ⟨_, rfl, _, rfl, by show 1 ≤ sizeLine; decide, fun q hq => ⟨_, rfl, q, many, _, rfl, rfl, upd_same, by omega, by omega, ?_, fun q2 hq2 => ?_⟩⟩
  · show 1 * many.toNat ≤ sizeLine
    exact sz (by omega)
  have s1 := ok.loose (o := .lst [.int 420]) hq
  have s2 := s1.ok.laid (o := .lst ((List.replicate many.toNat [V.int 420]).flatten)) hq2
  have s12 := s1.trans s2
  refine ⟨G, _, [.int cell, .int salt, .lst ((List.replicate many.toNat 420).map .int)], fun G' d => ∃ rs : List Int, d = .own (rs.map .int) ∧ G' = G, s12.ok, ?_, ⟨cell, salt, List.replicate many.toNat 420, rfl, hs0, hs1, by rw [List.length_replicate]; omega, fun n hn => by rw [(List.mem_replicate.mp hn).2]; decide, fun rs => ⟨rs, rfl, rfl⟩⟩, fun v H' G' d F' s' r' ⟨rs, e, _⟩ => ?_, fun p us H' G' es F' s' h0 fp gp hp hl ⟨rs, e, eg⟩ => ?_⟩
  · refine RpL.cons (by rw [Rp]) (RpL.cons (by rw [Rp]) (RpL.one ?_))
    rw [Rp]
    refine ⟨q2, _, rfl, upd_same, ?_⟩
    have e : ∀ n : Nat, (List.replicate n [V.int 420]).flatten = (List.replicate n (420 : Int)).map V.int := fun n => by
      induction n with
      | zero => rfl
      | succ n ih => rw [List.replicate_succ, List.flatten_cons, ih, List.replicate_succ, List.map_cons]; rfl
    rw [e]
    exact RpL.of_ints _
  · subst e
    rw [Rp] at r'
    exact r'.elim
  · injection e with e
    subst e
    have eu := hl.ints
    subst eu
    refine ⟨by show 2 ≤ sizeLine; decide, fun r hr0 => ?_⟩
    have st := s12.trans s'
    have hp0 : H p = none := by
      cases e : H p with
      | none => rfl
      | some u => exact absurd h0 (s12.dm p (ne_none e))
    exact kk.1 _ _ (gPool r p) (.raw (.ref r)) F' (pool_new st hp0 fp hp hr0) (by rw [Rp]) (hR r p)
theorem ok25 {f : Addr} {fd : FuncData} (F : Fun K "_law_draw" "_law_draw" (top 25) f fd) (b : Bi mg) : FnOk Pr w K mg base CX0 1 f fd ["pool", "many"] (toSp K pDraw) := by
  refine F.ok sc25 (fun vs H Q E ⟨G, F, ds, R, ok, h, ⟨_, _, _, e, _⟩, _⟩ => by rw [h.length, e]; rfl) fun cdv A outer s H vs Q E hr ⟨G, F, ds, R, ok, h, ⟨p, l, m, e, eg, hm, hR⟩, kk⟩ => ?_
  subst e eg
  obtain ⟨v1, v2, rfl, r1, r2⟩ := h.inv2
  simp only [Rp] at r1 r2
  subst r1 r2
  obtain ⟨⟨n, hn, hp⟩, ns, hl⟩ := ok.iv
  have st := pool_on (n := n + 1) ok (by omega)
  have npl : l ≠ p := by
    intro e
    rw [e, hp] at hl
    injection hl with z
    injection z with z
    cases ns with
    | nil => cases z
    | cons a r => injection z with z _; cases z
  have hl' : ∀ o, (upd H p o) l = some (.lst (ns.map V.int)) := fun o => by rw [upd_ne npl]; exact hl
  refine ⟨_, pss_cons (ps_set (i := 2) sc25.nd rfl (.inl rfl) (pe_ix ix_list (pv 0) pe_int (fun _ _ => rfl)))
    (pss_cons (ps_asg (pe_op op_add (pv 2) pe_int) (pg_sub (pv 0) pe_int set_list))
    (pss_one (ps_ret (pe_ifExp (pt_cmpR op_lt (pv 2) (pe_callB call_len_seq rfl b.len PySem.boot_len (pa_cons (pe_ix ix_list (pv 0) pe_int (fun _ _ => rfl)) pa_nil)) (nomark _))
      (pe_op op_mod (pe_callTy call_int1 rfl b.int bb_int (pa_cons (pe_ix ix_list (pe_ix ix_list (pv 0) pe_int (fun _ _ => rfl)) (pv 2) (fun _ _ => rfl)) pa_nil)) (pv 1)) pe_int)))), ?_⟩
  refine ⟨_, rfl, p, _, 1, .int n, rfl, rfl, SqL.of hp, rfl, ?_⟩
  refine ⟨_, rfl, n, 1, rfl, rfl, _, rfl, p, _, 1, 1, rfl, rfl, hp, rfl, ?_⟩
  refine ⟨_, rfl, _, rfl, p, _, 0, .ref l, rfl, rfl, SqL.of upd_same, rfl, l, _, rfl, .inl (SqL.of (hl' _)), n, _, rfl, rfl, _, rfl, ?_⟩
  refine ite2 (fun h1 => ?_) (fun h1 => ?_)
  · have h1' := of_decide_eq_true h1
    rw [List.length_map] at h1'
    obtain ⟨k, rfl⟩ := Int.eq_ofNat_of_zero_le hn
    have hk : k < ns.length := by omega
    refine ⟨_, rfl, p, _, 0, .ref l, rfl, rfl, SqL.of upd_same, rfl, _, rfl, l, _, k, .int ns[k], rfl, rfl, SqL.of (hl' _), atI_nat (by rw [List.getElem?_map, List.getElem?_eq_getElem hk]; rfl), .inl ⟨_, rfl, _, rfl, ns[k], m, rfl, rfl, hm, ?_⟩⟩
    exact kk.1 _ _ _ (.int (ns[k] % m)) F st (by rw [Rp]) (hR _ (Int.emod_nonneg _ (by omega)) (Int.emod_lt_of_pos _ hm))
  · exact kk.1 _ _ _ (.int 0) F st (by rw [Rp]) (hR 0 (by omega) hm)
theorem ok26 {f : Addr} {fd : FuncData} (F : Fun K "_law_opened" "_law_opened" (top 26) f fd) (b : Bi mg) (c : Cal Pr w K mg base 2 "_law_pool" pPool) : FnOk Pr w K mg base CX0 3 f fd ["script", "k", "many"] (toSp K pOpened) := by
  refine def_ok F sc26 (fun G ds R ⟨_, _, _, e, _⟩ => by rw [e]; rfl) fun cdv A outer s H0 E0 C ds R hr hp => ?_
  obtain ⟨ns, k, many, rfl, hk0, hk1, hk, hm0, hm1, h⟩ := hp
  have nd := sc26.nd
  walk_at "go"
  refine q_neR0 ⟨_, rfl, ?_⟩
  refine ite2 (fun h1 => ?_) (fun h1 => ?_)
  · have hne : ns ≠ [] := by simpa using h1
    obtain ⟨x, hx, _⟩ := atI_in (xs := ns) hk0 (hk hne)
    walk_at "go"
    refine q_ixR hx ?_
    walk_at "go"
    exact ⟨x, k, many, rfl, hk0, hk1, hm0, hm1, h⟩
  · walk_at "go"
    exact ⟨7, k, many, rfl, hk0, hk1, hm0, hm1, h⟩
end
end
section
local macro_rules | `(tactic| walk_at "vis") => `(tactic| first | exact Or.inl rfl | exact Or.inr (Or.inl rfl) | exact Or.inr (Or.inr rfl))
local macro_rules | `(tactic| walk_at "v") => `(tactic| first
  | refine we_var (i := 0) rfl (by walk_at "vis") (by decide) (by decide) rfl ?_ | refine we_var (i := 1) rfl (by walk_at "vis") (by decide) (by decide) rfl ?_
  | refine we_var (i := 2) rfl (by walk_at "vis") (by decide) (by decide) rfl ?_ | refine we_var (i := 3) rfl (by walk_at "vis") (by decide) (by decide) rfl ?_
  | refine we_var (i := 4) rfl (by walk_at "vis") (by decide) (by decide) rfl ?_ | refine we_var (i := 5) rfl (by walk_at "vis") (by decide) (by decide) rfl ?_
  | refine we_var (i := 6) rfl (by walk_at "vis") (by decide) (by decide) rfl ?_ | refine we_var (i := 7) rfl (by walk_at "vis") (by decide) (by decide) rfl ?_
  | refine we_var (i := 8) rfl (by walk_at "vis") (by decide) (by decide) rfl ?_ | refine we_var (i := 9) rfl (by walk_at "vis") (by decide) (by decide) rfl ?_
  | refine we_var (i := 10) rfl (by walk_at "vis") (by decide) (by decide) rfl ?_ | refine we_var (i := 11) rfl (by walk_at "vis") (by decide) (by decide) rfl ?_
  | refine we_var (i := 12) rfl (by walk_at "vis") (by decide) (by decide) rfl ?_ | refine we_var (i := 13) rfl (by walk_at "vis") (by decide) (by decide) rfl ?_
  | refine we_var (i := 14) rfl (by walk_at "vis") (by decide) (by decide) rfl ?_ | refine we_var (i := 15) rfl (by walk_at "vis") (by decide) (by decide) rfl ?_)
local macro_rules | `(tactic| walk_at "c") => `(tactic| first
  | refine we_len (by assumption) rfl rfl ?_ | refine we_isi (by assumption) rfl rfl rfl rfl ?_ | refine we_int1 (by assumption) rfl rfl ?_
  | refine we_all rfl (by assumption) rfl rfl ?_ | refine we_any rfl (by assumption) rfl rfl ?_ | refine we_sum rfl (by assumption) rfl rfl ?_
  | refine we_list1 (by assumption) rfl rfl ?_ | refine we_tuple1 (by assumption) rfl rfl ?_ | refine we_min2 rfl (by assumption) rfl rfl rfl rfl ?_ | refine we_max2 rfl (by assumption) rfl rfl rfl rfl ?_
  | refine we_minL rfl (by assumption) rfl rfl ?_ | refine we_maxL rfl (by assumption) rfl rfl ?_
  | refine we_call (by assumption) (Room.mono (by assumption) (by decide)) rfl (by decide) rfl rfl ?_ | refine we_call0 (by assumption) (Room.mono (by assumption) (by decide)) rfl (by decide) ?_)
local macro_rules | `(tactic| walk_at "n") => `(tactic| first
  | walk_at "v"
  | refine we_tyInt (by assumption) rfl ?_ | refine we_tyBool (by assumption) rfl ?_ | refine we_tyStr (by assumption) rfl ?_ | refine we_tyList (by assumption) rfl ?_ | refine we_tyTuple (by assumption) rfl ?_ | refine we_tyDict (by assumption) rfl ?_
  | refine we_gInt rfl (by assumption) (by decide) ?_)
local macro_rules | `(tactic| walk_at "e") => `(tactic| first
  | ((with_reducible show WE _ _ (Expr.Constant _ _ _) _ _); first | refine we_int ?_ | refine we_str ?_ | refine we_bl ?_ | refine we_non ?_)
  | ((with_reducible show WE _ _ (Expr.Name _ _) _ _); walk_at "n")
  | ((with_reducible show WE _ _ (Expr.Call _ _ _ _) _ _); walk_at "c")
  | ((with_reducible show WE _ _ (Expr.BinOp _ _ _ _) _ _); first | refine we_add ?_ | refine we_sub ?_ | refine we_mul ?_ | refine we_mod ?_ | refine we_div ?_ | refine we_pow ?_)
  | ((with_reducible show WE _ _ (Expr.UnaryOp _ _ _) _ _); first | refine we_not ?_ | refine we_neg ?_)
  | ((with_reducible show WE _ _ (Expr.BoolOp _ _ _) _ _); first | refine we_one ?_ | refine we_and ?_ | refine we_or ?_)
  | ((with_reducible show WE _ _ (Expr.Compare _ _ _ _) _ _); first | refine we_lt ?_ | refine we_le ?_ | refine we_gt ?_ | refine we_ge ?_ | refine we_eq (Room.units (by assumption)) ?_ | refine we_ne (Room.units (by assumption)) ?_ | refine we_is ?_ | refine we_isN ?_ | refine we_in (units65 (by assumption)) rfl ?_ | refine we_notIn (units65 (by assumption)) rfl ?_ | refine we_lele rfl ?_)
  | ((with_reducible show WE _ _ (Expr.IfExp _ _ _ _) _ _); refine we_ifx ?_)
  | ((with_reducible show WE _ _ (Expr.Subscript _ _ _) _ _); first | refine we_sl ?_ | refine we_ix ix_seq d_ix (fun _ _ => rfl) ?_)
  | ((with_reducible show WE _ _ (Expr.List _ _) _ _); refine we_lst ?_)
  | ((with_reducible show WE _ _ (Expr.Tuple _ _ _) _ _); refine we_tup ?_)
  | ((with_reducible show WO _ _ _ _ _ _); first | refine wo_none ?_ | refine wo_some ?_)
  | ((with_reducible show bName _ _ _ _); refine b_name ?_)
  | ((with_reducible show bTup _ _ _ _); first | refine b_tup2 ?_ | refine b_tup3 ?_ | refine b_tup rfl ?_)
  | ((with_reducible show WA _ _ _ _ _); first | refine wa_nil ?_ | refine wa_star rfl ?_ | refine wa_cons rfl ?_))
local macro_rules | `(tactic| walk_at "t") => `(tactic| first
  | ((with_reducible show WW _ _ _ _ _); first | refine ww_and1 ?_ | refine ww_or1 ?_ | refine ww_and ?_ | refine ww_or ?_)
  | ((with_reducible show WT _ _ (Expr.UnaryOp _ _ _) _ _); refine wt_not ?_)
  | ((with_reducible show WT _ _ (Expr.BoolOp _ _ _) _ _); refine wt_w ?_)
  | ((with_reducible show WT _ _ (Expr.Compare _ _ _ _) _ _); first | refine wt_lt ?_ | refine wt_le ?_ | refine wt_gt ?_ | refine wt_ge ?_ | refine wt_eq (Room.units (by assumption)) ?_ | refine wt_ne (Room.units (by assumption)) ?_ | refine wt_is ?_ | refine wt_isN ?_ | refine wt_in (units65 (by assumption)) rfl ?_ | refine wt_notIn (units65 (by assumption)) rfl ?_ | refine wt_val (fun _ => rfl) ?_)
  | ((with_reducible show WT _ _ _ _ _); refine wt_val (fun _ => rfl) ?_))
local macro_rules | `(tactic| walk_at "set") => `(tactic| first
  | refine ws_set (i := 0) (by assumption) rfl (by walk_at "vis") rfl (Or.inl rfl) ?_ | refine ws_set (i := 1) (by assumption) rfl (by first | exact Or.inl rfl | exact Or.inr rfl) rfl (Or.inl rfl) ?_
  | refine ws_set (i := 2) (by assumption) rfl (by first | exact Or.inl rfl | exact Or.inr rfl) rfl (Or.inl rfl) ?_ | refine ws_set (i := 3) (by assumption) rfl (by first | exact Or.inl rfl | exact Or.inr rfl) rfl (Or.inl rfl) ?_
  | refine ws_set (i := 4) (by assumption) rfl (by first | exact Or.inl rfl | exact Or.inr rfl) rfl (Or.inl rfl) ?_ | refine ws_set (i := 5) (by assumption) rfl (by first | exact Or.inl rfl | exact Or.inr rfl) rfl (Or.inl rfl) ?_
  | refine ws_set (i := 6) (by assumption) rfl (by first | exact Or.inl rfl | exact Or.inr rfl) rfl (Or.inl rfl) ?_ | refine ws_set (i := 7) (by assumption) rfl (by first | exact Or.inl rfl | exact Or.inr rfl) rfl (Or.inl rfl) ?_
  | refine ws_set (i := 8) (by assumption) rfl (by first | exact Or.inl rfl | exact Or.inr rfl) rfl (Or.inl rfl) ?_ | refine ws_set (i := 9) (by assumption) rfl (by first | exact Or.inl rfl | exact Or.inr rfl) rfl (Or.inl rfl) ?_
  | refine ws_set (i := 10) (by assumption) rfl (by first | exact Or.inl rfl | exact Or.inr rfl) rfl (Or.inl rfl) ?_ | refine ws_set (i := 11) (by assumption) rfl (by first | exact Or.inl rfl | exact Or.inr rfl) rfl (Or.inl rfl) ?_
  | refine ws_set (i := 12) (by assumption) rfl (by first | exact Or.inl rfl | exact Or.inr rfl) rfl (Or.inl rfl) ?_ | refine ws_set (i := 13) (by assumption) rfl (by first | exact Or.inl rfl | exact Or.inr rfl) rfl (Or.inl rfl) ?_)
local macro_rules | `(tactic| walk_at "s") => `(tactic| first
  | ((with_reducible show WSs _ _ _ _ _); first | refine wss_cons ?_ | refine wss_nil ?_)
  | ((with_reducible show WS _ _ (Stmt.Return _ _) _ _); refine ws_ret ?_)
  | ((with_reducible show WS _ _ (Stmt.If _ _ _ _) _ _); refine ws_if ?_)
  | ((with_reducible show WS _ _ (Stmt.Assign [Expr.Name _ _] _ _) _ _); (fail_if_success (with_reducible show WS _ _ (Stmt.Assign [Expr.Name _ _] (Expr.List [] _) _) _ _)); walk_at "set"))
local macro_rules | `(tactic| walk_at "z") => `(tactic| first | decide | omega | (simp only [List.length_map, List.length_append, List.length_cons, List.length_nil, List.length_replicate]; omega))
local macro_rules | `(tactic| walk_at "p") => `(tactic| first
  | ((with_reducible show fr _ _ _); first | refine fr_non ?_ | refine fr_bl ?_ | refine fr_int ?_ | refine fr_str ?_ | refine fr_raw ?_ | refine fr_lst ?_ | refine fr_tup ?_ | refine fr_own ?_ | refine fr_dct ?_ | refine fr_ins ?_)
  | ((with_reducible show pAdd _ _ _); first | refine q_addI ?_ | refine q_addL (by walk_at "z") ?_ | refine q_addS (by walk_at "z") ?_)
  | ((with_reducible show pSub _ _ _); refine q_sub ?_)
  | ((with_reducible show pMod _ _ _); refine q_mod (by walk_at "z") ?_)
  | ((with_reducible show pMul _ _ _); first | refine q_mulI (by first | (refine Or.inl ⟨?_, ?_⟩ <;> walk_at "z") | (refine Or.inr ⟨?_, ?_⟩ <;> walk_at "z")) ?_ | refine q_mulL ⟨by walk_at "z", by walk_at "z", by walk_at "z"⟩ ?_)
  | ((with_reducible show pDiv _ _ _); refine q_div ⟨by walk_at "z", by walk_at "z"⟩ ?_)
  | ((with_reducible show pPow _ _ _); refine q_pow ⟨by walk_at "z", by walk_at "z", by walk_at "z"⟩ ?_)
  | ((with_reducible show pLt _ _ _); refine q_lt ?_) | ((with_reducible show pLe _ _ _); refine q_le ?_) | ((with_reducible show pGt _ _ _); refine q_gt ?_) | ((with_reducible show pGe _ _ _); refine q_ge ?_)
  | ((with_reducible show pNeg _ _); refine q_neg ?_) | ((with_reducible show pIs _ _ _); refine q_is ?_) | ((with_reducible show pIsN _ _ _); refine q_isN ?_)
  | ((with_reducible show pInt1 _ _); first | refine q_int ?_ | refine q_intB ?_)
  | ((with_reducible show pLen _ _); first | refine q_lenL ?_ | refine q_lenT ?_ | refine q_lenR ?_ | refine q_lenS (by walk_at "z") ?_)
  | ((with_reducible show pMax2 _ _); refine q_max2 ?_) | ((with_reducible show pMin2 _ _); refine q_min2 ?_)
  | ((with_reducible show pList _ _); first | refine q_listL ?_ | refine q_listT ?_)
  | ((with_reducible show pTuple _ _); first | refine q_tupL ?_ | refine q_tupT ?_)
  | ((with_reducible show pEq _ _ _); first | refine q_eqI ?_ | refine q_eqL ?_ | refine q_eqS (by decide) (by decide) ?_)
  | ((with_reducible show pNe _ _ _); first | refine q_neI ?_ | refine q_neL ?_ | refine q_neS (by decide) (by decide) ?_)
  | ((with_reducible show pIter _ _); first | refine q_iterL ?_ | refine q_iterT ?_)
  | ((with_reducible show pSl _ _ _ _); refine q_slL ?_)
  | ((with_reducible show pIsi _ _); refine q_isi rfl (by decide) ?_)
  | ((with_reducible show _ ≤ 1000000 ∧ _); refine ⟨by walk_at "z", ?_⟩) | ((with_reducible show _ < 900000 ∧ _); refine ⟨by walk_at "z", ?_⟩))
local macro_rules | `(tactic| walk_at "new") => `(tactic| first
  | refine ws_new (i := 0) (by assumption) rfl (by first | exact Or.inl rfl | exact Or.inr rfl) rfl (Or.inl rfl) ?_
  | refine ws_new (i := 1) (by assumption) rfl (by first | exact Or.inl rfl | exact Or.inr rfl) rfl (Or.inl rfl) ?_
  | refine ws_new (i := 2) (by assumption) rfl (by first | exact Or.inl rfl | exact Or.inr rfl) rfl (Or.inl rfl) ?_
  | refine ws_new (i := 3) (by assumption) rfl (by first | exact Or.inl rfl | exact Or.inr rfl) rfl (Or.inl rfl) ?_
  | refine ws_new (i := 4) (by assumption) rfl (by first | exact Or.inl rfl | exact Or.inr rfl) rfl (Or.inl rfl) ?_
  | refine ws_new (i := 5) (by assumption) rfl (by first | exact Or.inl rfl | exact Or.inr rfl) rfl (Or.inl rfl) ?_
  | refine ws_new (i := 6) (by assumption) rfl (by first | exact Or.inl rfl | exact Or.inr rfl) rfl (Or.inl rfl) ?_
  | refine ws_new (i := 7) (by assumption) rfl (by first | exact Or.inl rfl | exact Or.inr rfl) rfl (Or.inl rfl) ?_
  | refine ws_new (i := 8) (by assumption) rfl (by first | exact Or.inl rfl | exact Or.inr rfl) rfl (Or.inl rfl) ?_
  | refine ws_new (i := 9) (by assumption) rfl (by first | exact Or.inl rfl | exact Or.inr rfl) rfl (Or.inl rfl) ?_
  | refine ws_new (i := 10) (by assumption) rfl (by first | exact Or.inl rfl | exact Or.inr rfl) rfl (Or.inl rfl) ?_
  | refine ws_new (i := 11) (by assumption) rfl (by first | exact Or.inl rfl | exact Or.inr rfl) rfl (Or.inl rfl) ?_
  | refine ws_new (i := 12) (by assumption) rfl (by first | exact Or.inl rfl | exact Or.inr rfl) rfl (Or.inl rfl) ?_
  | refine ws_new (i := 13) (by assumption) rfl (by first | exact Or.inl rfl | exact Or.inr rfl) rfl (Or.inl rfl) ?_
  | refine ws_new (i := 14) (by assumption) rfl (by first | exact Or.inl rfl | exact Or.inr rfl) rfl (Or.inl rfl) ?_
  | refine ws_new (i := 15) (by assumption) rfl (by first | exact Or.inl rfl | exact Or.inr rfl) rfl (Or.inl rfl) ?_)
local macro_rules | `(tactic| walk_at "app") => `(tactic| first
  | refine ws_app (i := 0) rfl (by walk_at "vis") (by decide) (by decide) rfl rfl rfl rfl rfl rfl rfl ?_
  | refine ws_app (i := 1) rfl (by walk_at "vis") (by decide) (by decide) rfl rfl rfl rfl rfl rfl rfl ?_
  | refine ws_app (i := 2) rfl (by walk_at "vis") (by decide) (by decide) rfl rfl rfl rfl rfl rfl rfl ?_
  | refine ws_app (i := 3) rfl (by walk_at "vis") (by decide) (by decide) rfl rfl rfl rfl rfl rfl rfl ?_
  | refine ws_app (i := 4) rfl (by walk_at "vis") (by decide) (by decide) rfl rfl rfl rfl rfl rfl rfl ?_
  | refine ws_app (i := 5) rfl (by walk_at "vis") (by decide) (by decide) rfl rfl rfl rfl rfl rfl rfl ?_
  | refine ws_app (i := 6) rfl (by walk_at "vis") (by decide) (by decide) rfl rfl rfl rfl rfl rfl rfl ?_
  | refine ws_app (i := 7) rfl (by walk_at "vis") (by decide) (by decide) rfl rfl rfl rfl rfl rfl rfl ?_
  | refine ws_app (i := 8) rfl (by walk_at "vis") (by decide) (by decide) rfl rfl rfl rfl rfl rfl rfl ?_
  | refine ws_app (i := 9) rfl (by walk_at "vis") (by decide) (by decide) rfl rfl rfl rfl rfl rfl rfl ?_
  | refine ws_app (i := 10) rfl (by walk_at "vis") (by decide) (by decide) rfl rfl rfl rfl rfl rfl rfl ?_
  | refine ws_app (i := 11) rfl (by walk_at "vis") (by decide) (by decide) rfl rfl rfl rfl rfl rfl rfl ?_
  | refine ws_app (i := 12) rfl (by walk_at "vis") (by decide) (by decide) rfl rfl rfl rfl rfl rfl rfl ?_
  | refine ws_app (i := 13) rfl (by walk_at "vis") (by decide) (by decide) rfl rfl rfl rfl rfl rfl rfl ?_
  | refine ws_app (i := 14) rfl (by walk_at "vis") (by decide) (by decide) rfl rfl rfl rfl rfl rfl rfl ?_
  | refine ws_app (i := 15) rfl (by walk_at "vis") (by decide) (by decide) rfl rfl rfl rfl rfl rfl rfl ?_)
local macro_rules | `(tactic| walk_at "ext") => `(tactic| first
  | refine ws_ext (i := 0) rfl (by walk_at "vis") (by decide) (by decide) rfl rfl rfl rfl rfl rfl rfl ?_
  | refine ws_ext (i := 1) rfl (by walk_at "vis") (by decide) (by decide) rfl rfl rfl rfl rfl rfl rfl ?_
  | refine ws_ext (i := 2) rfl (by walk_at "vis") (by decide) (by decide) rfl rfl rfl rfl rfl rfl rfl ?_
  | refine ws_ext (i := 3) rfl (by walk_at "vis") (by decide) (by decide) rfl rfl rfl rfl rfl rfl rfl ?_
  | refine ws_ext (i := 4) rfl (by walk_at "vis") (by decide) (by decide) rfl rfl rfl rfl rfl rfl rfl ?_
  | refine ws_ext (i := 5) rfl (by walk_at "vis") (by decide) (by decide) rfl rfl rfl rfl rfl rfl rfl ?_
  | refine ws_ext (i := 6) rfl (by walk_at "vis") (by decide) (by decide) rfl rfl rfl rfl rfl rfl rfl ?_
  | refine ws_ext (i := 7) rfl (by walk_at "vis") (by decide) (by decide) rfl rfl rfl rfl rfl rfl rfl ?_
  | refine ws_ext (i := 8) rfl (by walk_at "vis") (by decide) (by decide) rfl rfl rfl rfl rfl rfl rfl ?_
  | refine ws_ext (i := 9) rfl (by walk_at "vis") (by decide) (by decide) rfl rfl rfl rfl rfl rfl rfl ?_
  | refine ws_ext (i := 10) rfl (by walk_at "vis") (by decide) (by decide) rfl rfl rfl rfl rfl rfl rfl ?_
  | refine ws_ext (i := 11) rfl (by walk_at "vis") (by decide) (by decide) rfl rfl rfl rfl rfl rfl rfl ?_
  | refine ws_ext (i := 12) rfl (by walk_at "vis") (by decide) (by decide) rfl rfl rfl rfl rfl rfl rfl ?_
  | refine ws_ext (i := 13) rfl (by walk_at "vis") (by decide) (by decide) rfl rfl rfl rfl rfl rfl rfl ?_
  | refine ws_ext (i := 14) rfl (by walk_at "vis") (by decide) (by decide) rfl rfl rfl rfl rfl rfl rfl ?_
  | refine ws_ext (i := 15) rfl (by walk_at "vis") (by decide) (by decide) rfl rfl rfl rfl rfl rfl rfl ?_)
local macro_rules | `(tactic| walk_at "ins0") => `(tactic| first
  | refine ws_ins0 (i := 0) rfl (by walk_at "vis") (by decide) (by decide) rfl rfl rfl rfl rfl rfl rfl ?_
  | refine ws_ins0 (i := 1) rfl (by walk_at "vis") (by decide) (by decide) rfl rfl rfl rfl rfl rfl rfl ?_
  | refine ws_ins0 (i := 2) rfl (by walk_at "vis") (by decide) (by decide) rfl rfl rfl rfl rfl rfl rfl ?_
  | refine ws_ins0 (i := 3) rfl (by walk_at "vis") (by decide) (by decide) rfl rfl rfl rfl rfl rfl rfl ?_
  | refine ws_ins0 (i := 4) rfl (by walk_at "vis") (by decide) (by decide) rfl rfl rfl rfl rfl rfl rfl ?_
  | refine ws_ins0 (i := 5) rfl (by walk_at "vis") (by decide) (by decide) rfl rfl rfl rfl rfl rfl rfl ?_
  | refine ws_ins0 (i := 6) rfl (by walk_at "vis") (by decide) (by decide) rfl rfl rfl rfl rfl rfl rfl ?_
  | refine ws_ins0 (i := 7) rfl (by walk_at "vis") (by decide) (by decide) rfl rfl rfl rfl rfl rfl rfl ?_
  | refine ws_ins0 (i := 8) rfl (by walk_at "vis") (by decide) (by decide) rfl rfl rfl rfl rfl rfl rfl ?_
  | refine ws_ins0 (i := 9) rfl (by walk_at "vis") (by decide) (by decide) rfl rfl rfl rfl rfl rfl rfl ?_
  | refine ws_ins0 (i := 10) rfl (by walk_at "vis") (by decide) (by decide) rfl rfl rfl rfl rfl rfl rfl ?_
  | refine ws_ins0 (i := 11) rfl (by walk_at "vis") (by decide) (by decide) rfl rfl rfl rfl rfl rfl rfl ?_
  | refine ws_ins0 (i := 12) rfl (by walk_at "vis") (by decide) (by decide) rfl rfl rfl rfl rfl rfl rfl ?_
  | refine ws_ins0 (i := 13) rfl (by walk_at "vis") (by decide) (by decide) rfl rfl rfl rfl rfl rfl rfl ?_
  | refine ws_ins0 (i := 14) rfl (by walk_at "vis") (by decide) (by decide) rfl rfl rfl rfl rfl rfl rfl ?_
  | refine ws_ins0 (i := 15) rfl (by walk_at "vis") (by decide) (by decide) rfl rfl rfl rfl rfl rfl rfl ?_)
local macro_rules | `(tactic| walk_at "retOwn") => `(tactic| first
  | refine ws_retOwn (i := 0) rfl (by walk_at "vis") (by decide) (by decide) rfl ?_
  | refine ws_retOwn (i := 1) rfl (by walk_at "vis") (by decide) (by decide) rfl ?_
  | refine ws_retOwn (i := 2) rfl (by walk_at "vis") (by decide) (by decide) rfl ?_
  | refine ws_retOwn (i := 3) rfl (by walk_at "vis") (by decide) (by decide) rfl ?_
  | refine ws_retOwn (i := 4) rfl (by walk_at "vis") (by decide) (by decide) rfl ?_
  | refine ws_retOwn (i := 5) rfl (by walk_at "vis") (by decide) (by decide) rfl ?_
  | refine ws_retOwn (i := 6) rfl (by walk_at "vis") (by decide) (by decide) rfl ?_
  | refine ws_retOwn (i := 7) rfl (by walk_at "vis") (by decide) (by decide) rfl ?_
  | refine ws_retOwn (i := 8) rfl (by walk_at "vis") (by decide) (by decide) rfl ?_
  | refine ws_retOwn (i := 9) rfl (by walk_at "vis") (by decide) (by decide) rfl ?_
  | refine ws_retOwn (i := 10) rfl (by walk_at "vis") (by decide) (by decide) rfl ?_
  | refine ws_retOwn (i := 11) rfl (by walk_at "vis") (by decide) (by decide) rfl ?_
  | refine ws_retOwn (i := 12) rfl (by walk_at "vis") (by decide) (by decide) rfl ?_
  | refine ws_retOwn (i := 13) rfl (by walk_at "vis") (by decide) (by decide) rfl ?_
  | refine ws_retOwn (i := 14) rfl (by walk_at "vis") (by decide) (by decide) rfl ?_
  | refine ws_retOwn (i := 15) rfl (by walk_at "vis") (by decide) (by decide) rfl ?_)
local macro_rules | `(tactic| walk_at "ixOwn") => `(tactic| first
  | refine we_ixOwn (i := 0) rfl (by walk_at "vis") (by decide) (by decide) rfl (fun _ _ => rfl) ?_
  | refine we_ixOwn (i := 1) rfl (by walk_at "vis") (by decide) (by decide) rfl (fun _ _ => rfl) ?_
  | refine we_ixOwn (i := 2) rfl (by walk_at "vis") (by decide) (by decide) rfl (fun _ _ => rfl) ?_
  | refine we_ixOwn (i := 3) rfl (by walk_at "vis") (by decide) (by decide) rfl (fun _ _ => rfl) ?_
  | refine we_ixOwn (i := 4) rfl (by walk_at "vis") (by decide) (by decide) rfl (fun _ _ => rfl) ?_
  | refine we_ixOwn (i := 5) rfl (by walk_at "vis") (by decide) (by decide) rfl (fun _ _ => rfl) ?_
  | refine we_ixOwn (i := 6) rfl (by walk_at "vis") (by decide) (by decide) rfl (fun _ _ => rfl) ?_
  | refine we_ixOwn (i := 7) rfl (by walk_at "vis") (by decide) (by decide) rfl (fun _ _ => rfl) ?_
  | refine we_ixOwn (i := 8) rfl (by walk_at "vis") (by decide) (by decide) rfl (fun _ _ => rfl) ?_
  | refine we_ixOwn (i := 9) rfl (by walk_at "vis") (by decide) (by decide) rfl (fun _ _ => rfl) ?_
  | refine we_ixOwn (i := 10) rfl (by walk_at "vis") (by decide) (by decide) rfl (fun _ _ => rfl) ?_
  | refine we_ixOwn (i := 11) rfl (by walk_at "vis") (by decide) (by decide) rfl (fun _ _ => rfl) ?_
  | refine we_ixOwn (i := 12) rfl (by walk_at "vis") (by decide) (by decide) rfl (fun _ _ => rfl) ?_
  | refine we_ixOwn (i := 13) rfl (by walk_at "vis") (by decide) (by decide) rfl (fun _ _ => rfl) ?_
  | refine we_ixOwn (i := 14) rfl (by walk_at "vis") (by decide) (by decide) rfl (fun _ _ => rfl) ?_
  | refine we_ixOwn (i := 15) rfl (by walk_at "vis") (by decide) (by decide) rfl (fun _ _ => rfl) ?_)
local macro_rules | `(tactic| walk_at "go") => `(tactic| repeat (first | walk_at "e" | walk_at "t" | walk_at "s" | walk_at "p" | (with_reducible refine ⟨_, rfl, ?_⟩) | (with_reducible refine iteT ?_) | (with_reducible refine iteF ?_) | (with_reducible refine iteNT ?_) | (with_reducible refine iteNF ?_)))
open Ch
theorem sc16 : FnScope ["base", "target", "at", "best", "start", "many"] ["base", "target", "at"] (defScope (top 16)) := ⟨rfl, rfl, rfl, by decide +kernel, rfl, by decide +kernel, by decide +kernel⟩
def pLM : DSp := fun G ds R => ∃ (bs tg : List Int) (at_ : Nat), ds = [iL bs, iL tg, .int at_] ∧ at_ ≤ tg.length ∧ bs.length ≤ 1000 ∧ tg.length ≤ 1000 ∧ R G (.tup [.int (best bs (tg.drop at_)).1, .int (best bs (tg.drop at_)).2])
section
variable {Pr : Program} {w : World} {K : PySem.W.Frag} {mg : Str → Option Value} {base : Heap}
theorem ok16 {f : Addr} {fd : FuncData} (F : Fun K "longest_match" "longest_match" (top 16) f fd) (b : Bi mg) : FnOk Pr w K mg base CX0 1 f fd ["base", "target", "at"] (toSp K pLM) := by
  refine def_ok F sc16 (fun G ds R ⟨_, _, _, e, _⟩ => by rw [e]; rfl) fun cdv A outer s H0 E0 C ds R hr hp => ?_
  obtain ⟨bs, tg, a, rfl, ha, hl1, hl2, h⟩ := hp
  have nd := sc16.nd
  unfold iL
  walk_at "go"
  refine ws_for PassesOwn.never rfl (pg_name (i := 4) nd rfl (.inl rfl)) gb_name (fun _ => rfl) (wi_range1 rfl b.range rfl ?_)
  walk_at "go"
  refine ⟨by rw [List.length_map]; omega, by omega, ?_⟩
  rw [List.length_map, Int.toNat_natCast]
  refine ⟨fun i ρ' => ∃ v4 v5, ρ' = ⟨C.G, [.sh (.lst (bs.map .int)), .sh (.lst (tg.map .int)), .sh (.int a), .sh (.tup [.int (bestUp bs (tg.drop a) i).1, .int (bestUp bs (tg.drop a) i).2]), v4, v5]⟩, ⟨_, _, rfl⟩, ?_, ?_⟩
  · rintro B i d ρ' hd ⟨v4, v5, rfl⟩
    obtain ⟨hi, rfl⟩ := ups_get' hd
    walk_at "go"
    have hle := mlen_le (bs.drop i) (tg.drop a)
    rw [List.length_drop, List.length_drop] at hle
    refine ws_cut (fun ρ' => ρ' = ⟨C.G, [.sh (.lst (bs.map .int)), .sh (.lst (tg.map .int)), .sh (.int a), .sh (.tup [.int (bestUp bs (tg.drop a) i).1, .int (bestUp bs (tg.drop a) i).2]), .sh (.int i), .sh (.int (mlen (bs.drop i) (tg.drop a)))]⟩) ?_ ?_
    rotate_left
    · rintro ρ' rfl
      walk_at "go"
      refine q_ixT rfl ?_
      walk_at "go"
      refine ite2 (fun h1 => ?_) (fun h1 => ?_)
      · walk_at "go"
        refine ⟨.sh (.int i), .sh (.int (mlen (bs.drop i) (tg.drop a))), ?_⟩
        rw [bestUp, if_pos (by have := of_decide_eq_true h1; omega)]
        rfl
      · walk_at "go"
        refine ⟨.sh (.int i), .sh (.int (mlen (bs.drop i) (tg.drop a))), ?_⟩
        rw [bestUp, if_neg (by simpa using h1)]
    refine ws_while PassesOwn.never (fun m ρ' => ∃ k : Nat, ρ' = ⟨C.G, [.sh (.lst (bs.map .int)), .sh (.lst (tg.map .int)), .sh (.int a), .sh (.tup [.int (bestUp bs (tg.drop a) i).1, .int (bestUp bs (tg.drop a) i).2]), .sh (.int i), .sh (.int k)]⟩ ∧ k ≤ mlen (bs.drop i) (tg.drop a) ∧ m = 2000 - k) 2000 ⟨0, rfl, Nat.zero_le _, rfl⟩ ?_
    rintro m ρ' ⟨k, rfl, hk, hm⟩
    have hit := mlen_iff (bs.drop i) (tg.drop a) k hk
    rw [List.getElem?_drop, List.getElem?_drop] at hit
    have out : ¬ k < mlen (bs.drop i) (tg.drop a) → (⟨C.G, [.sh (.lst (bs.map .int)), .sh (.lst (tg.map .int)), .sh (.int a), .sh (.tup [.int (bestUp bs (tg.drop a) i).1, .int (bestUp bs (tg.drop a) i).2]), .sh (.int i), .sh (.int k)]⟩ : E) = ⟨C.G, [.sh (.lst (bs.map .int)), .sh (.lst (tg.map .int)), .sh (.int a), .sh (.tup [.int (bestUp bs (tg.drop a) i).1, .int (bestUp bs (tg.drop a) i).2]), .sh (.int i), .sh (.int (mlen (bs.drop i) (tg.drop a)))]⟩ := fun z => by rw [show k = mlen (bs.drop i) (tg.drop a) by omega]
    walk_at "go"
    rw [List.length_map]
    refine ite2 (fun h1 => ?_) (fun h1 => ?_)
    · have h1' := of_decide_eq_true h1
      walk_at "go"
      rw [List.length_map]
      refine ite2 (fun h2 => ?_) (fun h2 => ?_)
      · have h2' := of_decide_eq_true h2
        have l1 : a + k < tg.length := by omega
        have l2 : i + k < bs.length := by omega
        walk_at "go"
        refine q_ixL (atI_iL (i + k) (by omega) l2) ?_
        walk_at "go"
        refine q_ixL (atI_iL (a + k) (by omega) l1) ?_
        walk_at "go"
        rw [List.getElem?_eq_getElem l1, List.getElem?_eq_getElem l2] at hit
        refine ite2 (fun h3 => ?_) (fun h3 => ?_)
        · have h3' := of_decide_eq_true h3
          have lt := hit.mpr ⟨_, rfl, by rw [h3']⟩
          walk_at "go"
          exact ⟨2000 - (k + 1), by omega, k + 1, rfl, lt, rfl⟩
        · refine out fun z => ?_
          obtain ⟨x, e1, e2⟩ := hit.mp z
          cases e1
          injection e2 with e2
          exact h3 (decide_eq_true e2.symm)
      · walk_at "go"
        refine out fun z => ?_
        have : ¬ ((i : Int) + k < bs.length) := fun q => h2 (decide_eq_true q)
        omega
    · walk_at "go"
      refine out fun z => ?_
      have : ¬ ((a : Int) + k < tg.length) := fun q => h1 (decide_eq_true q)
      omega
  · rintro ρ' ⟨v4, v5, rfl⟩
    rw [ups_length]
    walk_at "go"
    exact h
end
end
section
local macro_rules | `(tactic| walk_at "vis") => `(tactic| first | exact Or.inl rfl | exact Or.inr (Or.inl rfl) | exact Or.inr (Or.inr rfl))
local macro_rules | `(tactic| walk_at "v") => `(tactic| first
  | refine we_var (i := 0) rfl (by walk_at "vis") (by decide) (by decide) rfl ?_ | refine we_var (i := 1) rfl (by walk_at "vis") (by decide) (by decide) rfl ?_
  | refine we_var (i := 2) rfl (by walk_at "vis") (by decide) (by decide) rfl ?_ | refine we_var (i := 3) rfl (by walk_at "vis") (by decide) (by decide) rfl ?_
  | refine we_var (i := 4) rfl (by walk_at "vis") (by decide) (by decide) rfl ?_ | refine we_var (i := 5) rfl (by walk_at "vis") (by decide) (by decide) rfl ?_
  | refine we_var (i := 6) rfl (by walk_at "vis") (by decide) (by decide) rfl ?_ | refine we_var (i := 7) rfl (by walk_at "vis") (by decide) (by decide) rfl ?_
  | refine we_var (i := 8) rfl (by walk_at "vis") (by decide) (by decide) rfl ?_ | refine we_var (i := 9) rfl (by walk_at "vis") (by decide) (by decide) rfl ?_
  | refine we_var (i := 10) rfl (by walk_at "vis") (by decide) (by decide) rfl ?_ | refine we_var (i := 11) rfl (by walk_at "vis") (by decide) (by decide) rfl ?_
  | refine we_var (i := 12) rfl (by walk_at "vis") (by decide) (by decide) rfl ?_ | refine we_var (i := 13) rfl (by walk_at "vis") (by decide) (by decide) rfl ?_
  | refine we_var (i := 14) rfl (by walk_at "vis") (by decide) (by decide) rfl ?_ | refine we_var (i := 15) rfl (by walk_at "vis") (by decide) (by decide) rfl ?_ | refine we_var (i := 16) rfl (by walk_at "vis") (by decide) (by decide) rfl ?_ | refine we_var (i := 17) rfl (by walk_at "vis") (by decide) (by decide) rfl ?_)
local macro_rules | `(tactic| walk_at "c") => `(tactic| first
  | refine we_len (by assumption) rfl rfl ?_ | refine we_isi (by assumption) rfl rfl rfl rfl ?_ | refine we_int1 (by assumption) rfl rfl ?_
  | refine we_all rfl (by assumption) rfl rfl ?_ | refine we_any rfl (by assumption) rfl rfl ?_ | refine we_sum rfl (by assumption) rfl rfl ?_
  | refine we_list1 (by assumption) rfl rfl ?_ | refine we_tuple1 (by assumption) rfl rfl ?_ | refine we_min2 rfl (by assumption) rfl rfl rfl rfl ?_ | refine we_max2 rfl (by assumption) rfl rfl rfl rfl ?_
  | refine we_minL rfl (by assumption) rfl rfl ?_ | refine we_maxL rfl (by assumption) rfl rfl ?_
  | refine we_call (by assumption) (Room.mono (by assumption) (by decide)) rfl (by decide) rfl rfl ?_ | refine we_call0 (by assumption) (Room.mono (by assumption) (by decide)) rfl (by decide) ?_)
local macro_rules | `(tactic| walk_at "n") => `(tactic| first
  | walk_at "v"
  | refine we_tyInt (by assumption) rfl ?_ | refine we_tyBool (by assumption) rfl ?_ | refine we_tyStr (by assumption) rfl ?_ | refine we_tyList (by assumption) rfl ?_ | refine we_tyTuple (by assumption) rfl ?_ | refine we_tyDict (by assumption) rfl ?_
  | refine we_gInt rfl (by assumption) (by decide) ?_)
local macro_rules | `(tactic| walk_at "e") => `(tactic| first
  | ((with_reducible show WE _ _ (Expr.Constant _ _ _) _ _); first | refine we_int ?_ | refine we_str ?_ | refine we_bl ?_ | refine we_non ?_)
  | ((with_reducible show WE _ _ (Expr.Name _ _) _ _); walk_at "n")
  | ((with_reducible show WE _ _ (Expr.Call _ _ _ _) _ _); walk_at "c")
  | ((with_reducible show WE _ _ (Expr.BinOp _ _ _ _) _ _); first | refine we_add ?_ | refine we_sub ?_ | refine we_mul ?_ | refine we_mod ?_ | refine we_div ?_ | refine we_pow ?_)
  | ((with_reducible show WE _ _ (Expr.UnaryOp _ _ _) _ _); first | refine we_not ?_ | refine we_neg ?_)
  | ((with_reducible show WE _ _ (Expr.BoolOp _ _ _) _ _); first | refine we_one ?_ | refine we_and ?_ | refine we_or ?_)
  | ((with_reducible show WE _ _ (Expr.Compare _ _ _ _) _ _); first | refine we_lt ?_ | refine we_le ?_ | refine we_gt ?_ | refine we_ge ?_ | refine we_eq (Room.units (by assumption)) ?_ | refine we_ne (Room.units (by assumption)) ?_ | refine we_is ?_ | refine we_isN ?_ | refine we_in (units65 (by assumption)) rfl ?_ | refine we_notIn (units65 (by assumption)) rfl ?_ | refine we_lele rfl ?_)
  | ((with_reducible show WE _ _ (Expr.IfExp _ _ _ _) _ _); refine we_ifx ?_)
  | ((with_reducible show WE _ _ (Expr.Subscript _ _ _) _ _); first | refine we_sl ?_ | refine we_ix ix_seq d_ix (fun _ _ => rfl) ?_)
  | ((with_reducible show WE _ _ (Expr.List _ _) _ _); refine we_lst ?_)
  | ((with_reducible show WE _ _ (Expr.Tuple _ _ _) _ _); refine we_tup ?_)
  | ((with_reducible show WO _ _ _ _ _ _); first | refine wo_none ?_ | refine wo_some ?_)
  | ((with_reducible show bName _ _ _ _); refine b_name ?_)
  | ((with_reducible show bTup _ _ _ _); first | refine b_tup2 ?_ | refine b_tup3 ?_ | refine b_tup rfl ?_)
  | ((with_reducible show WA _ _ _ _ _); first | refine wa_nil ?_ | refine wa_star rfl ?_ | refine wa_cons rfl ?_))
local macro_rules | `(tactic| walk_at "t") => `(tactic| first
  | ((with_reducible show WW _ _ _ _ _); first | refine ww_and1 ?_ | refine ww_or1 ?_ | refine ww_and ?_ | refine ww_or ?_)
  | ((with_reducible show WT _ _ (Expr.UnaryOp _ _ _) _ _); refine wt_not ?_)
  | ((with_reducible show WT _ _ (Expr.BoolOp _ _ _) _ _); refine wt_w ?_)
  | ((with_reducible show WT _ _ (Expr.Compare _ _ _ _) _ _); first | refine wt_lt ?_ | refine wt_le ?_ | refine wt_gt ?_ | refine wt_ge ?_ | refine wt_eq (Room.units (by assumption)) ?_ | refine wt_ne (Room.units (by assumption)) ?_ | refine wt_is ?_ | refine wt_isN ?_ | refine wt_in (units65 (by assumption)) rfl ?_ | refine wt_notIn (units65 (by assumption)) rfl ?_ | refine wt_val (fun _ => rfl) ?_)
  | ((with_reducible show WT _ _ _ _ _); refine wt_val (fun _ => rfl) ?_))
local macro_rules | `(tactic| walk_at "set") => `(tactic| first
  | refine ws_set (i := 0) (by assumption) rfl (by walk_at "vis") rfl (Or.inl rfl) ?_ | refine ws_set (i := 1) (by assumption) rfl (by first | exact Or.inl rfl | exact Or.inr rfl) rfl (Or.inl rfl) ?_
  | refine ws_set (i := 2) (by assumption) rfl (by first | exact Or.inl rfl | exact Or.inr rfl) rfl (Or.inl rfl) ?_ | refine ws_set (i := 3) (by assumption) rfl (by first | exact Or.inl rfl | exact Or.inr rfl) rfl (Or.inl rfl) ?_
  | refine ws_set (i := 4) (by assumption) rfl (by first | exact Or.inl rfl | exact Or.inr rfl) rfl (Or.inl rfl) ?_ | refine ws_set (i := 5) (by assumption) rfl (by first | exact Or.inl rfl | exact Or.inr rfl) rfl (Or.inl rfl) ?_
  | refine ws_set (i := 6) (by assumption) rfl (by first | exact Or.inl rfl | exact Or.inr rfl) rfl (Or.inl rfl) ?_ | refine ws_set (i := 7) (by assumption) rfl (by first | exact Or.inl rfl | exact Or.inr rfl) rfl (Or.inl rfl) ?_
  | refine ws_set (i := 8) (by assumption) rfl (by first | exact Or.inl rfl | exact Or.inr rfl) rfl (Or.inl rfl) ?_ | refine ws_set (i := 9) (by assumption) rfl (by first | exact Or.inl rfl | exact Or.inr rfl) rfl (Or.inl rfl) ?_
  | refine ws_set (i := 10) (by assumption) rfl (by first | exact Or.inl rfl | exact Or.inr rfl) rfl (Or.inl rfl) ?_ | refine ws_set (i := 11) (by assumption) rfl (by first | exact Or.inl rfl | exact Or.inr rfl) rfl (Or.inl rfl) ?_
  | refine ws_set (i := 12) (by assumption) rfl (by first | exact Or.inl rfl | exact Or.inr rfl) rfl (Or.inl rfl) ?_ | refine ws_set (i := 13) (by assumption) rfl (by first | exact Or.inl rfl | exact Or.inr rfl) rfl (Or.inl rfl) ?_
  | refine ws_set (i := 14) (by assumption) rfl (by first | exact Or.inl rfl | exact Or.inr rfl) rfl (Or.inl rfl) ?_
  | refine ws_set (i := 15) (by assumption) rfl (by first | exact Or.inl rfl | exact Or.inr rfl) rfl (Or.inl rfl) ?_
  | refine ws_set (i := 16) (by assumption) rfl (by first | exact Or.inl rfl | exact Or.inr rfl) rfl (Or.inl rfl) ?_
  | refine ws_set (i := 17) (by assumption) rfl (by first | exact Or.inl rfl | exact Or.inr rfl) rfl (Or.inl rfl) ?_)
local macro_rules | `(tactic| walk_at "s") => `(tactic| first
  | ((with_reducible show WSs _ _ _ _ _); first | refine wss_cons ?_ | refine wss_nil ?_)
  | ((with_reducible show WS _ _ (Stmt.Return _ _) _ _); refine ws_ret ?_)
  | ((with_reducible show WS _ _ (Stmt.If _ _ _ _) _ _); refine ws_if ?_)
  | ((with_reducible show WS _ _ (Stmt.Assign [Expr.Name _ _] _ _) _ _); (fail_if_success (with_reducible show WS _ _ (Stmt.Assign [Expr.Name _ _] (Expr.List [] _) _) _ _)); walk_at "set"))
local macro_rules | `(tactic| walk_at "z") => `(tactic| first | decide | omega | (simp only [List.length_map, List.length_append, List.length_cons, List.length_nil, List.length_replicate]; omega))
local macro_rules | `(tactic| walk_at "p") => `(tactic| first
  | ((with_reducible show fr _ _ _); first | refine fr_non ?_ | refine fr_bl ?_ | refine fr_int ?_ | refine fr_str ?_ | refine fr_raw ?_ | refine fr_lst ?_ | refine fr_tup ?_ | refine fr_own ?_ | refine fr_dct ?_ | refine fr_ins ?_)
  | ((with_reducible show pAdd _ _ _); first | refine q_addI ?_ | refine q_addL (by walk_at "z") ?_ | refine q_addS (by walk_at "z") ?_)
  | ((with_reducible show pSub _ _ _); refine q_sub ?_)
  | ((with_reducible show pMod _ _ _); refine q_mod (by walk_at "z") ?_)
  | ((with_reducible show pMul _ _ _); first | refine q_mulI (by first | (refine Or.inl ⟨?_, ?_⟩ <;> walk_at "z") | (refine Or.inr ⟨?_, ?_⟩ <;> walk_at "z")) ?_ | refine q_mulL ⟨by walk_at "z", by walk_at "z", by walk_at "z"⟩ ?_)
  | ((with_reducible show pDiv _ _ _); refine q_div ⟨by walk_at "z", by walk_at "z"⟩ ?_)
  | ((with_reducible show pPow _ _ _); refine q_pow ⟨by walk_at "z", by walk_at "z", by walk_at "z"⟩ ?_)
  | ((with_reducible show pLt _ _ _); refine q_lt ?_) | ((with_reducible show pLe _ _ _); refine q_le ?_) | ((with_reducible show pGt _ _ _); refine q_gt ?_) | ((with_reducible show pGe _ _ _); refine q_ge ?_)
  | ((with_reducible show pNeg _ _); refine q_neg ?_) | ((with_reducible show pIs _ _ _); refine q_is ?_) | ((with_reducible show pIsN _ _ _); refine q_isN ?_)
  | ((with_reducible show pInt1 _ _); first | refine q_int ?_ | refine q_intB ?_)
  | ((with_reducible show pLen _ _); first | refine q_lenL ?_ | refine q_lenT ?_ | refine q_lenR ?_ | refine q_lenS (by walk_at "z") ?_)
  | ((with_reducible show pMax2 _ _); refine q_max2 ?_) | ((with_reducible show pMin2 _ _); refine q_min2 ?_)
  | ((with_reducible show pList _ _); first | refine q_listL ?_ | refine q_listT ?_)
  | ((with_reducible show pTuple _ _); first | refine q_tupL ?_ | refine q_tupT ?_)
  | ((with_reducible show pEq _ _ _); first | refine q_eqI ?_ | (with_reducible refine eqS_kp ?_) | (with_reducible refine eqS_pk ?_) | (with_reducible refine eqS_kk ?_) | (with_reducible refine eqS_pp ?_) | refine q_eqL ?_ | refine q_eqS (by decide) (by decide) ?_)
  | ((with_reducible show pNe _ _ _); first | refine q_neI ?_ | (with_reducible refine neS_pp ?_) | refine q_neL ?_ | refine q_neS (by decide) (by decide) ?_)
  | ((with_reducible show pIter _ _); first | refine q_iterL ?_ | refine q_iterT ?_)
  | ((with_reducible show pIx _ _ _); first | (with_reducible refine q_ixT atI0 ?_) | (with_reducible refine q_ixT atI1 ?_) | (with_reducible refine q_ixT atI2 ?_) | (with_reducible refine q_ixL atI0 ?_))
  | ((with_reducible show pSl _ _ _ _); refine q_slL ?_)
  | ((with_reducible show pIsi _ _); first | refine q_isiT rfl (by decide) rfl ?_ | refine q_isiF rfl (by decide) rfl ?_ | refine q_isi rfl (by decide) ?_)
  | ((with_reducible show _ ≤ 1000000 ∧ _); refine ⟨by walk_at "z", ?_⟩) | ((with_reducible show _ < 900000 ∧ _); refine ⟨by walk_at "z", ?_⟩))
local macro_rules | `(tactic| walk_at "new") => `(tactic| first
  | refine ws_new (i := 0) (by assumption) rfl (by first | exact Or.inl rfl | exact Or.inr rfl) rfl (Or.inl rfl) ?_
  | refine ws_new (i := 1) (by assumption) rfl (by first | exact Or.inl rfl | exact Or.inr rfl) rfl (Or.inl rfl) ?_
  | refine ws_new (i := 2) (by assumption) rfl (by first | exact Or.inl rfl | exact Or.inr rfl) rfl (Or.inl rfl) ?_
  | refine ws_new (i := 3) (by assumption) rfl (by first | exact Or.inl rfl | exact Or.inr rfl) rfl (Or.inl rfl) ?_
  | refine ws_new (i := 4) (by assumption) rfl (by first | exact Or.inl rfl | exact Or.inr rfl) rfl (Or.inl rfl) ?_
  | refine ws_new (i := 5) (by assumption) rfl (by first | exact Or.inl rfl | exact Or.inr rfl) rfl (Or.inl rfl) ?_
  | refine ws_new (i := 6) (by assumption) rfl (by first | exact Or.inl rfl | exact Or.inr rfl) rfl (Or.inl rfl) ?_
  | refine ws_new (i := 7) (by assumption) rfl (by first | exact Or.inl rfl | exact Or.inr rfl) rfl (Or.inl rfl) ?_
  | refine ws_new (i := 8) (by assumption) rfl (by first | exact Or.inl rfl | exact Or.inr rfl) rfl (Or.inl rfl) ?_
  | refine ws_new (i := 9) (by assumption) rfl (by first | exact Or.inl rfl | exact Or.inr rfl) rfl (Or.inl rfl) ?_
  | refine ws_new (i := 10) (by assumption) rfl (by first | exact Or.inl rfl | exact Or.inr rfl) rfl (Or.inl rfl) ?_
  | refine ws_new (i := 11) (by assumption) rfl (by first | exact Or.inl rfl | exact Or.inr rfl) rfl (Or.inl rfl) ?_
  | refine ws_new (i := 12) (by assumption) rfl (by first | exact Or.inl rfl | exact Or.inr rfl) rfl (Or.inl rfl) ?_
  | refine ws_new (i := 13) (by assumption) rfl (by first | exact Or.inl rfl | exact Or.inr rfl) rfl (Or.inl rfl) ?_
  | refine ws_new (i := 14) (by assumption) rfl (by first | exact Or.inl rfl | exact Or.inr rfl) rfl (Or.inl rfl) ?_
  | refine ws_new (i := 15) (by assumption) rfl (by first | exact Or.inl rfl | exact Or.inr rfl) rfl (Or.inl rfl) ?_)
local macro_rules | `(tactic| walk_at "app") => `(tactic| first
  | refine ws_app (i := 0) rfl (by walk_at "vis") (by decide) (by decide) rfl rfl rfl rfl rfl rfl rfl ?_
  | refine ws_app (i := 1) rfl (by walk_at "vis") (by decide) (by decide) rfl rfl rfl rfl rfl rfl rfl ?_
  | refine ws_app (i := 2) rfl (by walk_at "vis") (by decide) (by decide) rfl rfl rfl rfl rfl rfl rfl ?_
  | refine ws_app (i := 3) rfl (by walk_at "vis") (by decide) (by decide) rfl rfl rfl rfl rfl rfl rfl ?_
  | refine ws_app (i := 4) rfl (by walk_at "vis") (by decide) (by decide) rfl rfl rfl rfl rfl rfl rfl ?_
  | refine ws_app (i := 5) rfl (by walk_at "vis") (by decide) (by decide) rfl rfl rfl rfl rfl rfl rfl ?_
  | refine ws_app (i := 6) rfl (by walk_at "vis") (by decide) (by decide) rfl rfl rfl rfl rfl rfl rfl ?_
  | refine ws_app (i := 7) rfl (by walk_at "vis") (by decide) (by decide) rfl rfl rfl rfl rfl rfl rfl ?_
  | refine ws_app (i := 8) rfl (by walk_at "vis") (by decide) (by decide) rfl rfl rfl rfl rfl rfl rfl ?_
  | refine ws_app (i := 9) rfl (by walk_at "vis") (by decide) (by decide) rfl rfl rfl rfl rfl rfl rfl ?_
  | refine ws_app (i := 10) rfl (by walk_at "vis") (by decide) (by decide) rfl rfl rfl rfl rfl rfl rfl ?_
  | refine ws_app (i := 11) rfl (by walk_at "vis") (by decide) (by decide) rfl rfl rfl rfl rfl rfl rfl ?_
  | refine ws_app (i := 12) rfl (by walk_at "vis") (by decide) (by decide) rfl rfl rfl rfl rfl rfl rfl ?_
  | refine ws_app (i := 13) rfl (by walk_at "vis") (by decide) (by decide) rfl rfl rfl rfl rfl rfl rfl ?_
  | refine ws_app (i := 14) rfl (by walk_at "vis") (by decide) (by decide) rfl rfl rfl rfl rfl rfl rfl ?_
  | refine ws_app (i := 15) rfl (by walk_at "vis") (by decide) (by decide) rfl rfl rfl rfl rfl rfl rfl ?_)
local macro_rules | `(tactic| walk_at "ext") => `(tactic| first
  | refine ws_ext (i := 0) rfl (by walk_at "vis") (by decide) (by decide) rfl rfl rfl rfl rfl rfl rfl ?_
  | refine ws_ext (i := 1) rfl (by walk_at "vis") (by decide) (by decide) rfl rfl rfl rfl rfl rfl rfl ?_
  | refine ws_ext (i := 2) rfl (by walk_at "vis") (by decide) (by decide) rfl rfl rfl rfl rfl rfl rfl ?_
  | refine ws_ext (i := 3) rfl (by walk_at "vis") (by decide) (by decide) rfl rfl rfl rfl rfl rfl rfl ?_
  | refine ws_ext (i := 4) rfl (by walk_at "vis") (by decide) (by decide) rfl rfl rfl rfl rfl rfl rfl ?_
  | refine ws_ext (i := 5) rfl (by walk_at "vis") (by decide) (by decide) rfl rfl rfl rfl rfl rfl rfl ?_
  | refine ws_ext (i := 6) rfl (by walk_at "vis") (by decide) (by decide) rfl rfl rfl rfl rfl rfl rfl ?_
  | refine ws_ext (i := 7) rfl (by walk_at "vis") (by decide) (by decide) rfl rfl rfl rfl rfl rfl rfl ?_
  | refine ws_ext (i := 8) rfl (by walk_at "vis") (by decide) (by decide) rfl rfl rfl rfl rfl rfl rfl ?_
  | refine ws_ext (i := 9) rfl (by walk_at "vis") (by decide) (by decide) rfl rfl rfl rfl rfl rfl rfl ?_
  | refine ws_ext (i := 10) rfl (by walk_at "vis") (by decide) (by decide) rfl rfl rfl rfl rfl rfl rfl ?_
  | refine ws_ext (i := 11) rfl (by walk_at "vis") (by decide) (by decide) rfl rfl rfl rfl rfl rfl rfl ?_
  | refine ws_ext (i := 12) rfl (by walk_at "vis") (by decide) (by decide) rfl rfl rfl rfl rfl rfl rfl ?_
  | refine ws_ext (i := 13) rfl (by walk_at "vis") (by decide) (by decide) rfl rfl rfl rfl rfl rfl rfl ?_
  | refine ws_ext (i := 14) rfl (by walk_at "vis") (by decide) (by decide) rfl rfl rfl rfl rfl rfl rfl ?_
  | refine ws_ext (i := 15) rfl (by walk_at "vis") (by decide) (by decide) rfl rfl rfl rfl rfl rfl rfl ?_)
local macro_rules | `(tactic| walk_at "ins0") => `(tactic| first
  | refine ws_ins0 (i := 0) rfl (by walk_at "vis") (by decide) (by decide) rfl rfl rfl rfl rfl rfl rfl ?_
  | refine ws_ins0 (i := 1) rfl (by walk_at "vis") (by decide) (by decide) rfl rfl rfl rfl rfl rfl rfl ?_
  | refine ws_ins0 (i := 2) rfl (by walk_at "vis") (by decide) (by decide) rfl rfl rfl rfl rfl rfl rfl ?_
  | refine ws_ins0 (i := 3) rfl (by walk_at "vis") (by decide) (by decide) rfl rfl rfl rfl rfl rfl rfl ?_
  | refine ws_ins0 (i := 4) rfl (by walk_at "vis") (by decide) (by decide) rfl rfl rfl rfl rfl rfl rfl ?_
  | refine ws_ins0 (i := 5) rfl (by walk_at "vis") (by decide) (by decide) rfl rfl rfl rfl rfl rfl rfl ?_
  | refine ws_ins0 (i := 6) rfl (by walk_at "vis") (by decide) (by decide) rfl rfl rfl rfl rfl rfl rfl ?_
  | refine ws_ins0 (i := 7) rfl (by walk_at "vis") (by decide) (by decide) rfl rfl rfl rfl rfl rfl rfl ?_
  | refine ws_ins0 (i := 8) rfl (by walk_at "vis") (by decide) (by decide) rfl rfl rfl rfl rfl rfl rfl ?_
  | refine ws_ins0 (i := 9) rfl (by walk_at "vis") (by decide) (by decide) rfl rfl rfl rfl rfl rfl rfl ?_
  | refine ws_ins0 (i := 10) rfl (by walk_at "vis") (by decide) (by decide) rfl rfl rfl rfl rfl rfl rfl ?_
  | refine ws_ins0 (i := 11) rfl (by walk_at "vis") (by decide) (by decide) rfl rfl rfl rfl rfl rfl rfl ?_
  | refine ws_ins0 (i := 12) rfl (by walk_at "vis") (by decide) (by decide) rfl rfl rfl rfl rfl rfl rfl ?_
  | refine ws_ins0 (i := 13) rfl (by walk_at "vis") (by decide) (by decide) rfl rfl rfl rfl rfl rfl rfl ?_
  | refine ws_ins0 (i := 14) rfl (by walk_at "vis") (by decide) (by decide) rfl rfl rfl rfl rfl rfl rfl ?_
  | refine ws_ins0 (i := 15) rfl (by walk_at "vis") (by decide) (by decide) rfl rfl rfl rfl rfl rfl rfl ?_)
local macro_rules | `(tactic| walk_at "retOwn") => `(tactic| first
  | refine ws_retOwn (i := 0) rfl (by walk_at "vis") (by decide) (by decide) rfl ?_
  | refine ws_retOwn (i := 1) rfl (by walk_at "vis") (by decide) (by decide) rfl ?_
  | refine ws_retOwn (i := 2) rfl (by walk_at "vis") (by decide) (by decide) rfl ?_
  | refine ws_retOwn (i := 3) rfl (by walk_at "vis") (by decide) (by decide) rfl ?_
  | refine ws_retOwn (i := 4) rfl (by walk_at "vis") (by decide) (by decide) rfl ?_
  | refine ws_retOwn (i := 5) rfl (by walk_at "vis") (by decide) (by decide) rfl ?_
  | refine ws_retOwn (i := 6) rfl (by walk_at "vis") (by decide) (by decide) rfl ?_
  | refine ws_retOwn (i := 7) rfl (by walk_at "vis") (by decide) (by decide) rfl ?_
  | refine ws_retOwn (i := 8) rfl (by walk_at "vis") (by decide) (by decide) rfl ?_
  | refine ws_retOwn (i := 9) rfl (by walk_at "vis") (by decide) (by decide) rfl ?_
  | refine ws_retOwn (i := 10) rfl (by walk_at "vis") (by decide) (by decide) rfl ?_
  | refine ws_retOwn (i := 11) rfl (by walk_at "vis") (by decide) (by decide) rfl ?_
  | refine ws_retOwn (i := 12) rfl (by walk_at "vis") (by decide) (by decide) rfl ?_
  | refine ws_retOwn (i := 13) rfl (by walk_at "vis") (by decide) (by decide) rfl ?_
  | refine ws_retOwn (i := 14) rfl (by walk_at "vis") (by decide) (by decide) rfl ?_
  | refine ws_retOwn (i := 15) rfl (by walk_at "vis") (by decide) (by decide) rfl ?_)
local macro_rules | `(tactic| walk_at "ixOwn") => `(tactic| first
  | refine we_ixOwn (i := 0) rfl (by walk_at "vis") (by decide) (by decide) rfl (fun _ _ => rfl) ?_
  | refine we_ixOwn (i := 1) rfl (by walk_at "vis") (by decide) (by decide) rfl (fun _ _ => rfl) ?_
  | refine we_ixOwn (i := 2) rfl (by walk_at "vis") (by decide) (by decide) rfl (fun _ _ => rfl) ?_
  | refine we_ixOwn (i := 3) rfl (by walk_at "vis") (by decide) (by decide) rfl (fun _ _ => rfl) ?_
  | refine we_ixOwn (i := 4) rfl (by walk_at "vis") (by decide) (by decide) rfl (fun _ _ => rfl) ?_
  | refine we_ixOwn (i := 5) rfl (by walk_at "vis") (by decide) (by decide) rfl (fun _ _ => rfl) ?_
  | refine we_ixOwn (i := 6) rfl (by walk_at "vis") (by decide) (by decide) rfl (fun _ _ => rfl) ?_
  | refine we_ixOwn (i := 7) rfl (by walk_at "vis") (by decide) (by decide) rfl (fun _ _ => rfl) ?_
  | refine we_ixOwn (i := 8) rfl (by walk_at "vis") (by decide) (by decide) rfl (fun _ _ => rfl) ?_
  | refine we_ixOwn (i := 9) rfl (by walk_at "vis") (by decide) (by decide) rfl (fun _ _ => rfl) ?_
  | refine we_ixOwn (i := 10) rfl (by walk_at "vis") (by decide) (by decide) rfl (fun _ _ => rfl) ?_
  | refine we_ixOwn (i := 11) rfl (by walk_at "vis") (by decide) (by decide) rfl (fun _ _ => rfl) ?_
  | refine we_ixOwn (i := 12) rfl (by walk_at "vis") (by decide) (by decide) rfl (fun _ _ => rfl) ?_
  | refine we_ixOwn (i := 13) rfl (by walk_at "vis") (by decide) (by decide) rfl (fun _ _ => rfl) ?_
  | refine we_ixOwn (i := 14) rfl (by walk_at "vis") (by decide) (by decide) rfl (fun _ _ => rfl) ?_
  | refine we_ixOwn (i := 15) rfl (by walk_at "vis") (by decide) (by decide) rfl (fun _ _ => rfl) ?_)
local macro_rules | `(tactic| walk_at "go") => `(tactic| repeat (first | walk_at "e" | walk_at "t" | walk_at "s" | walk_at "p" | (with_reducible refine ⟨_, rfl, ?_⟩) | (with_reducible refine ⟨_, Or.inl rfl, ?_⟩) | (with_reducible refine ⟨_, Or.inr rfl, ?_⟩) | (with_reducible refine iteT ?_) | (with_reducible refine iteF ?_) | (with_reducible refine iteNT ?_) | (with_reducible refine iteNF ?_)))
local macro_rules | `(tactic| walk_at "s0") => `(tactic| first
  | ((with_reducible show WSs _ _ _ _ _); first | refine wss_cons ?_ | refine wss_nil ?_)
  | ((with_reducible show WS _ _ (Stmt.Return _ _) _ _); refine ws_ret ?_)
  | ((with_reducible show WS _ _ (Stmt.Assign [Expr.Name _ _] _ _) _ _); (fail_if_success (with_reducible show WS _ _ (Stmt.Assign [Expr.Name _ _] (Expr.List [] _) _) _ _)); walk_at "set"))
local macro_rules | `(tactic| walk_at "go0") => `(tactic| repeat (first | walk_at "e" | walk_at "t" | walk_at "s0" | walk_at "p" | (with_reducible refine ⟨_, rfl, ?_⟩) | (with_reducible refine ⟨_, Or.inl rfl, ?_⟩) | (with_reducible refine ⟨_, Or.inr rfl, ?_⟩) | (with_reducible refine iteT ?_) | (with_reducible refine iteF ?_) | (with_reducible refine iteNT ?_) | (with_reducible refine iteNF ?_)))
open Ch
theorem sc12 : FnScope ["value", "many", "number"] ["value", "many"] (defScope (top 12)) := ⟨rfl, rfl, rfl, by decide +kernel, rfl, by decide +kernel, by decide +kernel⟩
theorem sc13 : FnScope ["value", "many", "row", "one", "other"] ["value", "many"] (defScope (top 13)) := ⟨rfl, rfl, rfl, by decide +kernel, rfl, by decide +kernel, by decide +kernel⟩
theorem sc14 : FnScope ["base", "change", "found", "row"] ["base", "change"] (defScope (top 14)) := ⟨rfl, rfl, rfl, by decide +kernel, rfl, by decide +kernel, by decide +kernel⟩
theorem sc15 : FnScope ["base", "change"] ["base", "change"] (defScope (top 15)) := ⟨rfl, rfl, rfl, by decide +kernel, rfl, by decide +kernel, by decide +kernel⟩
def pIsEd : DSp := fun G ds R => ∃ (e : Ed) (n : Nat), ds = [edD e, .int n] ∧ e.ok n ∧ (∀ xs, e = .put xs → xs.length ≤ 60) ∧ R G (.bl true)
def pAreEd : DSp := fun G ds R => ∃ (es : List Ed) (bs : List Int), ds = [edsD es, .int bs.length] ∧ (∀ e ∈ es, e.ok bs.length) ∧ apart es ∧ (mk bs es).length ≤ 60 ∧ R G (.bl true)
def pNums : DSp := fun G ds R => ∃ (es : List Ed) (bs : List Int), ds = [iL bs, edsD es] ∧ (∀ e ∈ es, e.ok bs.length) ∧ (mk bs es).length ≤ 60 ∧ R G (.own ((mk bs es).map .int))
def pMade : DSp := fun G ds R => ∃ (es : List Ed) (bs : List Int), ds = [iL bs, edsD es] ∧ bs.length ≤ 60 ∧ (∀ e ∈ es, e.ok bs.length) ∧ apart es ∧ (mk bs es).length ≤ 60 ∧ R G (iL (mk bs es))
theorem put_le {bs : List Int} : ∀ {es : List Ed} {xs : List Int}, .put xs ∈ es → xs.length ≤ (mk bs es).length
  | e :: es, xs, h => by
    have em : mk bs (e :: es) = e.nums bs ++ mk bs es := rfl
    rw [em, List.length_append]
    rcases List.mem_cons.mp h with h | h
    · subst h
      rw [Ed.nums]
      omega
    · have := put_le (bs := bs) h
      omega
def edN : Ed → Int
  | .keep _ m => m
  | .put xs => xs.length
theorem tail_eds (es : List Ed) : cutD (es.map edD) (some 1) none = es.tail.map edD := by
  cases es with
  | nil => rfl
  | cons e es => rw [List.map_cons, cutD_tail]; rfl
theorem nums_ok {bs : List Int} : ∀ {es : List Ed}, (∀ e ∈ es, e.ok bs.length) → es.length ≤ (mk bs es).length ∧ (es.map edN).sum = (mk bs es).length
  | [], _ => ⟨Nat.le_refl _, rfl⟩
  | e :: es, h => by
    have ih := nums_ok (bs := bs) (es := es) fun e he => h e (List.mem_cons_of_mem _ he)
    have he := h e List.mem_cons_self
    have em : mk bs (e :: es) = e.nums bs ++ mk bs es := rfl
    rw [em, List.length_append, List.map_cons, List.sum_cons, ih.2, List.length_cons]
    cases e with
    | keep s m =>
      have h1 := he.1
      have h2 := he.2
      rw [Ed.nums, List.length_take, List.length_drop]
      rw [edN]
      omega
    | put xs =>
      have : 0 < xs.length := List.length_pos_iff.mpr he
      rw [Ed.nums]
      rw [edN]
      omega
def isPut : Ed → Bool
  | .put _ => true
  | _ => false
theorem apart_zip : ∀ {es : List Ed}, apart es → ∀ q ∈ es.zip es.tail, (isPut q.1 && isPut q.2) = false
  | [], _, q, hq => nomatch hq
  | [e], _, q, hq => by simp at hq
  | e :: e' :: es, h, q, hq => by
    have ih := apart_zip (es := e' :: es) (apart_tail h)
    rw [List.tail_cons, List.zip_cons_cons] at hq
    rcases List.mem_cons.mp hq with hq | hq
    · subst hq
      cases e with
      | keep => rfl
      | put xs =>
        cases e' with
        | keep => rfl
        | put => exact h.elim
    · exact ih q hq
theorem mk_take {bs : List Int} {es : List Ed} {i : Nat} {e : Ed} (h : es[i]? = some e) : mk bs (es.take (i + 1)) = mk bs (es.take i) ++ e.nums bs := by
  unfold mk
  rw [take_succ_get h, List.map_append, List.flatten_append]
  simp
theorem mk_take_le {bs : List Int} (es : List Ed) (i : Nat) : (mk bs (es.take i)).length ≤ (mk bs es).length := by
  have : mk bs es = mk bs (es.take i) ++ mk bs (es.drop i) := by
    unfold mk
    rw [← List.flatten_append, ← List.map_append, List.take_append_drop]
  rw [this, List.length_append]
  omega
theorem q_sum {ds : List D} {ns : List Int} {Q : D → Prop} (e : ds = ns.map D.int) (q : Q (.int ns.sum)) : pSum [.lst ds] Q := ⟨ns, e, q⟩
section
variable {Pr : Program} {w : World} {K : PySem.W.Frag} {mg : Str → Option Value} {base : Heap}
theorem ok12 {f : Addr} {fd : FuncData} (F : Fun K "is_edit" "is_edit" (top 12) f fd) (b : Bi mg) (c5 : Cal Pr w K mg base 1 "is_integer" pIsInt) (c6 : Cal Pr w K mg base 2 "is_within" pIsWithin) : FnOk Pr w K mg base CX0 3 f fd ["value", "many"] (toSp K pIsEd) := by
  refine def_ok F sc12 (fun G ds R ⟨_, _, e, _⟩ => by rw [e]; rfl) fun cdv A outer s H0 E0 C ds R hr hp => ?_
  obtain ⟨e, n, rfl, he, hx, h⟩ := hp
  have nd := sc12.nd
  cases e with
  | keep s m =>
    have h1 := he.1
    have h2 := he.2
    rw [edD]
    walk_at "go"
    refine iteFd (by simp) ?_
    walk_at "go"
    refine iteTd (by simp) ?_
    walk_at "go"
    refine ⟨_, _, _, rfl, ?_⟩
    walk_at "go"
    refine iteTd (by simp; omega) ?_
    walk_at "go"
    refine ⟨_, _, _, rfl, ?_⟩
    walk_at "go"
    rw [show (decide ((1 : Int) ≤ (m : Int)) && decide ((m : Int) ≤ (n : Int) - (s : Int))) = true by simp; omega]
    exact h
  | put xs =>
    have hl := hx xs rfl
    rw [edD]
    walk_at "go"
    refine iteFd (by simp) ?_
    walk_at "go"
    refine iteFd (by simp) ?_
    walk_at "go"
    refine iteFd (by have : xs ≠ [] := he; simpa using this) ?_
    walk_at "go"
    refine we_lc (own := [("number", 2)]) rfl nd (blkOk_by (N := ["value", "many", "number"]) (sc := defScope (top 12)) (by decide +kernel)) (fun X' ⟨_, _, _, _, _, e⟩ => by subst e; exact pg_name (i := 2) nd rfl (Or.inl rfl)) gb_name (by decide) (fun _ => rfl) (lc_mapN (wi_seq ?_))
    walk_at "go"
    refine ⟨by rw [List.length_map]; omega, fun _ => .bl true, ?_, ?_⟩
    · rintro B d hd X' ⟨_, _, _, _, _, rfl⟩
      obtain ⟨i, _, rfl⟩ := List.mem_map.mp hd
      walk_at "go"
      refine ⟨_, rfl, rfl, ?_⟩
      rw [isI_int]
      exact ⟨rfl, rfl⟩
    · refine ⟨xs.map fun _ => true, by rw [List.map_map, List.map_map]; rfl, ?_⟩
      rw [show (xs.map fun _ => true).all id = true by simp]
      exact h
theorem ok13 {f : Addr} {fd : FuncData} (F : Fun K "are_edits" "are_edits" (top 13) f fd) (b : Bi mg) (c12 : Cal Pr w K mg base 3 "is_edit" pIsEd) (m8 : ∃ t, mg "MOST_CONTENTS" = some (.int 60 t)) : FnOk Pr w K mg base CX0 4 f fd ["value", "many"] (toSp K pAreEd) := by
  refine def_ok F sc13 (fun G ds R ⟨_, _, e, _⟩ => by rw [e]; rfl) fun cdv A outer s H0 E0 C ds R hr hp => ?_
  obtain ⟨es, bs, rfl, hok, hap, hl, h⟩ := hp
  have nd := sc13.nd
  have hn := nums_ok hok
  unfold edsD
  walk_at "go"
  refine we_lc (own := [("row", 2)]) rfl nd (blkOk_by (N := ["value", "many", "row", "one", "other"]) (sc := defScope (top 13)) (by decide +kernel)) (fun X' ⟨_, _, _, _, _, e⟩ => by subst e; exact pg_name (i := 2) nd rfl (Or.inl rfl)) gb_name (by decide) (fun _ => rfl) (lc_mapN (wi_seq ?_))
  walk_at "go"
  refine ⟨by rw [List.length_map]; omega, fun _ => .bl true, ?_, ?_⟩
  · rintro B d hd X' ⟨_, _, _, _, _, rfl⟩
    obtain ⟨e, he, rfl⟩ := List.mem_map.mp hd
    walk_at "go"
    exact ⟨e, bs.length, rfl, hok e he, fun xs ex => by subst ex; have := put_le (bs := bs) he; omega, rfl, rfl⟩
  refine ⟨es.map fun _ => true, by rw [List.map_map, List.map_map]; rfl, ?_⟩
  rw [show (es.map fun _ => true).all id = true by simp]
  walk_at "go"
  refine we_lc (own := [("one", 3), ("other", 4)]) rfl nd (blkOk_by (N := ["value", "many", "row", "one", "other"]) (sc := defScope (top 13)) (by decide +kernel)) (fun X' ⟨_, _, _, _, _, e⟩ => by subst e; exact pg_tup rfl (pgs_cons (pg_name (i := 3) nd rfl (Or.inl rfl)) (pgs_cons (pg_name (i := 4) nd rfl (Or.inl rfl)) pgs_nil))) (gb_tup (is := [3, 4]) rfl) (by decide) (fun _ => rfl) (lc_mapP (wi_zip rfl b.zip rfl rfl ?_))
  walk_at "go"
  rw [tail_eds]
  refine ⟨_, _, rfl, ((es.zip es.tail).map fun q => (edD q.1, edD q.2)), by rw [List.zip_map]; rfl, by rw [List.length_map, List.length_zip]; omega, fun _ _ => .bl false, ?_, ?_⟩
  · rintro B a c hd X' ⟨_, _, _, _, _, rfl⟩
    obtain ⟨⟨q1, q2⟩, hq, e⟩ := List.mem_map.mp hd
    cases e
    have hz := apart_zip hap _ hq
    cases q1 with
    | keep s m =>
      rw [edD]
      walk_at "go"
      exact ⟨rfl, rfl⟩
    | put xs =>
      cases q2 with
      | put ys => cases hz
      | keep s m =>
        rw [edD, edD]
        walk_at "go"
        exact ⟨rfl, rfl⟩
  refine ⟨(es.zip es.tail).map fun _ => false, by rw [List.map_map, List.map_map]; rfl, ?_⟩
  rw [show ((es.zip es.tail).map fun _ => false).any id = false by simp]
  walk_at "go"
  refine we_lc (own := [("row", 2)]) rfl nd (blkOk_by (N := ["value", "many", "row", "one", "other"]) (sc := defScope (top 13)) (by decide +kernel)) (fun X' ⟨_, _, _, _, _, e⟩ => by subst e; exact pg_name (i := 2) nd rfl (Or.inl rfl)) gb_name (by decide) (fun _ => rfl) (lc_mapN (wi_seq ?_))
  walk_at "go"
  refine ⟨by rw [List.length_map]; omega, fun d => match d with | .tup [_, _, m] => m | .tup [_, .tup xs] => .int xs.length | _ => .non, ?_, ?_⟩
  · rintro B d hd X' ⟨_, _, _, _, _, rfl⟩
    obtain ⟨e, he, rfl⟩ := List.mem_map.mp hd
    cases e with
    | keep s m =>
      rw [edD]
      walk_at "go"
      exact ⟨rfl, rfl⟩
    | put xs =>
      rw [edD]
      walk_at "go"
      exact ⟨rfl, rfl⟩
  refine q_sum (ns := es.map edN) ?_ ?_
  · rw [List.map_map, List.map_map]
    refine List.map_congr_left fun e _ => ?_
    cases e with
    | keep s m => rfl
    | put xs =>
      show D.int ((xs.map D.int).length : Nat) = .int xs.length
      rw [List.length_map]
  rw [hn.2]
  walk_at "go"
  rw [show decide ((((mk bs es).length : Nat) : Int) ≤ 60) = true by simp; omega]
  exact h
theorem ok14 {f : Addr} {fd : FuncData} (F : Fun K "numbers_of" "numbers_of" (top 14) f fd) (b : Bi mg) : FnOk Pr w K mg base CX0 1 f fd ["base", "change"] (toSp K pNums) := by
  refine def_ok F sc14 (fun G ds R ⟨_, _, e, _⟩ => by rw [e]; rfl) fun cdv A outer s H0 E0 C ds R hr hp => ?_
  obtain ⟨es, bs, rfl, hok, hl, h⟩ := hp
  have nd := sc14.nd
  refine wss_cons ?_
  walk_at "new"
  walk_at "go"
  refine ws_for PassesOwn.never rfl (pg_name (i := 3) nd rfl (.inl rfl)) gb_name (fun _ => rfl) (wi_seq ?_)
  unfold edsD iL
  walk_at "go"
  refine ⟨fun i ρ' => ∃ v3, ρ' = ⟨C.G, [.sh (.lst (bs.map .int)), .sh (.lst (es.map edD)), .ow ((mk bs (es.take i)).map .int), v3]⟩, ⟨_, rfl⟩, ?_, ?_⟩
  · rintro B i d ρ' hd ⟨v3, rfl⟩
    rw [List.getElem?_map] at hd
    cases he : es[i]? with
    | none => rw [he] at hd; cases hd
    | some e =>
      rw [he] at hd
      cases hd
      have em := mk_take (bs := bs) he
      have ek := hok e (List.mem_of_getElem? he)
      have l1 := mk_take_le (bs := bs) es i
      have l2 := mk_take_le (bs := bs) es (i + 1)
      rw [em, List.length_append] at l2
      refine b_name (wss_cons ?_)
      walk_at "ext"
      cases e with
      | keep s m =>
        rw [Ed.nums] at l2
        rw [edD]
        walk_at "go"
        rw [cutD_mid (by rw [List.length_map]; exact ek.2), ← List.map_drop, ← List.map_take]
        walk_at "go"
        refine ⟨.sh (.tup [.str "keep", .int s, .int m]), ?_⟩
        rw [em, List.map_append]
        rfl
      | put xs =>
        rw [Ed.nums] at l2
        rw [edD]
        walk_at "go"
        refine ⟨.sh (.tup [.str "put", .tup (xs.map .int)]), ?_⟩
        rw [em, List.map_append]
        rfl
  · rintro ρ' ⟨v3, rfl⟩
    refine wss_cons ?_
    walk_at "retOwn"
    rw [List.length_map, List.take_length]
    exact h
theorem ok15 {f : Addr} {fd : FuncData} (F : Fun K "made" "made" (top 15) f fd) (b : Bi mg) (c11 : Cal Pr w K mg base 3 "check_contents" pCheckC) (c13 : Cal Pr w K mg base 4 "are_edits" pAreEd) (c14 : Cal Pr w K mg base 1 "numbers_of" pNums) : FnOk Pr w K mg base CX0 5 f fd ["base", "change"] (toSp K pMade) := by
  refine def_ok F sc15 (fun G ds R ⟨_, _, e, _⟩ => by rw [e]; rfl) fun cdv A outer s H0 E0 C ds R hr hp => ?_
  obtain ⟨es, bs, rfl, hb, hok, hap, hl, h⟩ := hp
  have nd := sc15.nd
  refine wss_cons (ws_expr rfl ?_)
  walk_at "go"
  refine ⟨bs, rfl, hb, ?_⟩
  unfold iL
  walk_at "go"
  rw [List.length_map]
  refine ⟨es, bs, rfl, hok, hap, hl, ?_⟩
  walk_at "go"
  refine ⟨es, bs, rfl, hok, hl, ?_⟩
  walk_at "go"
  exact h
end
end
section
local macro_rules | `(tactic| walk_at "vis") => `(tactic| first | exact Or.inl rfl | exact Or.inr (Or.inl rfl) | exact Or.inr (Or.inr rfl))
local macro_rules | `(tactic| walk_at "v") => `(tactic| first
  | refine we_var (i := 0) rfl (by walk_at "vis") (by decide) (by decide) rfl ?_ | refine we_var (i := 1) rfl (by walk_at "vis") (by decide) (by decide) rfl ?_
  | refine we_var (i := 2) rfl (by walk_at "vis") (by decide) (by decide) rfl ?_ | refine we_var (i := 3) rfl (by walk_at "vis") (by decide) (by decide) rfl ?_
  | refine we_var (i := 4) rfl (by walk_at "vis") (by decide) (by decide) rfl ?_ | refine we_var (i := 5) rfl (by walk_at "vis") (by decide) (by decide) rfl ?_
  | refine we_var (i := 6) rfl (by walk_at "vis") (by decide) (by decide) rfl ?_ | refine we_var (i := 7) rfl (by walk_at "vis") (by decide) (by decide) rfl ?_
  | refine we_var (i := 8) rfl (by walk_at "vis") (by decide) (by decide) rfl ?_ | refine we_var (i := 9) rfl (by walk_at "vis") (by decide) (by decide) rfl ?_
  | refine we_var (i := 10) rfl (by walk_at "vis") (by decide) (by decide) rfl ?_ | refine we_var (i := 11) rfl (by walk_at "vis") (by decide) (by decide) rfl ?_
  | refine we_var (i := 12) rfl (by walk_at "vis") (by decide) (by decide) rfl ?_ | refine we_var (i := 13) rfl (by walk_at "vis") (by decide) (by decide) rfl ?_
  | refine we_var (i := 14) rfl (by walk_at "vis") (by decide) (by decide) rfl ?_ | refine we_var (i := 15) rfl (by walk_at "vis") (by decide) (by decide) rfl ?_ | refine we_var (i := 16) rfl (by walk_at "vis") (by decide) (by decide) rfl ?_ | refine we_var (i := 17) rfl (by walk_at "vis") (by decide) (by decide) rfl ?_)
local macro_rules | `(tactic| walk_at "c") => `(tactic| first
  | refine we_len (by assumption) rfl rfl ?_ | refine we_isi (by assumption) rfl rfl rfl rfl ?_ | refine we_int1 (by assumption) rfl rfl ?_
  | refine we_all rfl (by assumption) rfl rfl ?_ | refine we_any rfl (by assumption) rfl rfl ?_ | refine we_sum rfl (by assumption) rfl rfl ?_
  | refine we_list1 (by assumption) rfl rfl ?_ | refine we_tuple1 (by assumption) rfl rfl ?_ | refine we_min2 rfl (by assumption) rfl rfl rfl rfl ?_ | refine we_max2 rfl (by assumption) rfl rfl rfl rfl ?_
  | refine we_minL rfl (by assumption) rfl rfl ?_ | refine we_maxL rfl (by assumption) rfl rfl ?_
  | refine we_call (by assumption) (Room.mono (by assumption) (by decide)) rfl (by decide) rfl rfl ?_ | refine we_call0 (by assumption) (Room.mono (by assumption) (by decide)) rfl (by decide) ?_)
local macro_rules | `(tactic| walk_at "n") => `(tactic| first
  | walk_at "v"
  | refine we_tyInt (by assumption) rfl ?_ | refine we_tyBool (by assumption) rfl ?_ | refine we_tyStr (by assumption) rfl ?_ | refine we_tyList (by assumption) rfl ?_ | refine we_tyTuple (by assumption) rfl ?_ | refine we_tyDict (by assumption) rfl ?_
  | refine we_gInt rfl (by assumption) (by decide) ?_)
local macro_rules | `(tactic| walk_at "e") => `(tactic| first
  | ((with_reducible show WE _ _ (Expr.Constant _ _ _) _ _); first | refine we_int ?_ | refine we_str ?_ | refine we_bl ?_ | refine we_non ?_)
  | ((with_reducible show WE _ _ (Expr.Name _ _) _ _); walk_at "n")
  | ((with_reducible show WE _ _ (Expr.Call _ _ _ _) _ _); walk_at "c")
  | ((with_reducible show WE _ _ (Expr.BinOp _ _ _ _) _ _); first | refine we_add ?_ | refine we_sub ?_ | refine we_mul ?_ | refine we_mod ?_ | refine we_div ?_ | refine we_pow ?_)
  | ((with_reducible show WE _ _ (Expr.UnaryOp _ _ _) _ _); first | refine we_not ?_ | refine we_neg ?_)
  | ((with_reducible show WE _ _ (Expr.BoolOp _ _ _) _ _); first | refine we_one ?_ | refine we_and ?_ | refine we_or ?_)
  | ((with_reducible show WE _ _ (Expr.Compare _ _ _ _) _ _); first | refine we_lt ?_ | refine we_le ?_ | refine we_gt ?_ | refine we_ge ?_ | refine we_eq (Room.units (by assumption)) ?_ | refine we_ne (Room.units (by assumption)) ?_ | refine we_is ?_ | refine we_isN ?_ | refine we_in (units65 (by assumption)) rfl ?_ | refine we_notIn (units65 (by assumption)) rfl ?_ | refine we_lele rfl ?_)
  | ((with_reducible show WE _ _ (Expr.IfExp _ _ _ _) _ _); refine we_ifx ?_)
  | ((with_reducible show WE _ _ (Expr.Subscript _ _ _) _ _); first | refine we_sl ?_ | refine we_ix ix_seq d_ix (fun _ _ => rfl) ?_)
  | ((with_reducible show WE _ _ (Expr.List _ _) _ _); refine we_lst ?_)
  | ((with_reducible show WE _ _ (Expr.Tuple _ _ _) _ _); refine we_tup ?_)
  | ((with_reducible show WO _ _ _ _ _ _); first | refine wo_none ?_ | refine wo_some ?_)
  | ((with_reducible show bName _ _ _ _); refine b_name ?_)
  | ((with_reducible show bTup _ _ _ _); first | refine b_tup2 ?_ | refine b_tup3 ?_ | refine b_tup rfl ?_)
  | ((with_reducible show WA _ _ _ _ _); first | refine wa_nil ?_ | refine wa_star rfl ?_ | refine wa_cons rfl ?_))
local macro_rules | `(tactic| walk_at "t") => `(tactic| first
  | ((with_reducible show WW _ _ _ _ _); first | refine ww_and1 ?_ | refine ww_or1 ?_ | refine ww_and ?_ | refine ww_or ?_)
  | ((with_reducible show WT _ _ (Expr.UnaryOp _ _ _) _ _); refine wt_not ?_)
  | ((with_reducible show WT _ _ (Expr.BoolOp _ _ _) _ _); refine wt_w ?_)
  | ((with_reducible show WT _ _ (Expr.Compare _ _ _ _) _ _); first | refine wt_lt ?_ | refine wt_le ?_ | refine wt_gt ?_ | refine wt_ge ?_ | refine wt_eq (Room.units (by assumption)) ?_ | refine wt_ne (Room.units (by assumption)) ?_ | refine wt_is ?_ | refine wt_isN ?_ | refine wt_in (units65 (by assumption)) rfl ?_ | refine wt_notIn (units65 (by assumption)) rfl ?_ | refine wt_val (fun _ => rfl) ?_)
  | ((with_reducible show WT _ _ _ _ _); refine wt_val (fun _ => rfl) ?_))
local macro_rules | `(tactic| walk_at "set") => `(tactic| first
  | refine ws_set (i := 0) (by assumption) rfl (by walk_at "vis") rfl (Or.inl rfl) ?_ | refine ws_set (i := 1) (by assumption) rfl (by first | exact Or.inl rfl | exact Or.inr rfl) rfl (Or.inl rfl) ?_
  | refine ws_set (i := 2) (by assumption) rfl (by first | exact Or.inl rfl | exact Or.inr rfl) rfl (Or.inl rfl) ?_ | refine ws_set (i := 3) (by assumption) rfl (by first | exact Or.inl rfl | exact Or.inr rfl) rfl (Or.inl rfl) ?_
  | refine ws_set (i := 4) (by assumption) rfl (by first | exact Or.inl rfl | exact Or.inr rfl) rfl (Or.inl rfl) ?_ | refine ws_set (i := 5) (by assumption) rfl (by first | exact Or.inl rfl | exact Or.inr rfl) rfl (Or.inl rfl) ?_
  | refine ws_set (i := 6) (by assumption) rfl (by first | exact Or.inl rfl | exact Or.inr rfl) rfl (Or.inl rfl) ?_ | refine ws_set (i := 7) (by assumption) rfl (by first | exact Or.inl rfl | exact Or.inr rfl) rfl (Or.inl rfl) ?_
  | refine ws_set (i := 8) (by assumption) rfl (by first | exact Or.inl rfl | exact Or.inr rfl) rfl (Or.inl rfl) ?_ | refine ws_set (i := 9) (by assumption) rfl (by first | exact Or.inl rfl | exact Or.inr rfl) rfl (Or.inl rfl) ?_
  | refine ws_set (i := 10) (by assumption) rfl (by first | exact Or.inl rfl | exact Or.inr rfl) rfl (Or.inl rfl) ?_ | refine ws_set (i := 11) (by assumption) rfl (by first | exact Or.inl rfl | exact Or.inr rfl) rfl (Or.inl rfl) ?_
  | refine ws_set (i := 12) (by assumption) rfl (by first | exact Or.inl rfl | exact Or.inr rfl) rfl (Or.inl rfl) ?_ | refine ws_set (i := 13) (by assumption) rfl (by first | exact Or.inl rfl | exact Or.inr rfl) rfl (Or.inl rfl) ?_
  | refine ws_set (i := 14) (by assumption) rfl (by first | exact Or.inl rfl | exact Or.inr rfl) rfl (Or.inl rfl) ?_
  | refine ws_set (i := 15) (by assumption) rfl (by first | exact Or.inl rfl | exact Or.inr rfl) rfl (Or.inl rfl) ?_
  | refine ws_set (i := 16) (by assumption) rfl (by first | exact Or.inl rfl | exact Or.inr rfl) rfl (Or.inl rfl) ?_
  | refine ws_set (i := 17) (by assumption) rfl (by first | exact Or.inl rfl | exact Or.inr rfl) rfl (Or.inl rfl) ?_)
local macro_rules | `(tactic| walk_at "s") => `(tactic| first
  | ((with_reducible show WSs _ _ _ _ _); first | refine wss_cons ?_ | refine wss_nil ?_)
  | ((with_reducible show WS _ _ (Stmt.Return _ _) _ _); refine ws_ret ?_)
  | ((with_reducible show WS _ _ (Stmt.If _ _ _ _) _ _); refine ws_if ?_)
  | ((with_reducible show WS _ _ (Stmt.Assign [Expr.Name _ _] _ _) _ _); (fail_if_success (with_reducible show WS _ _ (Stmt.Assign [Expr.Name _ _] (Expr.List [] _) _) _ _)); walk_at "set"))
local macro_rules | `(tactic| walk_at "z") => `(tactic| first | decide | omega | (simp only [List.length_map, List.length_append, List.length_cons, List.length_nil, List.length_replicate]; omega))
local macro_rules | `(tactic| walk_at "p") => `(tactic| first
  | ((with_reducible show fr _ _ _); first | refine fr_non ?_ | refine fr_bl ?_ | refine fr_int ?_ | refine fr_str ?_ | refine fr_raw ?_ | refine fr_lst ?_ | refine fr_tup ?_ | refine fr_own ?_ | refine fr_dct ?_ | refine fr_ins ?_)
  | ((with_reducible show pAdd _ _ _); first | refine q_addI ?_ | refine q_addL (by walk_at "z") ?_ | refine q_addS (by walk_at "z") ?_)
  | ((with_reducible show pSub _ _ _); refine q_sub ?_)
  | ((with_reducible show pMod _ _ _); refine q_mod (by walk_at "z") ?_)
  | ((with_reducible show pMul _ _ _); first | refine q_mulI (by first | (refine Or.inl ⟨?_, ?_⟩ <;> walk_at "z") | (refine Or.inr ⟨?_, ?_⟩ <;> walk_at "z")) ?_ | refine q_mulL ⟨by walk_at "z", by walk_at "z", by walk_at "z"⟩ ?_)
  | ((with_reducible show pDiv _ _ _); refine q_div ⟨by walk_at "z", by walk_at "z"⟩ ?_)
  | ((with_reducible show pPow _ _ _); refine q_pow ⟨by walk_at "z", by walk_at "z", by walk_at "z"⟩ ?_)
  | ((with_reducible show pLt _ _ _); refine q_lt ?_) | ((with_reducible show pLe _ _ _); refine q_le ?_) | ((with_reducible show pGt _ _ _); refine q_gt ?_) | ((with_reducible show pGe _ _ _); refine q_ge ?_)
  | ((with_reducible show pNeg _ _); refine q_neg ?_) | ((with_reducible show pIs _ _ _); refine q_is ?_) | ((with_reducible show pIsN _ _ _); refine q_isN ?_)
  | ((with_reducible show pInt1 _ _); first | refine q_int ?_ | refine q_intB ?_)
  | ((with_reducible show pLen _ _); first | refine q_lenL ?_ | refine q_lenT ?_ | refine q_lenR ?_ | refine q_lenS (by walk_at "z") ?_)
  | ((with_reducible show pMax2 _ _); refine q_max2 ?_) | ((with_reducible show pMin2 _ _); refine q_min2 ?_)
  | ((with_reducible show pList _ _); first | refine q_listL ?_ | refine q_listT ?_)
  | ((with_reducible show pTuple _ _); first | refine q_tupL ?_ | refine q_tupT ?_)
  | ((with_reducible show pEq _ _ _); first | refine q_eqI ?_ | (with_reducible refine eqS_kp ?_) | (with_reducible refine eqS_pk ?_) | (with_reducible refine eqS_kk ?_) | (with_reducible refine eqS_pp ?_) | refine q_eqL ?_ | refine q_eqS (by decide) (by decide) ?_)
  | ((with_reducible show pNe _ _ _); first | refine q_neI ?_ | (with_reducible refine neS_pp ?_) | refine q_neL ?_ | refine q_neS (by decide) (by decide) ?_)
  | ((with_reducible show pIter _ _); first | refine q_iterL ?_ | refine q_iterT ?_)
  | ((with_reducible show pIx _ _ _); first | (with_reducible refine q_ixT atI0 ?_) | (with_reducible refine q_ixT atI1 ?_) | (with_reducible refine q_ixT atI2 ?_) | (with_reducible refine q_ixL atI0 ?_))
  | ((with_reducible show pSl _ _ _ _); refine q_slL ?_)
  | ((with_reducible show pIsi _ _); refine q_isi rfl (by decide) ?_)
  | ((with_reducible show _ ≤ 1000000 ∧ _); refine ⟨by walk_at "z", ?_⟩) | ((with_reducible show _ < 900000 ∧ _); refine ⟨by walk_at "z", ?_⟩))
local macro_rules | `(tactic| walk_at "new") => `(tactic| first
  | refine ws_new (i := 0) (by assumption) rfl (by first | exact Or.inl rfl | exact Or.inr rfl) rfl (Or.inl rfl) ?_
  | refine ws_new (i := 1) (by assumption) rfl (by first | exact Or.inl rfl | exact Or.inr rfl) rfl (Or.inl rfl) ?_
  | refine ws_new (i := 2) (by assumption) rfl (by first | exact Or.inl rfl | exact Or.inr rfl) rfl (Or.inl rfl) ?_
  | refine ws_new (i := 3) (by assumption) rfl (by first | exact Or.inl rfl | exact Or.inr rfl) rfl (Or.inl rfl) ?_
  | refine ws_new (i := 4) (by assumption) rfl (by first | exact Or.inl rfl | exact Or.inr rfl) rfl (Or.inl rfl) ?_
  | refine ws_new (i := 5) (by assumption) rfl (by first | exact Or.inl rfl | exact Or.inr rfl) rfl (Or.inl rfl) ?_
  | refine ws_new (i := 6) (by assumption) rfl (by first | exact Or.inl rfl | exact Or.inr rfl) rfl (Or.inl rfl) ?_
  | refine ws_new (i := 7) (by assumption) rfl (by first | exact Or.inl rfl | exact Or.inr rfl) rfl (Or.inl rfl) ?_
  | refine ws_new (i := 8) (by assumption) rfl (by first | exact Or.inl rfl | exact Or.inr rfl) rfl (Or.inl rfl) ?_
  | refine ws_new (i := 9) (by assumption) rfl (by first | exact Or.inl rfl | exact Or.inr rfl) rfl (Or.inl rfl) ?_
  | refine ws_new (i := 10) (by assumption) rfl (by first | exact Or.inl rfl | exact Or.inr rfl) rfl (Or.inl rfl) ?_
  | refine ws_new (i := 11) (by assumption) rfl (by first | exact Or.inl rfl | exact Or.inr rfl) rfl (Or.inl rfl) ?_
  | refine ws_new (i := 12) (by assumption) rfl (by first | exact Or.inl rfl | exact Or.inr rfl) rfl (Or.inl rfl) ?_
  | refine ws_new (i := 13) (by assumption) rfl (by first | exact Or.inl rfl | exact Or.inr rfl) rfl (Or.inl rfl) ?_
  | refine ws_new (i := 14) (by assumption) rfl (by first | exact Or.inl rfl | exact Or.inr rfl) rfl (Or.inl rfl) ?_
  | refine ws_new (i := 15) (by assumption) rfl (by first | exact Or.inl rfl | exact Or.inr rfl) rfl (Or.inl rfl) ?_)
local macro_rules | `(tactic| walk_at "app") => `(tactic| first
  | refine ws_app (i := 0) rfl (by walk_at "vis") (by decide) (by decide) rfl rfl rfl rfl rfl rfl rfl ?_
  | refine ws_app (i := 1) rfl (by walk_at "vis") (by decide) (by decide) rfl rfl rfl rfl rfl rfl rfl ?_
  | refine ws_app (i := 2) rfl (by walk_at "vis") (by decide) (by decide) rfl rfl rfl rfl rfl rfl rfl ?_
  | refine ws_app (i := 3) rfl (by walk_at "vis") (by decide) (by decide) rfl rfl rfl rfl rfl rfl rfl ?_
  | refine ws_app (i := 4) rfl (by walk_at "vis") (by decide) (by decide) rfl rfl rfl rfl rfl rfl rfl ?_
  | refine ws_app (i := 5) rfl (by walk_at "vis") (by decide) (by decide) rfl rfl rfl rfl rfl rfl rfl ?_
  | refine ws_app (i := 6) rfl (by walk_at "vis") (by decide) (by decide) rfl rfl rfl rfl rfl rfl rfl ?_
  | refine ws_app (i := 7) rfl (by walk_at "vis") (by decide) (by decide) rfl rfl rfl rfl rfl rfl rfl ?_
  | refine ws_app (i := 8) rfl (by walk_at "vis") (by decide) (by decide) rfl rfl rfl rfl rfl rfl rfl ?_
  | refine ws_app (i := 9) rfl (by walk_at "vis") (by decide) (by decide) rfl rfl rfl rfl rfl rfl rfl ?_
  | refine ws_app (i := 10) rfl (by walk_at "vis") (by decide) (by decide) rfl rfl rfl rfl rfl rfl rfl ?_
  | refine ws_app (i := 11) rfl (by walk_at "vis") (by decide) (by decide) rfl rfl rfl rfl rfl rfl rfl ?_
  | refine ws_app (i := 12) rfl (by walk_at "vis") (by decide) (by decide) rfl rfl rfl rfl rfl rfl rfl ?_
  | refine ws_app (i := 13) rfl (by walk_at "vis") (by decide) (by decide) rfl rfl rfl rfl rfl rfl rfl ?_
  | refine ws_app (i := 14) rfl (by walk_at "vis") (by decide) (by decide) rfl rfl rfl rfl rfl rfl rfl ?_
  | refine ws_app (i := 15) rfl (by walk_at "vis") (by decide) (by decide) rfl rfl rfl rfl rfl rfl rfl ?_)
local macro_rules | `(tactic| walk_at "ext") => `(tactic| first
  | refine ws_ext (i := 0) rfl (by walk_at "vis") (by decide) (by decide) rfl rfl rfl rfl rfl rfl rfl ?_
  | refine ws_ext (i := 1) rfl (by walk_at "vis") (by decide) (by decide) rfl rfl rfl rfl rfl rfl rfl ?_
  | refine ws_ext (i := 2) rfl (by walk_at "vis") (by decide) (by decide) rfl rfl rfl rfl rfl rfl rfl ?_
  | refine ws_ext (i := 3) rfl (by walk_at "vis") (by decide) (by decide) rfl rfl rfl rfl rfl rfl rfl ?_
  | refine ws_ext (i := 4) rfl (by walk_at "vis") (by decide) (by decide) rfl rfl rfl rfl rfl rfl rfl ?_
  | refine ws_ext (i := 5) rfl (by walk_at "vis") (by decide) (by decide) rfl rfl rfl rfl rfl rfl rfl ?_
  | refine ws_ext (i := 6) rfl (by walk_at "vis") (by decide) (by decide) rfl rfl rfl rfl rfl rfl rfl ?_
  | refine ws_ext (i := 7) rfl (by walk_at "vis") (by decide) (by decide) rfl rfl rfl rfl rfl rfl rfl ?_
  | refine ws_ext (i := 8) rfl (by walk_at "vis") (by decide) (by decide) rfl rfl rfl rfl rfl rfl rfl ?_
  | refine ws_ext (i := 9) rfl (by walk_at "vis") (by decide) (by decide) rfl rfl rfl rfl rfl rfl rfl ?_
  | refine ws_ext (i := 10) rfl (by walk_at "vis") (by decide) (by decide) rfl rfl rfl rfl rfl rfl rfl ?_
  | refine ws_ext (i := 11) rfl (by walk_at "vis") (by decide) (by decide) rfl rfl rfl rfl rfl rfl rfl ?_
  | refine ws_ext (i := 12) rfl (by walk_at "vis") (by decide) (by decide) rfl rfl rfl rfl rfl rfl rfl ?_
  | refine ws_ext (i := 13) rfl (by walk_at "vis") (by decide) (by decide) rfl rfl rfl rfl rfl rfl rfl ?_
  | refine ws_ext (i := 14) rfl (by walk_at "vis") (by decide) (by decide) rfl rfl rfl rfl rfl rfl rfl ?_
  | refine ws_ext (i := 15) rfl (by walk_at "vis") (by decide) (by decide) rfl rfl rfl rfl rfl rfl rfl ?_)
local macro_rules | `(tactic| walk_at "ins0") => `(tactic| first
  | refine ws_ins0 (i := 0) rfl (by walk_at "vis") (by decide) (by decide) rfl rfl rfl rfl rfl rfl rfl ?_
  | refine ws_ins0 (i := 1) rfl (by walk_at "vis") (by decide) (by decide) rfl rfl rfl rfl rfl rfl rfl ?_
  | refine ws_ins0 (i := 2) rfl (by walk_at "vis") (by decide) (by decide) rfl rfl rfl rfl rfl rfl rfl ?_
  | refine ws_ins0 (i := 3) rfl (by walk_at "vis") (by decide) (by decide) rfl rfl rfl rfl rfl rfl rfl ?_
  | refine ws_ins0 (i := 4) rfl (by walk_at "vis") (by decide) (by decide) rfl rfl rfl rfl rfl rfl rfl ?_
  | refine ws_ins0 (i := 5) rfl (by walk_at "vis") (by decide) (by decide) rfl rfl rfl rfl rfl rfl rfl ?_
  | refine ws_ins0 (i := 6) rfl (by walk_at "vis") (by decide) (by decide) rfl rfl rfl rfl rfl rfl rfl ?_
  | refine ws_ins0 (i := 7) rfl (by walk_at "vis") (by decide) (by decide) rfl rfl rfl rfl rfl rfl rfl ?_
  | refine ws_ins0 (i := 8) rfl (by walk_at "vis") (by decide) (by decide) rfl rfl rfl rfl rfl rfl rfl ?_
  | refine ws_ins0 (i := 9) rfl (by walk_at "vis") (by decide) (by decide) rfl rfl rfl rfl rfl rfl rfl ?_
  | refine ws_ins0 (i := 10) rfl (by walk_at "vis") (by decide) (by decide) rfl rfl rfl rfl rfl rfl rfl ?_
  | refine ws_ins0 (i := 11) rfl (by walk_at "vis") (by decide) (by decide) rfl rfl rfl rfl rfl rfl rfl ?_
  | refine ws_ins0 (i := 12) rfl (by walk_at "vis") (by decide) (by decide) rfl rfl rfl rfl rfl rfl rfl ?_
  | refine ws_ins0 (i := 13) rfl (by walk_at "vis") (by decide) (by decide) rfl rfl rfl rfl rfl rfl rfl ?_
  | refine ws_ins0 (i := 14) rfl (by walk_at "vis") (by decide) (by decide) rfl rfl rfl rfl rfl rfl rfl ?_
  | refine ws_ins0 (i := 15) rfl (by walk_at "vis") (by decide) (by decide) rfl rfl rfl rfl rfl rfl rfl ?_)
local macro_rules | `(tactic| walk_at "retOwn") => `(tactic| first
  | refine ws_retOwn (i := 0) rfl (by walk_at "vis") (by decide) (by decide) rfl ?_
  | refine ws_retOwn (i := 1) rfl (by walk_at "vis") (by decide) (by decide) rfl ?_
  | refine ws_retOwn (i := 2) rfl (by walk_at "vis") (by decide) (by decide) rfl ?_
  | refine ws_retOwn (i := 3) rfl (by walk_at "vis") (by decide) (by decide) rfl ?_
  | refine ws_retOwn (i := 4) rfl (by walk_at "vis") (by decide) (by decide) rfl ?_
  | refine ws_retOwn (i := 5) rfl (by walk_at "vis") (by decide) (by decide) rfl ?_
  | refine ws_retOwn (i := 6) rfl (by walk_at "vis") (by decide) (by decide) rfl ?_
  | refine ws_retOwn (i := 7) rfl (by walk_at "vis") (by decide) (by decide) rfl ?_
  | refine ws_retOwn (i := 8) rfl (by walk_at "vis") (by decide) (by decide) rfl ?_
  | refine ws_retOwn (i := 9) rfl (by walk_at "vis") (by decide) (by decide) rfl ?_
  | refine ws_retOwn (i := 10) rfl (by walk_at "vis") (by decide) (by decide) rfl ?_
  | refine ws_retOwn (i := 11) rfl (by walk_at "vis") (by decide) (by decide) rfl ?_
  | refine ws_retOwn (i := 12) rfl (by walk_at "vis") (by decide) (by decide) rfl ?_
  | refine ws_retOwn (i := 13) rfl (by walk_at "vis") (by decide) (by decide) rfl ?_
  | refine ws_retOwn (i := 14) rfl (by walk_at "vis") (by decide) (by decide) rfl ?_
  | refine ws_retOwn (i := 15) rfl (by walk_at "vis") (by decide) (by decide) rfl ?_)
local macro_rules | `(tactic| walk_at "ixOwn") => `(tactic| first
  | refine we_ixOwn (i := 0) rfl (by walk_at "vis") (by decide) (by decide) rfl (fun _ _ => rfl) ?_
  | refine we_ixOwn (i := 1) rfl (by walk_at "vis") (by decide) (by decide) rfl (fun _ _ => rfl) ?_
  | refine we_ixOwn (i := 2) rfl (by walk_at "vis") (by decide) (by decide) rfl (fun _ _ => rfl) ?_
  | refine we_ixOwn (i := 3) rfl (by walk_at "vis") (by decide) (by decide) rfl (fun _ _ => rfl) ?_
  | refine we_ixOwn (i := 4) rfl (by walk_at "vis") (by decide) (by decide) rfl (fun _ _ => rfl) ?_
  | refine we_ixOwn (i := 5) rfl (by walk_at "vis") (by decide) (by decide) rfl (fun _ _ => rfl) ?_
  | refine we_ixOwn (i := 6) rfl (by walk_at "vis") (by decide) (by decide) rfl (fun _ _ => rfl) ?_
  | refine we_ixOwn (i := 7) rfl (by walk_at "vis") (by decide) (by decide) rfl (fun _ _ => rfl) ?_
  | refine we_ixOwn (i := 8) rfl (by walk_at "vis") (by decide) (by decide) rfl (fun _ _ => rfl) ?_
  | refine we_ixOwn (i := 9) rfl (by walk_at "vis") (by decide) (by decide) rfl (fun _ _ => rfl) ?_
  | refine we_ixOwn (i := 10) rfl (by walk_at "vis") (by decide) (by decide) rfl (fun _ _ => rfl) ?_
  | refine we_ixOwn (i := 11) rfl (by walk_at "vis") (by decide) (by decide) rfl (fun _ _ => rfl) ?_
  | refine we_ixOwn (i := 12) rfl (by walk_at "vis") (by decide) (by decide) rfl (fun _ _ => rfl) ?_
  | refine we_ixOwn (i := 13) rfl (by walk_at "vis") (by decide) (by decide) rfl (fun _ _ => rfl) ?_
  | refine we_ixOwn (i := 14) rfl (by walk_at "vis") (by decide) (by decide) rfl (fun _ _ => rfl) ?_
  | refine we_ixOwn (i := 15) rfl (by walk_at "vis") (by decide) (by decide) rfl (fun _ _ => rfl) ?_)
local macro_rules | `(tactic| walk_at "go") => `(tactic| repeat (first | walk_at "e" | walk_at "t" | walk_at "s" | walk_at "p" | (with_reducible refine ⟨_, rfl, ?_⟩) | (with_reducible refine ⟨_, Or.inl rfl, ?_⟩) | (with_reducible refine ⟨_, Or.inr rfl, ?_⟩) | (with_reducible refine iteT ?_) | (with_reducible refine iteF ?_) | (with_reducible refine iteNT ?_) | (with_reducible refine iteNF ?_)))
local macro_rules | `(tactic| walk_at "s0") => `(tactic| first
  | ((with_reducible show WSs _ _ _ _ _); first | refine wss_cons ?_ | refine wss_nil ?_)
  | ((with_reducible show WS _ _ (Stmt.Return _ _) _ _); refine ws_ret ?_)
  | ((with_reducible show WS _ _ (Stmt.Assign [Expr.Name _ _] _ _) _ _); (fail_if_success (with_reducible show WS _ _ (Stmt.Assign [Expr.Name _ _] (Expr.List [] _) _) _ _)); walk_at "set"))
local macro_rules | `(tactic| walk_at "go0") => `(tactic| repeat (first | walk_at "e" | walk_at "t" | walk_at "s0" | walk_at "p" | (with_reducible refine ⟨_, rfl, ?_⟩) | (with_reducible refine ⟨_, Or.inl rfl, ?_⟩) | (with_reducible refine ⟨_, Or.inr rfl, ?_⟩) | (with_reducible refine iteT ?_) | (with_reducible refine iteF ?_) | (with_reducible refine iteNT ?_) | (with_reducible refine iteNF ?_)))
open Ch
theorem sc18 : FnScope ["number", "rows"] ["number", "rows"] (defScope (top 18)) := ⟨rfl, rfl, rfl, by decide +kernel, rfl, by decide +kernel, by decide +kernel⟩
theorem sc19 : FnScope ["rows"] ["rows"] (defScope (top 19)) := ⟨rfl, rfl, rfl, by decide +kernel, rfl, by decide +kernel, by decide +kernel⟩
theorem sc17 : FnScope ["base", "target", "fresh", "within", "at", "start", "many", "number", "put_cost", "put_rows", "more", "new", "inner", "cost", "rows", "kept"] ["base", "target"] (defScope (top 17)) := ⟨rfl, rfl, rfl, by decide +kernel, rfl, by decide +kernel, by decide +kernel⟩
theorem sc20 : FnScope ["base", "target"] ["base", "target"] (defScope (top 20)) := ⟨rfl, rfl, rfl, by decide +kernel, rfl, by decide +kernel, by decide +kernel⟩
theorem sc21 : FnScope ["base", "target"] ["base", "target"] (defScope (top 21)) := ⟨rfl, rfl, rfl, by decide +kernel, rfl, by decide +kernel, by decide +kernel⟩
def crD (c : CR) : D := .tup [.int c.1, edsD c.2]
theorem flat_len {base : List Int} {n : Nat} : ∀ es : List Ed, (∀ e ∈ es, e.ok base.length) → es.length ≤ (mk base es).length ∧ ∀ xs, .put xs ∈ es → xs.length ≤ (mk base es).length
  | [], _ => ⟨Nat.le_refl _, fun _ z => nomatch z⟩
  | e :: es, h => by
    have ih := flat_len (n := n) es fun e he => h e (List.mem_cons_of_mem _ he)
    have he := h e List.mem_cons_self
    have h1 : 1 ≤ (e.nums base).length := by
      cases e with
      | keep s m =>
        rw [Ed.nums, List.length_take, List.length_drop]
        have := he.1
        have := he.2
        omega
      | put xs => exact List.length_pos_iff.mpr he
    have em : mk base (e :: es) = e.nums base ++ mk base es := rfl
    rw [em, List.length_append, List.length_cons]
    refine ⟨by omega, fun xs hx => ?_⟩
    rcases List.mem_cons.mp hx with hx | hx
    · subst hx
      rw [Ed.nums]
      omega
    · have := ih.2 xs hx
      omega
theorem good_len {base t : List Int} {es : List Ed} (g : Good base t es) : es.length ≤ t.length ∧ ∀ xs r, es = .put xs :: r → xs.length ≤ t.length := by
  have z := flat_len (n := 0) es g.ok
  rw [g.made] at z
  exact ⟨z.1, fun xs r e => z.2 xs (by rw [e]; exact List.mem_cons_self)⟩
theorem drop_one {tg : List Int} {n i : Nat} (hn : tg.length = n) (h : i < n) : tg.drop (n - 1 - i) = tg[n - 1 - i]'(by omega) :: tg.drop (n - i) := by
  rw [List.drop_eq_getElem_cons (by omega)]
  congr 2
  omega
theorem goF {bs t : List Int} {k : Nat} (h : k ≤ t.length) : atI ((go bs t).1.map crD) (k : Int) = some (crD (F bs (t.drop k))) := atI_map crD (atI_nat (go_at bs t k h))
theorem goW {bs t : List Int} : atI ((go bs t).2.map crD) 0 = some (crD (W bs t)) := atI_map crD (atI_nat (j := 0) (by
  cases t with
  | nil => rfl
  | cons x t => rw [go2]; rfl))
def putF : List Ed → Bool
  | .put _ :: _ => true
  | _ => false
def pPutF : DSp := fun G ds R => ∃ es : List Ed, ds = [edsD es] ∧ R G (.bl (putF es))
def pWith : DSp := fun G ds R => ∃ (x : Int) (es : List Ed), ds = [.int x, edsD es] ∧ es.length ≤ 1000 ∧ (∀ xs r, es = .put xs :: r → xs.length ≤ 1000) ∧ R G (edsD (withNum x es))
def pLE : DSp := fun G ds R => ∃ bs tg : List Int, ds = [iL bs, iL tg] ∧ bs.length ≤ 60 ∧ tg.length ≤ 60 ∧ R G (crD (F bs tg))
def pChO : DSp := fun G ds R => ∃ bs tg : List Int, ds = [iL bs, iL tg] ∧ bs.length ≤ 60 ∧ tg.length ≤ 60 ∧ R G (edsD (F bs tg).2)
def pLC : DSp := fun G ds R => ∃ bs tg : List Int, ds = [iL bs, iL tg] ∧ bs.length ≤ 60 ∧ tg.length ≤ 60 ∧ R G (.int (lc bs tg))
section
variable {Pr : Program} {w : World} {K : PySem.W.Frag} {mg : Str → Option Value} {base : Heap}
theorem ok19 {f : Addr} {fd : FuncData} (F : Fun K "is_put_first" "is_put_first" (top 19) f fd) (b : Bi mg) : FnOk Pr w K mg base CX0 1 f fd ["rows"] (toSp K pPutF) := by
  refine def_ok F sc19 (fun G ds R ⟨_, e, _⟩ => by rw [e]; rfl) fun cdv A outer s H0 E0 C ds R hr hp => ?_
  obtain ⟨es, rfl, h⟩ := hp
  have nd := sc19.nd
  unfold edsD
  cases es with
  | nil =>
    walk_at "go"
    exact h
  | cons e es =>
    rw [List.map_cons]
    walk_at "go"
    rw [show decide ((0 : Int) < ((edD e :: es.map edD).length : Nat)) = true by simp]
    walk_at "go"
    cases e with
    | keep s m =>
      rw [edD]
      walk_at "go"
      exact h
    | put xs =>
      rw [edD]
      walk_at "go"
      exact h
theorem ok18 {f : Addr} {fd : FuncData} (F : Fun K "with_number" "with_number" (top 18) f fd) (b : Bi mg) (c19 : Cal Pr w K mg base 1 "is_put_first" pPutF) : FnOk Pr w K mg base CX0 2 f fd ["number", "rows"] (toSp K pWith) := by
  refine def_ok F sc18 (fun G ds R ⟨_, _, e, _⟩ => by rw [e]; rfl) fun cdv A outer s H0 E0 C ds R hr hp => ?_
  obtain ⟨x, es, rfl, hl, hx, h⟩ := hp
  have nd := sc18.nd
  walk_at "go"
  refine ⟨es, rfl, ?_⟩
  walk_at "go"
  refine ite2 (fun h1 => ?_) (fun h1 => ?_)
  · cases es with
    | nil => cases h1
    | cons e es =>
      cases e with
      | keep => cases h1
      | put xs =>
        have hx := hx xs es rfl
        rw [withNum] at h
        unfold edsD at h ⊢
        rw [List.map_cons, edD] at h ⊢
        walk_at "go"
        rw [cutD_tail]
        walk_at "go"
        refine ⟨by simp at hl ⊢; omega, ?_⟩
        rw [List.append_nil, List.append_nil]
        exact h
  · have e : withNum x es = .put [x] :: es := by
      cases es with
      | nil => rfl
      | cons e es =>
        cases e with
        | keep => rfl
        | put xs => exact absurd rfl h1
    rw [e] at h
    unfold edsD at h ⊢
    rw [List.map_cons, edD] at h
    walk_at "go"
    rw [List.append_nil]
    exact h
theorem ok17 {f : Addr} {fd : FuncData} (F : Fun K "least_edits" "least_edits" (top 17) f fd) (b : Bi mg) (c16 : Cal Pr w K mg base 1 "longest_match" pLM) (c18 : Cal Pr w K mg base 2 "with_number" pWith) (m9 : ∃ t, mg "KEEP_COST" = some (.int 2 t)) : FnOk Pr w K mg base CX0 3 f fd ["base", "target"] (toSp K pLE) := by
  refine def_ok F sc17 (fun G ds R ⟨_, _, e, _⟩ => by rw [e]; rfl) fun cdv A outer s H0 E0 C ds R hr hp => ?_
  obtain ⟨bs, tg, rfl, hl1, hl2, h⟩ := hp
  have nd := sc17.nd
  refine wss_cons (ws_par2O (i := 2) (j := 3) rfl nd rfl rfl (by decide) rfl rfl rfl rfl ?_)
  walk_at "go"
  refine ws_for PassesOwn.never rfl (pg_name (i := 4) nd rfl (.inl rfl)) gb_name (fun _ => rfl) (wi_down rfl b.range rfl rfl ?_)
  unfold iL
  walk_at "go"
  rw [List.length_map]
  refine ⟨_, _, rfl, by omega, ?_⟩
  rw [show (((tg.length : Nat) : Int) - 1 - -1).toNat = tg.length by omega]
  refine ⟨fun i ρ' => ∃ v4 v5 v6 v7 v8 v9 v10 v11 v12 v13 v14 v15, ρ' = ⟨C.G, [.sh (.lst (bs.map .int)), .sh (.lst (tg.map .int)), .ow ((go bs (tg.drop (tg.length - i))).1.map crD), .ow ((go bs (tg.drop (tg.length - i))).2.map crD), v4, v5, v6, v7, v8, v9, v10, v11, v12, v13, v14, v15]⟩, ⟨_, _, _, _, _, _, _, _, _, _, _, _, by rw [Nat.sub_zero, List.drop_length]; rfl⟩, ?_, ?_⟩
  · rintro B i d ρ' hd ⟨v4, v5, v6, v7, v8, v9, v10, v11, v12, v13, v14, v15, rfl⟩
    obtain ⟨hi, rfl⟩ := ups_get' hd
    have ea : ((tg.length : Int) - 1 - i) = ((tg.length - 1 - i : Nat) : Int) := by omega
    have dr := drop_one rfl hi
    obtain ⟨x, hx⟩ : ∃ x, tg[tg.length - 1 - i]'(by omega) = x := ⟨_, rfl⟩
    obtain ⟨t, ht⟩ : ∃ t, tg.drop (tg.length - i) = t := ⟨_, rfl⟩
    have tl : t.length ≤ 60 := by rw [← ht, List.length_drop]; omega
    rw [hx, ht] at dr
    rw [ea, ht]
    have dr' : tg.drop (tg.length - (i + 1)) = x :: t := by rw [show tg.length - (i + 1) = tg.length - 1 - i by omega, dr]
    have gw := good_len (good bs t.length t (Nat.le_refl _)).2
    have fw := FW_cons bs x t
    refine b_name (wss_cons (ws_asg (pg_tup rfl (pgs_cons (pg_name (i := 5) nd rfl (.inl rfl)) (pgs_cons (pg_name (i := 6) nd rfl (.inl rfl)) pgs_nil))) (gb_tup (is := [5, 6]) rfl) rfl rfl rfl ?_))
    walk_at "go"
    refine ⟨bs, tg, tg.length - 1 - i, rfl, by omega, by omega, by omega, ?_⟩
    rw [dr]
    walk_at "go"
    refine q_ixL (atI_iL (tg.length - 1 - i) rfl (by omega)) ?_
    rw [hx]
    refine wss_cons (ws_asg (pg_tup rfl (pgs_cons (pg_name (i := 8) nd rfl (.inl rfl)) (pgs_cons (pg_name (i := 9) nd rfl (.inl rfl)) pgs_nil))) (gb_tup (is := [8, 9]) rfl) rfl rfl rfl ?_)
    walk_at "ixOwn"
    walk_at "go"
    refine ⟨0, _, rfl, goW, ?_⟩
    rw [crD]
    walk_at "go"
    refine ⟨x, (W bs t).2, rfl, by omega, fun xs r e => by have := gw.2 xs r e; omega, ?_⟩
    unfold edsD
    walk_at "go0"
    refine ws_cut (fun ρ' => ∃ v13 v14 v15, ρ' = ⟨C.G, [.sh (.lst (bs.map .int)), .sh (.lst (tg.map .int)), .ow ((go bs t).1.map crD), .ow ((go bs t).2.map crD), .sh (.int ((tg.length - 1 - i : Nat) : Int)), .sh (.int (best bs (x :: t)).1), .sh (.int (best bs (x :: t)).2), .sh (.int x), .sh (.int (W bs t).1), .sh (.lst ((W bs t).2.map edD)), .sh (.lst ((withNum x (W bs t).2).map edD)), .sh (crD (Ch.F bs (x :: t))), .sh (crD (W bs (x :: t))), v13, v14, v15]⟩) ?_ ?_
    rotate_left
    · rintro ρ' ⟨v13, v14, v15, rfl⟩
      have gl := go_len bs t
      refine wss_cons ?_
      walk_at "ins0"
      walk_at "go"
      walk_at "ins0"
      walk_at "go"
      exact ⟨_, _, _, _, _, _, _, _, _, _, _, _, by rw [dr', go1, go2]; rfl⟩
    refine ws_sl (sl' := [_, _, _, _, _, _, _, _, _, _, _, _, _, _, _, _]) rfl ?_
    refine ws_if ?_
    walk_at "go"
    refine ite2 (fun h1 => ?_) (fun h1 => ?_)
    · have hm : 0 < (best bs (x :: t)).2 := by have := of_decide_eq_true h1; omega
      have hle := best_le (base := bs) (t := x :: t)
      rw [List.length_cons] at hle
      obtain ⟨m, em⟩ : ∃ m, (best bs (x :: t)).2 = m + 1 := ⟨(best bs (x :: t)).2 - 1, by omega⟩
      refine wss_cons (ws_asg (pg_tup rfl (pgs_cons (pg_name (i := 13) nd rfl (.inl rfl)) (pgs_cons (pg_name (i := 14) nd rfl (.inl rfl)) pgs_nil))) (gb_tup (is := [13, 14]) rfl) rfl rfl rfl ?_)
      walk_at "ixOwn"
      walk_at "go"
      refine ⟨(m : Int), _, by rw [em]; congr 1; omega, goF (by omega), ?_⟩
      rw [show t.drop m = (x :: t).drop (best bs (x :: t)).2 by rw [em]; rfl, crD]
      unfold edsD
      have gk := good_len (good bs _ ((x :: t).drop (best bs (x :: t)).2) (Nat.le_refl _)).1
      rw [List.length_drop, List.length_cons] at gk
      refine b_tup2 (wss_sl (sl' := [_, _, _, _, _, _, _, _, _, _, _, _, _, _, _, _]) rfl ?_)
      walk_at "go"
      rw [List.append_nil]
      have k1 : (((Ch.F bs ((x :: t).drop (best bs (x :: t)).2)).1 : Nat) : Int) + 2 = ((Ch.K bs x t).1 : Nat) := rfl
      refine ite2 (fun h2 => ?_) (fun h2 => ?_)
      · have h2' := of_decide_eq_true h2
        walk_at "go"
        refine ite2 (fun h3 => ?_) (fun h3 => ?_)
        · have h3' := of_decide_eq_true h3
          walk_at "go"
          exact ⟨_, _, _, by rw [fw.1, fw.2, if_pos ⟨hm, by omega⟩, if_pos ⟨hm, by omega⟩]; rfl⟩
        · have h3' := fun z => h3 (decide_eq_true z)
          walk_at "go"
          exact ⟨_, _, _, by rw [fw.1, fw.2, if_pos ⟨hm, by omega⟩, if_neg (fun z => h3' (by have := z.2; omega))]; rfl⟩
      · have h2' := fun z => h2 (decide_eq_true z)
        walk_at "go"
        refine ite2 (fun h3 => ?_) (fun h3 => ?_)
        · have h3' := of_decide_eq_true h3
          exact absurd (by omega) h2'
        · have h3' := fun z => h3 (decide_eq_true z)
          walk_at "go"
          exact ⟨_, _, _, by rw [fw.1, fw.2, if_neg (fun z => h2' (by have := z.2; omega)), if_neg (fun z => h3' (by have := z.2; omega))]; rfl⟩
    · walk_at "go"
      have hn : ¬ 0 < (best bs (x :: t)).2 := fun z => h1 (decide_eq_true (by omega))
      exact ⟨_, _, _, by rw [fw.1, fw.2, if_neg (fun z => hn z.1), if_neg (fun z => hn z.1)]; rfl⟩
  · rintro ρ' ⟨v4, v5, v6, v7, v8, v9, v10, v11, v12, v13, v14, v15, rfl⟩
    rw [ups_length, Nat.sub_self, List.drop_zero]
    refine wss_cons (ws_ret ?_)
    walk_at "ixOwn"
    walk_at "go"
    exact ⟨0, _, rfl, goF (k := 0) (Nat.zero_le _), h⟩
theorem ok20 {f : Addr} {fd : FuncData} (F : Fun K "change_of" "change_of" (top 20) f fd) (b : Bi mg) (c11 : Cal Pr w K mg base 3 "check_contents" pCheckC) (c17 : Cal Pr w K mg base 3 "least_edits" pLE) : FnOk Pr w K mg base CX0 4 f fd ["base", "target"] (toSp K pChO) := by
  refine def_ok F sc20 (fun G ds R ⟨_, _, e, _⟩ => by rw [e]; rfl) fun cdv A outer s H0 E0 C ds R hr hp => ?_
  obtain ⟨bs, tg, rfl, hl1, hl2, h⟩ := hp
  have nd := sc20.nd
  refine wss_cons (ws_expr rfl ?_)
  walk_at "go"
  refine ⟨bs, rfl, hl1, ?_⟩
  refine wss_cons (ws_expr rfl ?_)
  walk_at "go"
  refine ⟨tg, rfl, hl2, ?_⟩
  walk_at "go"
  refine ⟨bs, tg, rfl, hl1, hl2, ?_⟩
  rw [crD]
  walk_at "go"
  exact h
theorem ok21 {f : Addr} {fd : FuncData} (F : Fun K "least_cost" "least_cost" (top 21) f fd) (b : Bi mg) (c11 : Cal Pr w K mg base 3 "check_contents" pCheckC) (c17 : Cal Pr w K mg base 3 "least_edits" pLE) : FnOk Pr w K mg base CX0 4 f fd ["base", "target"] (toSp K pLC) := by
  refine def_ok F sc21 (fun G ds R ⟨_, _, e, _⟩ => by rw [e]; rfl) fun cdv A outer s H0 E0 C ds R hr hp => ?_
  obtain ⟨bs, tg, rfl, hl1, hl2, h⟩ := hp
  have nd := sc21.nd
  refine wss_cons (ws_expr rfl ?_)
  walk_at "go"
  refine ⟨bs, rfl, hl1, ?_⟩
  refine wss_cons (ws_expr rfl ?_)
  walk_at "go"
  refine ⟨tg, rfl, hl2, ?_⟩
  walk_at "go"
  refine ⟨bs, tg, rfl, hl1, hl2, ?_⟩
  rw [crD]
  walk_at "go"
  exact h
end
end
section
local macro_rules | `(tactic| walk_at "vis") => `(tactic| first | exact Or.inl rfl | exact Or.inr (Or.inl rfl) | exact Or.inr (Or.inr rfl))
local macro_rules | `(tactic| walk_at "v") => `(tactic| first
  | refine we_var (i := 0) rfl (by walk_at "vis") (by decide) (by decide) rfl ?_ | refine we_var (i := 1) rfl (by walk_at "vis") (by decide) (by decide) rfl ?_
  | refine we_var (i := 2) rfl (by walk_at "vis") (by decide) (by decide) rfl ?_ | refine we_var (i := 3) rfl (by walk_at "vis") (by decide) (by decide) rfl ?_
  | refine we_var (i := 4) rfl (by walk_at "vis") (by decide) (by decide) rfl ?_ | refine we_var (i := 5) rfl (by walk_at "vis") (by decide) (by decide) rfl ?_
  | refine we_var (i := 6) rfl (by walk_at "vis") (by decide) (by decide) rfl ?_ | refine we_var (i := 7) rfl (by walk_at "vis") (by decide) (by decide) rfl ?_
  | refine we_var (i := 8) rfl (by walk_at "vis") (by decide) (by decide) rfl ?_ | refine we_var (i := 9) rfl (by walk_at "vis") (by decide) (by decide) rfl ?_
  | refine we_var (i := 10) rfl (by walk_at "vis") (by decide) (by decide) rfl ?_ | refine we_var (i := 11) rfl (by walk_at "vis") (by decide) (by decide) rfl ?_
  | refine we_var (i := 12) rfl (by walk_at "vis") (by decide) (by decide) rfl ?_ | refine we_var (i := 13) rfl (by walk_at "vis") (by decide) (by decide) rfl ?_
  | refine we_var (i := 14) rfl (by walk_at "vis") (by decide) (by decide) rfl ?_ | refine we_var (i := 15) rfl (by walk_at "vis") (by decide) (by decide) rfl ?_ | refine we_var (i := 16) rfl (by walk_at "vis") (by decide) (by decide) rfl ?_ | refine we_var (i := 17) rfl (by walk_at "vis") (by decide) (by decide) rfl ?_)
local macro_rules | `(tactic| walk_at "c") => `(tactic| first
  | refine we_len (by assumption) rfl rfl ?_ | refine we_isi (by assumption) rfl rfl rfl rfl ?_ | refine we_int1 (by assumption) rfl rfl ?_
  | refine we_all rfl (by assumption) rfl rfl ?_ | refine we_any rfl (by assumption) rfl rfl ?_ | refine we_sum rfl (by assumption) rfl rfl ?_
  | refine we_list1 (by assumption) rfl rfl ?_ | refine we_tuple1 (by assumption) rfl rfl ?_ | refine we_min2 rfl (by assumption) rfl rfl rfl rfl ?_ | refine we_max2 rfl (by assumption) rfl rfl rfl rfl ?_
  | refine we_minL rfl (by assumption) rfl rfl ?_ | refine we_maxL rfl (by assumption) rfl rfl ?_
  | refine we_call (by assumption) (Room.mono (by assumption) (by decide)) rfl (by decide) rfl rfl ?_ | refine we_call0 (by assumption) (Room.mono (by assumption) (by decide)) rfl (by decide) ?_)
local macro_rules | `(tactic| walk_at "n") => `(tactic| first
  | walk_at "v"
  | refine we_tyInt (by assumption) rfl ?_ | refine we_tyBool (by assumption) rfl ?_ | refine we_tyStr (by assumption) rfl ?_ | refine we_tyList (by assumption) rfl ?_ | refine we_tyTuple (by assumption) rfl ?_ | refine we_tyDict (by assumption) rfl ?_
  | refine we_gInt rfl (by assumption) (by decide) ?_)
local macro_rules | `(tactic| walk_at "e") => `(tactic| first
  | ((with_reducible show WE _ _ (Expr.Constant _ _ _) _ _); first | refine we_int ?_ | refine we_str ?_ | refine we_bl ?_ | refine we_non ?_)
  | ((with_reducible show WE _ _ (Expr.Name _ _) _ _); walk_at "n")
  | ((with_reducible show WE _ _ (Expr.Call _ _ _ _) _ _); walk_at "c")
  | ((with_reducible show WE _ _ (Expr.BinOp _ _ _ _) _ _); first | refine we_add ?_ | refine we_sub ?_ | refine we_mul ?_ | refine we_mod ?_ | refine we_div ?_ | refine we_pow ?_)
  | ((with_reducible show WE _ _ (Expr.UnaryOp _ _ _) _ _); first | refine we_not ?_ | refine we_neg ?_)
  | ((with_reducible show WE _ _ (Expr.BoolOp _ _ _) _ _); first | refine we_one ?_ | refine we_and ?_ | refine we_or ?_)
  | ((with_reducible show WE _ _ (Expr.Compare _ _ _ _) _ _); first | refine we_lt ?_ | refine we_le ?_ | refine we_gt ?_ | refine we_ge ?_ | refine we_eq (Room.units (by assumption)) ?_ | refine we_ne (Room.units (by assumption)) ?_ | refine we_is ?_ | refine we_isN ?_ | refine we_in (units65 (by assumption)) rfl ?_ | refine we_notIn (units65 (by assumption)) rfl ?_ | refine we_lele rfl ?_)
  | ((with_reducible show WE _ _ (Expr.IfExp _ _ _ _) _ _); refine we_ifx ?_)
  | ((with_reducible show WE _ _ (Expr.Subscript _ _ _) _ _); first | refine we_sl ?_ | refine we_ix ix_seq d_ix (fun _ _ => rfl) ?_)
  | ((with_reducible show WE _ _ (Expr.List _ _) _ _); refine we_lst ?_)
  | ((with_reducible show WE _ _ (Expr.Tuple _ _ _) _ _); refine we_tup ?_)
  | ((with_reducible show WO _ _ _ _ _ _); first | refine wo_none ?_ | refine wo_some ?_)
  | ((with_reducible show bName _ _ _ _); refine b_name ?_)
  | ((with_reducible show bTup _ _ _ _); first | refine b_tup2 ?_ | refine b_tup3 ?_ | refine b_tup rfl ?_)
  | ((with_reducible show WA _ _ _ _ _); first | refine wa_nil ?_ | refine wa_star rfl ?_ | refine wa_cons rfl ?_))
local macro_rules | `(tactic| walk_at "t") => `(tactic| first
  | ((with_reducible show WW _ _ _ _ _); first | refine ww_and1 ?_ | refine ww_or1 ?_ | refine ww_and ?_ | refine ww_or ?_)
  | ((with_reducible show WT _ _ (Expr.UnaryOp _ _ _) _ _); refine wt_not ?_)
  | ((with_reducible show WT _ _ (Expr.BoolOp _ _ _) _ _); refine wt_w ?_)
  | ((with_reducible show WT _ _ (Expr.Compare _ _ _ _) _ _); first | refine wt_lt ?_ | refine wt_le ?_ | refine wt_gt ?_ | refine wt_ge ?_ | refine wt_eq (Room.units (by assumption)) ?_ | refine wt_ne (Room.units (by assumption)) ?_ | refine wt_is ?_ | refine wt_isN ?_ | refine wt_in (units65 (by assumption)) rfl ?_ | refine wt_notIn (units65 (by assumption)) rfl ?_ | refine wt_val (fun _ => rfl) ?_)
  | ((with_reducible show WT _ _ _ _ _); refine wt_val (fun _ => rfl) ?_))
local macro_rules | `(tactic| walk_at "set") => `(tactic| first
  | refine ws_set (i := 0) (by assumption) rfl (by walk_at "vis") rfl (Or.inl rfl) ?_ | refine ws_set (i := 1) (by assumption) rfl (by first | exact Or.inl rfl | exact Or.inr rfl) rfl (Or.inl rfl) ?_
  | refine ws_set (i := 2) (by assumption) rfl (by first | exact Or.inl rfl | exact Or.inr rfl) rfl (Or.inl rfl) ?_ | refine ws_set (i := 3) (by assumption) rfl (by first | exact Or.inl rfl | exact Or.inr rfl) rfl (Or.inl rfl) ?_
  | refine ws_set (i := 4) (by assumption) rfl (by first | exact Or.inl rfl | exact Or.inr rfl) rfl (Or.inl rfl) ?_ | refine ws_set (i := 5) (by assumption) rfl (by first | exact Or.inl rfl | exact Or.inr rfl) rfl (Or.inl rfl) ?_
  | refine ws_set (i := 6) (by assumption) rfl (by first | exact Or.inl rfl | exact Or.inr rfl) rfl (Or.inl rfl) ?_ | refine ws_set (i := 7) (by assumption) rfl (by first | exact Or.inl rfl | exact Or.inr rfl) rfl (Or.inl rfl) ?_
  | refine ws_set (i := 8) (by assumption) rfl (by first | exact Or.inl rfl | exact Or.inr rfl) rfl (Or.inl rfl) ?_ | refine ws_set (i := 9) (by assumption) rfl (by first | exact Or.inl rfl | exact Or.inr rfl) rfl (Or.inl rfl) ?_
  | refine ws_set (i := 10) (by assumption) rfl (by first | exact Or.inl rfl | exact Or.inr rfl) rfl (Or.inl rfl) ?_ | refine ws_set (i := 11) (by assumption) rfl (by first | exact Or.inl rfl | exact Or.inr rfl) rfl (Or.inl rfl) ?_
  | refine ws_set (i := 12) (by assumption) rfl (by first | exact Or.inl rfl | exact Or.inr rfl) rfl (Or.inl rfl) ?_ | refine ws_set (i := 13) (by assumption) rfl (by first | exact Or.inl rfl | exact Or.inr rfl) rfl (Or.inl rfl) ?_
  | refine ws_set (i := 14) (by assumption) rfl (by first | exact Or.inl rfl | exact Or.inr rfl) rfl (Or.inl rfl) ?_
  | refine ws_set (i := 15) (by assumption) rfl (by first | exact Or.inl rfl | exact Or.inr rfl) rfl (Or.inl rfl) ?_
  | refine ws_set (i := 16) (by assumption) rfl (by first | exact Or.inl rfl | exact Or.inr rfl) rfl (Or.inl rfl) ?_
  | refine ws_set (i := 17) (by assumption) rfl (by first | exact Or.inl rfl | exact Or.inr rfl) rfl (Or.inl rfl) ?_)
local macro_rules | `(tactic| walk_at "s") => `(tactic| first
  | ((with_reducible show WSs _ _ _ _ _); first | refine wss_cons ?_ | refine wss_nil ?_)
  | ((with_reducible show WS _ _ (Stmt.Return _ _) _ _); refine ws_ret ?_)
  | ((with_reducible show WS _ _ (Stmt.If _ _ _ _) _ _); refine ws_if ?_)
  | ((with_reducible show WS _ _ (Stmt.Assign [Expr.Name _ _] _ _) _ _); (fail_if_success (with_reducible show WS _ _ (Stmt.Assign [Expr.Name _ _] (Expr.List [] _) _) _ _)); walk_at "set"))
local macro_rules | `(tactic| walk_at "z") => `(tactic| first | decide | omega | (simp only [List.length_map, List.length_append, List.length_cons, List.length_nil, List.length_replicate]; omega))
local macro_rules | `(tactic| walk_at "p") => `(tactic| first
  | ((with_reducible show fr _ _ _); first | refine fr_non ?_ | refine fr_bl ?_ | refine fr_int ?_ | refine fr_str ?_ | refine fr_raw ?_ | refine fr_lst ?_ | refine fr_tup ?_ | refine fr_own ?_ | refine fr_dct ?_ | refine fr_ins ?_)
  | ((with_reducible show pAdd _ _ _); first | refine q_addI ?_ | refine q_addL (by walk_at "z") ?_ | refine q_addS (by walk_at "z") ?_)
  | ((with_reducible show pSub _ _ _); refine q_sub ?_)
  | ((with_reducible show pMod _ _ _); refine q_mod (by walk_at "z") ?_)
  | ((with_reducible show pMul _ _ _); first | refine q_mulI (by first | (refine Or.inl ⟨?_, ?_⟩ <;> walk_at "z") | (refine Or.inr ⟨?_, ?_⟩ <;> walk_at "z")) ?_ | refine q_mulL ⟨by walk_at "z", by walk_at "z", by walk_at "z"⟩ ?_)
  | ((with_reducible show pDiv _ _ _); refine q_div ⟨by walk_at "z", by walk_at "z"⟩ ?_)
  | ((with_reducible show pPow _ _ _); refine q_pow ⟨by walk_at "z", by walk_at "z", by walk_at "z"⟩ ?_)
  | ((with_reducible show pLt _ _ _); refine q_lt ?_) | ((with_reducible show pLe _ _ _); refine q_le ?_) | ((with_reducible show pGt _ _ _); refine q_gt ?_) | ((with_reducible show pGe _ _ _); refine q_ge ?_)
  | ((with_reducible show pNeg _ _); refine q_neg ?_) | ((with_reducible show pIs _ _ _); refine q_is ?_) | ((with_reducible show pIsN _ _ _); refine q_isN ?_)
  | ((with_reducible show pInt1 _ _); first | refine q_int ?_ | refine q_intB ?_)
  | ((with_reducible show pLen _ _); first | refine q_lenL ?_ | refine q_lenT ?_ | refine q_lenR ?_ | refine q_lenS (by walk_at "z") ?_)
  | ((with_reducible show pMax2 _ _); refine q_max2 ?_) | ((with_reducible show pMin2 _ _); refine q_min2 ?_)
  | ((with_reducible show pList _ _); first | refine q_listL ?_ | refine q_listT ?_)
  | ((with_reducible show pTuple _ _); first | refine q_tupL ?_ | refine q_tupT ?_)
  | ((with_reducible show pEq _ _ _); first | refine q_eqI ?_ | (with_reducible refine eqS_kp ?_) | (with_reducible refine eqS_pk ?_) | (with_reducible refine eqS_kk ?_) | (with_reducible refine eqS_pp ?_) | refine q_eqL ?_ | refine q_eqS (by decide) (by decide) ?_)
  | ((with_reducible show pNe _ _ _); first | refine q_neI ?_ | (with_reducible refine neS_pp ?_) | refine q_neL ?_ | refine q_neS (by decide) (by decide) ?_)
  | ((with_reducible show pIter _ _); first | refine q_iterL ?_ | refine q_iterT ?_)
  | ((with_reducible show pIx _ _ _); first | (with_reducible refine q_ixT atI0 ?_) | (with_reducible refine q_ixT atI1 ?_) | (with_reducible refine q_ixT atI2 ?_) | (with_reducible refine q_ixL atI0 ?_))
  | ((with_reducible show pSl _ _ _ _); refine q_slL ?_)
  | ((with_reducible show pIsi _ _); first | refine q_isiT rfl (by decide) rfl ?_ | refine q_isiF rfl (by decide) rfl ?_ | refine q_isi rfl (by decide) ?_)
  | ((with_reducible show _ ≤ 1000000 ∧ _); refine ⟨by walk_at "z", ?_⟩) | ((with_reducible show _ < 900000 ∧ _); refine ⟨by walk_at "z", ?_⟩))
local macro_rules | `(tactic| walk_at "new") => `(tactic| first
  | refine ws_new (i := 0) (by assumption) rfl (by first | exact Or.inl rfl | exact Or.inr rfl) rfl (Or.inl rfl) ?_
  | refine ws_new (i := 1) (by assumption) rfl (by first | exact Or.inl rfl | exact Or.inr rfl) rfl (Or.inl rfl) ?_
  | refine ws_new (i := 2) (by assumption) rfl (by first | exact Or.inl rfl | exact Or.inr rfl) rfl (Or.inl rfl) ?_
  | refine ws_new (i := 3) (by assumption) rfl (by first | exact Or.inl rfl | exact Or.inr rfl) rfl (Or.inl rfl) ?_
  | refine ws_new (i := 4) (by assumption) rfl (by first | exact Or.inl rfl | exact Or.inr rfl) rfl (Or.inl rfl) ?_
  | refine ws_new (i := 5) (by assumption) rfl (by first | exact Or.inl rfl | exact Or.inr rfl) rfl (Or.inl rfl) ?_
  | refine ws_new (i := 6) (by assumption) rfl (by first | exact Or.inl rfl | exact Or.inr rfl) rfl (Or.inl rfl) ?_
  | refine ws_new (i := 7) (by assumption) rfl (by first | exact Or.inl rfl | exact Or.inr rfl) rfl (Or.inl rfl) ?_
  | refine ws_new (i := 8) (by assumption) rfl (by first | exact Or.inl rfl | exact Or.inr rfl) rfl (Or.inl rfl) ?_
  | refine ws_new (i := 9) (by assumption) rfl (by first | exact Or.inl rfl | exact Or.inr rfl) rfl (Or.inl rfl) ?_
  | refine ws_new (i := 10) (by assumption) rfl (by first | exact Or.inl rfl | exact Or.inr rfl) rfl (Or.inl rfl) ?_
  | refine ws_new (i := 11) (by assumption) rfl (by first | exact Or.inl rfl | exact Or.inr rfl) rfl (Or.inl rfl) ?_
  | refine ws_new (i := 12) (by assumption) rfl (by first | exact Or.inl rfl | exact Or.inr rfl) rfl (Or.inl rfl) ?_
  | refine ws_new (i := 13) (by assumption) rfl (by first | exact Or.inl rfl | exact Or.inr rfl) rfl (Or.inl rfl) ?_
  | refine ws_new (i := 14) (by assumption) rfl (by first | exact Or.inl rfl | exact Or.inr rfl) rfl (Or.inl rfl) ?_
  | refine ws_new (i := 15) (by assumption) rfl (by first | exact Or.inl rfl | exact Or.inr rfl) rfl (Or.inl rfl) ?_)
local macro_rules | `(tactic| walk_at "app") => `(tactic| first
  | refine ws_app (i := 0) rfl (by walk_at "vis") (by decide) (by decide) rfl rfl rfl rfl rfl rfl rfl ?_
  | refine ws_app (i := 1) rfl (by walk_at "vis") (by decide) (by decide) rfl rfl rfl rfl rfl rfl rfl ?_
  | refine ws_app (i := 2) rfl (by walk_at "vis") (by decide) (by decide) rfl rfl rfl rfl rfl rfl rfl ?_
  | refine ws_app (i := 3) rfl (by walk_at "vis") (by decide) (by decide) rfl rfl rfl rfl rfl rfl rfl ?_
  | refine ws_app (i := 4) rfl (by walk_at "vis") (by decide) (by decide) rfl rfl rfl rfl rfl rfl rfl ?_
  | refine ws_app (i := 5) rfl (by walk_at "vis") (by decide) (by decide) rfl rfl rfl rfl rfl rfl rfl ?_
  | refine ws_app (i := 6) rfl (by walk_at "vis") (by decide) (by decide) rfl rfl rfl rfl rfl rfl rfl ?_
  | refine ws_app (i := 7) rfl (by walk_at "vis") (by decide) (by decide) rfl rfl rfl rfl rfl rfl rfl ?_
  | refine ws_app (i := 8) rfl (by walk_at "vis") (by decide) (by decide) rfl rfl rfl rfl rfl rfl rfl ?_
  | refine ws_app (i := 9) rfl (by walk_at "vis") (by decide) (by decide) rfl rfl rfl rfl rfl rfl rfl ?_
  | refine ws_app (i := 10) rfl (by walk_at "vis") (by decide) (by decide) rfl rfl rfl rfl rfl rfl rfl ?_
  | refine ws_app (i := 11) rfl (by walk_at "vis") (by decide) (by decide) rfl rfl rfl rfl rfl rfl rfl ?_
  | refine ws_app (i := 12) rfl (by walk_at "vis") (by decide) (by decide) rfl rfl rfl rfl rfl rfl rfl ?_
  | refine ws_app (i := 13) rfl (by walk_at "vis") (by decide) (by decide) rfl rfl rfl rfl rfl rfl rfl ?_
  | refine ws_app (i := 14) rfl (by walk_at "vis") (by decide) (by decide) rfl rfl rfl rfl rfl rfl rfl ?_
  | refine ws_app (i := 15) rfl (by walk_at "vis") (by decide) (by decide) rfl rfl rfl rfl rfl rfl rfl ?_)
local macro_rules | `(tactic| walk_at "ext") => `(tactic| first
  | refine ws_ext (i := 0) rfl (by walk_at "vis") (by decide) (by decide) rfl rfl rfl rfl rfl rfl rfl ?_
  | refine ws_ext (i := 1) rfl (by walk_at "vis") (by decide) (by decide) rfl rfl rfl rfl rfl rfl rfl ?_
  | refine ws_ext (i := 2) rfl (by walk_at "vis") (by decide) (by decide) rfl rfl rfl rfl rfl rfl rfl ?_
  | refine ws_ext (i := 3) rfl (by walk_at "vis") (by decide) (by decide) rfl rfl rfl rfl rfl rfl rfl ?_
  | refine ws_ext (i := 4) rfl (by walk_at "vis") (by decide) (by decide) rfl rfl rfl rfl rfl rfl rfl ?_
  | refine ws_ext (i := 5) rfl (by walk_at "vis") (by decide) (by decide) rfl rfl rfl rfl rfl rfl rfl ?_
  | refine ws_ext (i := 6) rfl (by walk_at "vis") (by decide) (by decide) rfl rfl rfl rfl rfl rfl rfl ?_
  | refine ws_ext (i := 7) rfl (by walk_at "vis") (by decide) (by decide) rfl rfl rfl rfl rfl rfl rfl ?_
  | refine ws_ext (i := 8) rfl (by walk_at "vis") (by decide) (by decide) rfl rfl rfl rfl rfl rfl rfl ?_
  | refine ws_ext (i := 9) rfl (by walk_at "vis") (by decide) (by decide) rfl rfl rfl rfl rfl rfl rfl ?_
  | refine ws_ext (i := 10) rfl (by walk_at "vis") (by decide) (by decide) rfl rfl rfl rfl rfl rfl rfl ?_
  | refine ws_ext (i := 11) rfl (by walk_at "vis") (by decide) (by decide) rfl rfl rfl rfl rfl rfl rfl ?_
  | refine ws_ext (i := 12) rfl (by walk_at "vis") (by decide) (by decide) rfl rfl rfl rfl rfl rfl rfl ?_
  | refine ws_ext (i := 13) rfl (by walk_at "vis") (by decide) (by decide) rfl rfl rfl rfl rfl rfl rfl ?_
  | refine ws_ext (i := 14) rfl (by walk_at "vis") (by decide) (by decide) rfl rfl rfl rfl rfl rfl rfl ?_
  | refine ws_ext (i := 15) rfl (by walk_at "vis") (by decide) (by decide) rfl rfl rfl rfl rfl rfl rfl ?_)
local macro_rules | `(tactic| walk_at "ins0") => `(tactic| first
  | refine ws_ins0 (i := 0) rfl (by walk_at "vis") (by decide) (by decide) rfl rfl rfl rfl rfl rfl rfl ?_
  | refine ws_ins0 (i := 1) rfl (by walk_at "vis") (by decide) (by decide) rfl rfl rfl rfl rfl rfl rfl ?_
  | refine ws_ins0 (i := 2) rfl (by walk_at "vis") (by decide) (by decide) rfl rfl rfl rfl rfl rfl rfl ?_
  | refine ws_ins0 (i := 3) rfl (by walk_at "vis") (by decide) (by decide) rfl rfl rfl rfl rfl rfl rfl ?_
  | refine ws_ins0 (i := 4) rfl (by walk_at "vis") (by decide) (by decide) rfl rfl rfl rfl rfl rfl rfl ?_
  | refine ws_ins0 (i := 5) rfl (by walk_at "vis") (by decide) (by decide) rfl rfl rfl rfl rfl rfl rfl ?_
  | refine ws_ins0 (i := 6) rfl (by walk_at "vis") (by decide) (by decide) rfl rfl rfl rfl rfl rfl rfl ?_
  | refine ws_ins0 (i := 7) rfl (by walk_at "vis") (by decide) (by decide) rfl rfl rfl rfl rfl rfl rfl ?_
  | refine ws_ins0 (i := 8) rfl (by walk_at "vis") (by decide) (by decide) rfl rfl rfl rfl rfl rfl rfl ?_
  | refine ws_ins0 (i := 9) rfl (by walk_at "vis") (by decide) (by decide) rfl rfl rfl rfl rfl rfl rfl ?_
  | refine ws_ins0 (i := 10) rfl (by walk_at "vis") (by decide) (by decide) rfl rfl rfl rfl rfl rfl rfl ?_
  | refine ws_ins0 (i := 11) rfl (by walk_at "vis") (by decide) (by decide) rfl rfl rfl rfl rfl rfl rfl ?_
  | refine ws_ins0 (i := 12) rfl (by walk_at "vis") (by decide) (by decide) rfl rfl rfl rfl rfl rfl rfl ?_
  | refine ws_ins0 (i := 13) rfl (by walk_at "vis") (by decide) (by decide) rfl rfl rfl rfl rfl rfl rfl ?_
  | refine ws_ins0 (i := 14) rfl (by walk_at "vis") (by decide) (by decide) rfl rfl rfl rfl rfl rfl rfl ?_
  | refine ws_ins0 (i := 15) rfl (by walk_at "vis") (by decide) (by decide) rfl rfl rfl rfl rfl rfl rfl ?_)
local macro_rules | `(tactic| walk_at "retOwn") => `(tactic| first
  | refine ws_retOwn (i := 0) rfl (by walk_at "vis") (by decide) (by decide) rfl ?_
  | refine ws_retOwn (i := 1) rfl (by walk_at "vis") (by decide) (by decide) rfl ?_
  | refine ws_retOwn (i := 2) rfl (by walk_at "vis") (by decide) (by decide) rfl ?_
  | refine ws_retOwn (i := 3) rfl (by walk_at "vis") (by decide) (by decide) rfl ?_
  | refine ws_retOwn (i := 4) rfl (by walk_at "vis") (by decide) (by decide) rfl ?_
  | refine ws_retOwn (i := 5) rfl (by walk_at "vis") (by decide) (by decide) rfl ?_
  | refine ws_retOwn (i := 6) rfl (by walk_at "vis") (by decide) (by decide) rfl ?_
  | refine ws_retOwn (i := 7) rfl (by walk_at "vis") (by decide) (by decide) rfl ?_
  | refine ws_retOwn (i := 8) rfl (by walk_at "vis") (by decide) (by decide) rfl ?_
  | refine ws_retOwn (i := 9) rfl (by walk_at "vis") (by decide) (by decide) rfl ?_
  | refine ws_retOwn (i := 10) rfl (by walk_at "vis") (by decide) (by decide) rfl ?_
  | refine ws_retOwn (i := 11) rfl (by walk_at "vis") (by decide) (by decide) rfl ?_
  | refine ws_retOwn (i := 12) rfl (by walk_at "vis") (by decide) (by decide) rfl ?_
  | refine ws_retOwn (i := 13) rfl (by walk_at "vis") (by decide) (by decide) rfl ?_
  | refine ws_retOwn (i := 14) rfl (by walk_at "vis") (by decide) (by decide) rfl ?_
  | refine ws_retOwn (i := 15) rfl (by walk_at "vis") (by decide) (by decide) rfl ?_)
local macro_rules | `(tactic| walk_at "ixOwn") => `(tactic| first
  | refine we_ixOwn (i := 0) rfl (by walk_at "vis") (by decide) (by decide) rfl (fun _ _ => rfl) ?_
  | refine we_ixOwn (i := 1) rfl (by walk_at "vis") (by decide) (by decide) rfl (fun _ _ => rfl) ?_
  | refine we_ixOwn (i := 2) rfl (by walk_at "vis") (by decide) (by decide) rfl (fun _ _ => rfl) ?_
  | refine we_ixOwn (i := 3) rfl (by walk_at "vis") (by decide) (by decide) rfl (fun _ _ => rfl) ?_
  | refine we_ixOwn (i := 4) rfl (by walk_at "vis") (by decide) (by decide) rfl (fun _ _ => rfl) ?_
  | refine we_ixOwn (i := 5) rfl (by walk_at "vis") (by decide) (by decide) rfl (fun _ _ => rfl) ?_
  | refine we_ixOwn (i := 6) rfl (by walk_at "vis") (by decide) (by decide) rfl (fun _ _ => rfl) ?_
  | refine we_ixOwn (i := 7) rfl (by walk_at "vis") (by decide) (by decide) rfl (fun _ _ => rfl) ?_
  | refine we_ixOwn (i := 8) rfl (by walk_at "vis") (by decide) (by decide) rfl (fun _ _ => rfl) ?_
  | refine we_ixOwn (i := 9) rfl (by walk_at "vis") (by decide) (by decide) rfl (fun _ _ => rfl) ?_
  | refine we_ixOwn (i := 10) rfl (by walk_at "vis") (by decide) (by decide) rfl (fun _ _ => rfl) ?_
  | refine we_ixOwn (i := 11) rfl (by walk_at "vis") (by decide) (by decide) rfl (fun _ _ => rfl) ?_
  | refine we_ixOwn (i := 12) rfl (by walk_at "vis") (by decide) (by decide) rfl (fun _ _ => rfl) ?_
  | refine we_ixOwn (i := 13) rfl (by walk_at "vis") (by decide) (by decide) rfl (fun _ _ => rfl) ?_
  | refine we_ixOwn (i := 14) rfl (by walk_at "vis") (by decide) (by decide) rfl (fun _ _ => rfl) ?_
  | refine we_ixOwn (i := 15) rfl (by walk_at "vis") (by decide) (by decide) rfl (fun _ _ => rfl) ?_)
local macro_rules | `(tactic| walk_at "go") => `(tactic| repeat (first | walk_at "e" | walk_at "t" | walk_at "s" | walk_at "p" | (with_reducible refine ⟨_, rfl, ?_⟩) | (with_reducible refine ⟨_, Or.inl rfl, ?_⟩) | (with_reducible refine ⟨_, Or.inr rfl, ?_⟩) | (with_reducible refine iteT ?_) | (with_reducible refine iteF ?_) | (with_reducible refine iteNT ?_) | (with_reducible refine iteNF ?_)))
local macro_rules | `(tactic| walk_at "s0") => `(tactic| first
  | ((with_reducible show WSs _ _ _ _ _); first | refine wss_cons ?_ | refine wss_nil ?_)
  | ((with_reducible show WS _ _ (Stmt.Return _ _) _ _); refine ws_ret ?_)
  | ((with_reducible show WS _ _ (Stmt.Assign [Expr.Name _ _] _ _) _ _); (fail_if_success (with_reducible show WS _ _ (Stmt.Assign [Expr.Name _ _] (Expr.List [] _) _) _ _)); walk_at "set"))
local macro_rules | `(tactic| walk_at "go0") => `(tactic| repeat (first | walk_at "e" | walk_at "t" | walk_at "s0" | walk_at "p" | (with_reducible refine ⟨_, rfl, ?_⟩) | (with_reducible refine ⟨_, Or.inl rfl, ?_⟩) | (with_reducible refine ⟨_, Or.inr rfl, ?_⟩) | (with_reducible refine iteT ?_) | (with_reducible refine iteF ?_) | (with_reducible refine iteNT ?_) | (with_reducible refine iteNF ?_)))
open Ch
theorem sc27 : FnScope ["pool", "many", "turn"] ["pool", "many"] (defScope (top 27)) := ⟨rfl, rfl, rfl, by decide +kernel, rfl, by decide +kernel, by decide +kernel⟩
theorem sc31 : FnScope ["base", "target", "fresh", "amid", "at", "kept", "start", "many", "price"] ["base", "target"] (defScope (top 31)) := ⟨rfl, rfl, rfl, by decide +kernel, rfl, by decide +kernel, by decide +kernel⟩
def pCont : DSp := fun G ds R => ∃ (p l : Addr) (m : Nat), ds = [.raw (.ref p), .int m] ∧ G = gPool p l ∧ m ≤ 1000 ∧ ∀ xs : List Int, xs.length ≤ m → (∀ x ∈ xs, 0 ≤ x ∧ x < 3) → R (gPool p l) (iL xs)
def pCheap : DSp := fun G ds R => ∃ bs tg : List Int, ds = [iL bs, iL tg] ∧ bs.length ≤ 60 ∧ tg.length ≤ 60 ∧ R G (.int (lc bs tg))
def nI (n : Nat) : D := .int n
theorem of_I {acc : List D} (h : ∀ y ∈ acc, ∃ x : Int, y = .int x ∧ 0 ≤ x ∧ x < 3) : ∃ xs : List Int, acc = xs.map .int ∧ ∀ x ∈ xs, 0 ≤ x ∧ x < 3 := by
  induction acc with
  | nil => exact ⟨[], rfl, fun _ z => nomatch z⟩
  | cons a acc ih =>
    obtain ⟨xs, rfl, hx⟩ := ih fun y hy => h y (List.mem_cons_of_mem _ hy)
    obtain ⟨x, rfl, h0⟩ := h a List.mem_cons_self
    refine ⟨x :: xs, rfl, fun z hz => ?_⟩
    rcases List.mem_cons.mp hz with rfl | hz
    · exact h0
    · exact hx z hz
theorem q_minN {L : List Nat} {ds : List D} {Q : D → Prop} (hne : L ≠ []) (e : ds = L.map nI) (q : Q (.int (mn L))) : pMinL [.lst ds] Q := by
  refine ⟨L.map (fun n : Nat => (n : Int)), by rw [e, List.map_map]; rfl, by rw [List.length_map]; exact List.length_pos_iff.mpr hne, fun m hm hle => ?_⟩
  obtain ⟨n, hn, rfl⟩ := List.mem_map.mp hm
  have : n = mn L := mn_uniq hn fun y hy => by
    have := hle (y : Int) (List.mem_map.mpr ⟨y, hy, rfl⟩)
    omega
  rw [this]
  exact q
def kp (bs t : List Int) (fr : List Nat) (n : Nat) : List Nat := (List.range n).flatMap fun s => (List.range (mlen (bs.drop s) t)).map fun j => 2 + fr.getD j 0
theorem kp_succ (bs t : List Int) (fr : List Nat) (n : Nat) : kp bs t fr (n + 1) = kp bs t fr n ++ (List.range (mlen (bs.drop n) t)).map fun j => 2 + fr.getD j 0 := by
  unfold kp
  rw [List.range_succ, List.flatMap_append]
  simp
theorem kgrow {L : List Nat} {g : Nat → Nat} {k : Nat} : (L ++ (List.range (k + 1)).map g).map nI = (L ++ (List.range k).map g).map nI ++ [nI (g k)] := by
  simp [List.range_succ]
theorem ch_len (bs : List Int) : ∀ t : List Int, (ch bs t).1.length = t.length + 1 ∧ (ch bs t).2.length = t.length + 1
  | [] => ⟨rfl, rfl⟩
  | x :: t => by
    have ih := ch_len bs t
    rw [ch, List.length_cons, List.length_cons, List.length_cons, ih.1, ih.2]
    exact ⟨rfl, rfl⟩
theorem kp_len {bs t : List Int} (fr : List Nat) (ht : t.length ≤ 60) (n : Nat) : (kp bs t fr n).length ≤ 60 * n := by
  induction n with
  | zero => exact Nat.le_refl _
  | succ n ih =>
    have := (mlen_le (bs.drop n) t).1
    rw [kp_succ, List.length_append, List.length_map, List.length_range]
    omega
theorem ch1 {bs t : List Int} {k : Nat} (h : k ≤ t.length) : atI ((ch bs t).1.map nI) (k : Int) = some (nI ((ch bs t).1.getD k 0)) := atI_map nI (atI_nat (by
  rw [List.getD_eq_getElem?_getD, (ch_at bs t).1 k h]
  rfl))
theorem ch2 {bs t : List Int} : atI ((ch bs t).2.map nI) 0 = some (nI ((ch bs t).2.headD 0)) := atI_map nI (atI_nat (j := 0) (by
  have := (ch_at bs t).2 0 (Nat.zero_le _)
  cases h : (ch bs t).2 with
  | nil => rw [h] at this; cases this
  | cons a r => rfl))
section
variable {Pr : Program} {w : World} {K : PySem.W.Frag} {mg : Str → Option Value} {base : Heap}
theorem ok27 {f : Addr} {fd : FuncData} (F : Fun K "_law_contents" "_law_contents" (top 27) f fd) (b : Bi mg) (c : Cal Pr w K mg base 1 "_law_draw" pDraw) : FnOk Pr w K mg base CX0 2 f fd ["pool", "many"] (toSp K pCont) := by
  refine def_ok F sc27 (fun G ds R ⟨_, _, _, e, _⟩ => by rw [e]; rfl) fun cdv A outer s H0 E0 C ds R hr hp => ?_
  obtain ⟨p, l, m, rfl, eg, hm, h⟩ := hp
  have nd := sc27.nd
  refine wss_cons (ws_ret ?_)
  refine we_lc (own := [("turn", 2)]) rfl nd (blkOk_by (N := ["pool", "many", "turn"]) (sc := defScope (top 27)) (by decide +kernel)) (fun X' ⟨_, _, _, _, _, e⟩ => by subst e; exact pg_name (i := 2) nd rfl (Or.inl rfl)) gb_name (by decide) (fun _ => rfl) (lc_draws (wi_range1 rfl b.range rfl ?_))
  walk_at "go"
  refine ⟨p, l, _, rfl, eg, by omega, fun r h0 h1 => ?_⟩
  walk_at "go"
  refine ⟨by omega, by omega, by rw [ups_length]; omega, fun d => ∃ x : Int, d = .int x ∧ 0 ≤ x ∧ x < 3, ?_, ?_⟩
  · rintro B d hd X' ⟨_, _, _, _, _, rfl⟩
    walk_at "go"
    exact ⟨p, l, _, rfl, rfl, by omega, fun r h0 h1 => ⟨rfl, r, rfl, h0, h1⟩⟩
  · intro acc hl ha
    obtain ⟨xs, rfl, hx⟩ := of_I ha
    rw [List.length_map, ups_length] at hl
    exact h xs (by omega) hx
theorem ok31 {f : Addr} {fd : FuncData} (F : Fun K "_law_cheapest" "_law_cheapest" (top 31) f fd) (b : Bi mg) : FnOk Pr w K mg base CX0 1 f fd ["base", "target"] (toSp K pCheap) := by
  refine def_ok F sc31 (fun G ds R ⟨_, _, e, _⟩ => by rw [e]; rfl) fun cdv A outer s H0 E0 C ds R hr hp => ?_
  obtain ⟨bs, tg, rfl, hl1, hl2, h⟩ := hp
  have nd := sc31.nd
  refine wss_cons (ws_par (i := 2) (j := 3) rfl nd rfl rfl (by decide) rfl rfl rfl rfl ?_)
  walk_at "go"
  refine ⟨_, _, rfl, wss_cons ?_⟩
  refine ws_for PassesOwn.never rfl (pg_name (i := 4) nd rfl (.inl rfl)) gb_name (fun _ => rfl) (wi_down rfl b.range rfl rfl ?_)
  unfold iL
  walk_at "go"
  rw [List.length_map]
  refine ⟨_, _, rfl, by omega, ?_⟩
  rw [show (((tg.length : Nat) : Int) - 1 - -1).toNat = tg.length by omega]
  refine ⟨fun i ρ' => ∃ v4 v5 v6 v7 v8, ρ' = ⟨C.G, [.sh (.lst (bs.map .int)), .sh (.lst (tg.map .int)), .sh (.lst ((ch bs (tg.drop (tg.length - i))).1.map nI)), .sh (.lst ((ch bs (tg.drop (tg.length - i))).2.map nI)), v4, v5, v6, v7, v8]⟩, ⟨_, _, _, _, _, by rw [Nat.sub_zero, List.drop_length]; rfl⟩, ?_, ?_⟩
  · rintro B i d ρ' hd ⟨v4, v5, v6, v7, v8, rfl⟩
    obtain ⟨hi, rfl⟩ := ups_get' hd
    obtain ⟨a, ha⟩ : ∃ a, tg.length - 1 - i = a := ⟨_, rfl⟩
    have ea : ((tg.length : Int) - 1 - i) = (a : Int) := by omega
    have dr : tg.drop a = tg[a]'(by omega) :: tg.drop (tg.length - i) := by
      rw [List.drop_eq_getElem_cons (by omega)]
      congr 2
      omega
    obtain ⟨x, hx⟩ : ∃ x, tg[a]'(by omega) = x := ⟨_, rfl⟩
    obtain ⟨t, ht⟩ : ∃ t, tg.drop (tg.length - i) = t := ⟨_, rfl⟩
    have tl : t.length ≤ 60 := by rw [← ht, List.length_drop]; omega
    rw [hx, ht] at dr
    rw [ea, ht]
    have dl : (tg.drop a).length = t.length + 1 := by rw [dr, List.length_cons]
    have dl' := dl
    rw [List.length_drop] at dl'
    have dr' : tg.drop (tg.length - (i + 1)) = x :: t := by rw [show tg.length - (i + 1) = a by omega, dr]
    obtain ⟨fr, hfr⟩ : ∃ fr, (ch bs t).1 = fr := ⟨_, rfl⟩
    have fra : ∀ k : Nat, k < t.length + 1 → atI (fr.map nI) (k : Int) = some (nI (fr.getD k 0)) := fun k hk => by rw [← hfr]; exact ch1 (by omega)
    have cl := ch_len bs t
    rw [hfr] at cl ⊢
    refine b_name (wss_cons ?_)
    walk_at "new"
    walk_at "go"
    refine ws_for PassesOwn.never rfl (pg_name (i := 6) nd rfl (.inl rfl)) gb_name (fun _ => rfl) (wi_range1 rfl b.range rfl ?_)
    walk_at "go"
    refine ⟨by rw [List.length_map]; omega, by omega, ?_⟩
    rw [List.length_map, Int.toNat_natCast]
    refine ⟨fun s ρ' => ∃ v6 v7, ρ' = ⟨C.G, [.sh (.lst (bs.map .int)), .sh (.lst (tg.map .int)), .sh (.lst (fr.map nI)), .sh (.lst ((ch bs t).2.map nI)), .sh (.int a), .ow ((kp bs (tg.drop a) fr s).map nI), v6, v7, v8]⟩, ⟨_, _, rfl⟩, ?_, ?_⟩
    · rintro B s d ρ' hd ⟨v6, v7, rfl⟩
      obtain ⟨hs, rfl⟩ := ups_get' hd
      have kl := kp_len (bs := bs) (t := tg.drop a) fr (by omega) s
      have hle := mlen_le (bs.drop s) (tg.drop a)
      walk_at "go"
      refine ws_while PassesOwn.never (fun m ρ' => ∃ k : Nat, ρ' = ⟨C.G, [.sh (.lst (bs.map .int)), .sh (.lst (tg.map .int)), .sh (.lst (fr.map nI)), .sh (.lst ((ch bs t).2.map nI)), .sh (.int a), .ow ((kp bs (tg.drop a) fr s ++ (List.range k).map fun j => 2 + fr.getD j 0).map nI), .sh (.int s), .sh (.int k), v8]⟩ ∧ k ≤ mlen (bs.drop s) (tg.drop a) ∧ m = 2000 - k) 2000 ⟨0, by rw [List.range_zero, List.map_nil, List.append_nil]; rfl, Nat.zero_le _, rfl⟩ ?_
      rintro m ρ' ⟨k, rfl, hk, hm⟩
      have hit := mlen_iff (bs.drop s) (tg.drop a) k hk
      rw [List.getElem?_drop, List.getElem?_drop] at hit
      rw [List.length_drop, List.length_drop] at hle
      have out : ¬ k < mlen (bs.drop s) (tg.drop a) → (fun (s : Nat) (ρ' : E) => ∃ v6 v7, ρ' = ⟨C.G, [.sh (.lst (bs.map .int)), .sh (.lst (tg.map .int)), .sh (.lst (fr.map nI)), .sh (.lst ((ch bs t).2.map nI)), .sh (.int a), .ow ((kp bs (tg.drop a) fr s).map nI), v6, v7, v8]⟩) (s + 1) ⟨C.G, [.sh (.lst (bs.map .int)), .sh (.lst (tg.map .int)), .sh (.lst (fr.map nI)), .sh (.lst ((ch bs t).2.map nI)), .sh (.int a), .ow ((kp bs (tg.drop a) fr s ++ (List.range k).map fun j => 2 + fr.getD j 0).map nI), .sh (.int s), .sh (.int k), v8]⟩ := fun z => by
        have e : k = mlen (bs.drop s) (tg.drop a) := by omega
        exact ⟨.sh (.int s), .sh (.int k), by rw [kp_succ, ← e]⟩
      walk_at "go"
      rw [List.length_map]
      refine ite2 (fun h1 => ?_) (fun h1 => ?_)
      · have h1' := of_decide_eq_true h1
        walk_at "go"
        rw [List.length_map]
        refine ite2 (fun h2 => ?_) (fun h2 => ?_)
        · have h2' := of_decide_eq_true h2
          have l1 : a + k < tg.length := by omega
          have l2 : s + k < bs.length := by omega
          walk_at "go"
          refine q_ixL (atI_iL (s + k) (by omega) l2) ?_
          walk_at "go"
          refine q_ixL (atI_iL (a + k) (by omega) l1) ?_
          walk_at "go"
          rw [List.getElem?_eq_getElem l1, List.getElem?_eq_getElem l2] at hit
          refine ite2 (fun h3 => ?_) (fun h3 => ?_)
          · have h3' := of_decide_eq_true h3
            have lt := hit.mpr ⟨_, rfl, by rw [h3']⟩
            walk_at "go"
            walk_at "app"
            walk_at "go"
            refine q_ixL (d := nI (fr.getD k 0)) (by rw [show (k : Int) + 1 - 1 = k by omega]; exact fra k (by omega)) ?_
            rw [nI]
            walk_at "go"
            refine ⟨by rw [List.length_map, List.length_append, List.length_map, List.length_range]; omega, ?_⟩
            walk_at "go"
            refine ⟨2000 - (k + 1), by omega, k + 1, ?_, lt, rfl⟩
            rw [kgrow]
            rfl
          · walk_at "go"
            refine out fun z => ?_
            obtain ⟨x, e1, e2⟩ := hit.mp z
            cases e1
            injection e2 with e2
            exact h3 (decide_eq_true e2.symm)
        · walk_at "go"
          refine out fun z => ?_
          have : ¬ ((s : Int) + k < bs.length) := fun q => h2 (decide_eq_true q)
          omega
      · walk_at "go"
        refine out fun z => ?_
        have : ¬ ((a : Int) + k < tg.length) := fun q => h1 (decide_eq_true q)
        omega
    · rintro ρ' ⟨v6, v7, rfl⟩
      rw [ups_length]
      have kl := kp_len (bs := bs) (t := tg.drop a) fr (by omega) bs.length
      refine wss_freeze 5 rfl (wss_sl (sl' := [_, _, _, _, _, _, _, _, _]) rfl ?_)
      refine wss_cons ?_
      walk_at "set"
      walk_at "go"
      refine we_lc (own := [("price", 8)]) rfl nd (blkOk_by (N := ["base", "target", "fresh", "amid", "at", "kept", "start", "many", "price"]) (sc := defScope (top 31)) (by decide +kernel)) (fun X' ⟨_, _, _, _, _, e⟩ => by subst e; exact pg_name (i := 8) nd rfl (Or.inl rfl)) gb_name (by decide) (fun _ => rfl) (lc_mapN (wi_seq ?_))
      walk_at "go"
      refine q_ixL ch2 ?_
      rw [nI]
      walk_at "go"
      rw [show [D.int (2 + (((ch bs t).2.headD 0 : Nat) : Int))] ++ (kp bs (tg.drop a) fr bs.length).map nI = ((2 + (ch bs t).2.headD 0) :: kp bs (tg.drop a) fr bs.length).map nI from rfl]
      refine ⟨by rw [List.length_map, List.length_cons]; omega, id, ?_, ?_⟩
      · rintro B d hd X' ⟨_, _, _, _, _, rfl⟩
        obtain ⟨n, _, rfl⟩ := List.mem_map.mp hd
        rw [nI]
        walk_at "go"
        exact ⟨rfl, rfl⟩
      rw [List.map_id]
      refine q_minN (by simp) rfl ?_
      walk_at "go"
      refine we_lc (own := [("price", 8)]) rfl nd (blkOk_by (N := ["base", "target", "fresh", "amid", "at", "kept", "start", "many", "price"]) (sc := defScope (top 31)) (by decide +kernel)) (fun X' ⟨_, _, _, _, _, e⟩ => by subst e; exact pg_name (i := 8) nd rfl (Or.inl rfl)) gb_name (by decide) (fun _ => rfl) (lc_mapN (wi_seq ?_))
      walk_at "go"
      refine q_ixL ch2 ?_
      rw [nI]
      walk_at "go"
      rw [show [D.int (1 + (((ch bs t).2.headD 0 : Nat) : Int))] ++ (kp bs (tg.drop a) fr bs.length).map nI = ((1 + (ch bs t).2.headD 0) :: kp bs (tg.drop a) fr bs.length).map nI from rfl]
      refine ⟨by rw [List.length_map, List.length_cons]; omega, id, ?_, ?_⟩
      · rintro B d hd X' ⟨_, _, _, _, _, rfl⟩
        obtain ⟨n, _, rfl⟩ := List.mem_map.mp hd
        rw [nI]
        walk_at "go"
        exact ⟨rfl, rfl⟩
      rw [List.map_id]
      refine q_minN (by simp) rfl ?_
      walk_at "go"
      exact ⟨_, _, _, _, _, by rw [dr', ch, hfr, ← dr]; rfl⟩
  · rintro ρ' ⟨v4, v5, v6, v7, v8, rfl⟩
    rw [ups_length, Nat.sub_self, List.drop_zero]
    walk_at "go"
    refine q_ixL (ch1 (k := 0) (Nat.zero_le _)) ?_
    rw [nI, List.getD_eq_getElem?_getD, (ch_at bs tg).1 0 (Nat.zero_le _)]
    exact h
end
end
section
local macro_rules | `(tactic| walk_at "vis") => `(tactic| first | exact Or.inl rfl | exact Or.inr (Or.inl rfl) | exact Or.inr (Or.inr rfl))
local macro_rules | `(tactic| walk_at "v") => `(tactic| first
  | refine we_var (i := 0) rfl (by walk_at "vis") (by decide) (by decide) rfl ?_ | refine we_var (i := 1) rfl (by walk_at "vis") (by decide) (by decide) rfl ?_
  | refine we_var (i := 2) rfl (by walk_at "vis") (by decide) (by decide) rfl ?_ | refine we_var (i := 3) rfl (by walk_at "vis") (by decide) (by decide) rfl ?_
  | refine we_var (i := 4) rfl (by walk_at "vis") (by decide) (by decide) rfl ?_ | refine we_var (i := 5) rfl (by walk_at "vis") (by decide) (by decide) rfl ?_
  | refine we_var (i := 6) rfl (by walk_at "vis") (by decide) (by decide) rfl ?_ | refine we_var (i := 7) rfl (by walk_at "vis") (by decide) (by decide) rfl ?_
  | refine we_var (i := 8) rfl (by walk_at "vis") (by decide) (by decide) rfl ?_ | refine we_var (i := 9) rfl (by walk_at "vis") (by decide) (by decide) rfl ?_
  | refine we_var (i := 10) rfl (by walk_at "vis") (by decide) (by decide) rfl ?_ | refine we_var (i := 11) rfl (by walk_at "vis") (by decide) (by decide) rfl ?_
  | refine we_var (i := 12) rfl (by walk_at "vis") (by decide) (by decide) rfl ?_ | refine we_var (i := 13) rfl (by walk_at "vis") (by decide) (by decide) rfl ?_
  | refine we_var (i := 14) rfl (by walk_at "vis") (by decide) (by decide) rfl ?_ | refine we_var (i := 15) rfl (by walk_at "vis") (by decide) (by decide) rfl ?_ | refine we_var (i := 16) rfl (by walk_at "vis") (by decide) (by decide) rfl ?_ | refine we_var (i := 17) rfl (by walk_at "vis") (by decide) (by decide) rfl ?_)
local macro_rules | `(tactic| walk_at "c") => `(tactic| first
  | refine we_len (by assumption) rfl rfl ?_ | refine we_isi (by assumption) rfl rfl rfl rfl ?_ | refine we_int1 (by assumption) rfl rfl ?_
  | refine we_all rfl (by assumption) rfl rfl ?_ | refine we_any rfl (by assumption) rfl rfl ?_ | refine we_sum rfl (by assumption) rfl rfl ?_
  | refine we_list1 (by assumption) rfl rfl ?_ | refine we_tuple1 (by assumption) rfl rfl ?_ | refine we_min2 rfl (by assumption) rfl rfl rfl rfl ?_ | refine we_max2 rfl (by assumption) rfl rfl rfl rfl ?_
  | refine we_minL rfl (by assumption) rfl rfl ?_ | refine we_maxL rfl (by assumption) rfl rfl ?_
  | refine we_call (by assumption) (Room.mono (by assumption) (by decide)) rfl (by decide) rfl rfl ?_ | refine we_call0 (by assumption) (Room.mono (by assumption) (by decide)) rfl (by decide) ?_)
local macro_rules | `(tactic| walk_at "n") => `(tactic| first
  | walk_at "v"
  | refine we_tyInt (by assumption) rfl ?_ | refine we_tyBool (by assumption) rfl ?_ | refine we_tyStr (by assumption) rfl ?_ | refine we_tyList (by assumption) rfl ?_ | refine we_tyTuple (by assumption) rfl ?_ | refine we_tyDict (by assumption) rfl ?_
  | refine we_gInt rfl (by assumption) (by decide) ?_)
local macro_rules | `(tactic| walk_at "e") => `(tactic| first
  | ((with_reducible show WE _ _ (Expr.Constant _ _ _) _ _); first | refine we_int ?_ | refine we_str ?_ | refine we_bl ?_ | refine we_non ?_)
  | ((with_reducible show WE _ _ (Expr.Name _ _) _ _); walk_at "n")
  | ((with_reducible show WE _ _ (Expr.Call _ _ _ _) _ _); walk_at "c")
  | ((with_reducible show WE _ _ (Expr.BinOp _ _ _ _) _ _); first | refine we_add ?_ | refine we_sub ?_ | refine we_mul ?_ | refine we_mod ?_ | refine we_div ?_ | refine we_pow ?_)
  | ((with_reducible show WE _ _ (Expr.UnaryOp _ _ _) _ _); first | refine we_not ?_ | refine we_neg ?_)
  | ((with_reducible show WE _ _ (Expr.BoolOp _ _ _) _ _); first | refine we_one ?_ | refine we_and ?_ | refine we_or ?_)
  | ((with_reducible show WE _ _ (Expr.Compare _ _ _ _) _ _); first | refine we_lt ?_ | refine we_le ?_ | refine we_gt ?_ | refine we_ge ?_ | refine we_eq (Room.units (by assumption)) ?_ | refine we_ne (Room.units (by assumption)) ?_ | refine we_is ?_ | refine we_isN ?_ | refine we_in (units65 (by assumption)) rfl ?_ | refine we_notIn (units65 (by assumption)) rfl ?_ | refine we_lele rfl ?_)
  | ((with_reducible show WE _ _ (Expr.IfExp _ _ _ _) _ _); refine we_ifx ?_)
  | ((with_reducible show WE _ _ (Expr.Subscript _ _ _) _ _); first | refine we_rev ?_ | refine we_sl ?_ | refine we_ix ix_seq d_ix (fun _ _ => rfl) ?_)
  | ((with_reducible show WE _ _ (Expr.List _ _) _ _); refine we_lst ?_)
  | ((with_reducible show WE _ _ (Expr.Tuple _ _ _) _ _); refine we_tup ?_)
  | ((with_reducible show WO _ _ _ _ _ _); first | refine wo_none ?_ | refine wo_some ?_)
  | ((with_reducible show bName _ _ _ _); refine b_name ?_)
  | ((with_reducible show bTup _ _ _ _); first | refine b_tup2 ?_ | refine b_tup3 ?_ | refine b_tup rfl ?_)
  | ((with_reducible show WA _ _ _ _ _); first | refine wa_nil ?_ | refine wa_star rfl ?_ | refine wa_cons rfl ?_))
local macro_rules | `(tactic| walk_at "t") => `(tactic| first
  | ((with_reducible show WW _ _ _ _ _); first | refine ww_and1 ?_ | refine ww_or1 ?_ | refine ww_and ?_ | refine ww_or ?_)
  | ((with_reducible show WT _ _ (Expr.UnaryOp _ _ _) _ _); refine wt_not ?_)
  | ((with_reducible show WT _ _ (Expr.BoolOp _ _ _) _ _); refine wt_w ?_)
  | ((with_reducible show WT _ _ (Expr.Compare _ _ _ _) _ _); first | refine wt_lt ?_ | refine wt_le ?_ | refine wt_gt ?_ | refine wt_ge ?_ | refine wt_eq (Room.units (by assumption)) ?_ | refine wt_ne (Room.units (by assumption)) ?_ | refine wt_is ?_ | refine wt_isN ?_ | refine wt_in (units65 (by assumption)) rfl ?_ | refine wt_notIn (units65 (by assumption)) rfl ?_ | refine wt_val (fun _ => rfl) ?_)
  | ((with_reducible show WT _ _ _ _ _); refine wt_val (fun _ => rfl) ?_))
local macro_rules | `(tactic| walk_at "set") => `(tactic| first
  | refine ws_set (i := 0) (by assumption) rfl (by walk_at "vis") rfl (Or.inl rfl) ?_ | refine ws_set (i := 1) (by assumption) rfl (by first | exact Or.inl rfl | exact Or.inr rfl) rfl (Or.inl rfl) ?_
  | refine ws_set (i := 2) (by assumption) rfl (by first | exact Or.inl rfl | exact Or.inr rfl) rfl (Or.inl rfl) ?_ | refine ws_set (i := 3) (by assumption) rfl (by first | exact Or.inl rfl | exact Or.inr rfl) rfl (Or.inl rfl) ?_
  | refine ws_set (i := 4) (by assumption) rfl (by first | exact Or.inl rfl | exact Or.inr rfl) rfl (Or.inl rfl) ?_ | refine ws_set (i := 5) (by assumption) rfl (by first | exact Or.inl rfl | exact Or.inr rfl) rfl (Or.inl rfl) ?_
  | refine ws_set (i := 6) (by assumption) rfl (by first | exact Or.inl rfl | exact Or.inr rfl) rfl (Or.inl rfl) ?_ | refine ws_set (i := 7) (by assumption) rfl (by first | exact Or.inl rfl | exact Or.inr rfl) rfl (Or.inl rfl) ?_
  | refine ws_set (i := 8) (by assumption) rfl (by first | exact Or.inl rfl | exact Or.inr rfl) rfl (Or.inl rfl) ?_ | refine ws_set (i := 9) (by assumption) rfl (by first | exact Or.inl rfl | exact Or.inr rfl) rfl (Or.inl rfl) ?_
  | refine ws_set (i := 10) (by assumption) rfl (by first | exact Or.inl rfl | exact Or.inr rfl) rfl (Or.inl rfl) ?_ | refine ws_set (i := 11) (by assumption) rfl (by first | exact Or.inl rfl | exact Or.inr rfl) rfl (Or.inl rfl) ?_
  | refine ws_set (i := 12) (by assumption) rfl (by first | exact Or.inl rfl | exact Or.inr rfl) rfl (Or.inl rfl) ?_ | refine ws_set (i := 13) (by assumption) rfl (by first | exact Or.inl rfl | exact Or.inr rfl) rfl (Or.inl rfl) ?_
  | refine ws_set (i := 14) (by assumption) rfl (by first | exact Or.inl rfl | exact Or.inr rfl) rfl (Or.inl rfl) ?_
  | refine ws_set (i := 15) (by assumption) rfl (by first | exact Or.inl rfl | exact Or.inr rfl) rfl (Or.inl rfl) ?_
  | refine ws_set (i := 16) (by assumption) rfl (by first | exact Or.inl rfl | exact Or.inr rfl) rfl (Or.inl rfl) ?_
  | refine ws_set (i := 17) (by assumption) rfl (by first | exact Or.inl rfl | exact Or.inr rfl) rfl (Or.inl rfl) ?_)
local macro_rules | `(tactic| walk_at "s") => `(tactic| first
  | ((with_reducible show WSs _ _ _ _ _); first | refine wss_cons ?_ | refine wss_nil ?_)
  | ((with_reducible show WS _ _ (Stmt.Return _ _) _ _); refine ws_ret ?_)
  | ((with_reducible show WS _ _ (Stmt.If _ _ _ _) _ _); refine ws_if ?_)
  | ((with_reducible show WS _ _ (Stmt.Assign [Expr.Name _ _] _ _) _ _); (fail_if_success (with_reducible show WS _ _ (Stmt.Assign [Expr.Name _ _] (Expr.List [] _) _) _ _)); walk_at "set"))
local macro_rules | `(tactic| walk_at "z") => `(tactic| first | decide | omega | (simp only [List.length_map, List.length_append, List.length_cons, List.length_nil, List.length_replicate]; omega))
local macro_rules | `(tactic| walk_at "p") => `(tactic| first
  | ((with_reducible show fr _ _ _); first | refine fr_non ?_ | refine fr_bl ?_ | refine fr_int ?_ | refine fr_str ?_ | refine fr_raw ?_ | refine fr_lst ?_ | refine fr_tup ?_ | refine fr_own ?_ | refine fr_dct ?_ | refine fr_ins ?_)
  | ((with_reducible show pAdd _ _ _); first | refine q_addI ?_ | refine q_addL (by walk_at "z") ?_ | refine q_addS (by walk_at "z") ?_)
  | ((with_reducible show pSub _ _ _); refine q_sub ?_)
  | ((with_reducible show pMod _ _ _); refine q_mod (by walk_at "z") ?_)
  | ((with_reducible show pMul _ _ _); first | refine q_mulI (by first | (refine Or.inl ⟨?_, ?_⟩ <;> walk_at "z") | (refine Or.inr ⟨?_, ?_⟩ <;> walk_at "z")) ?_ | refine q_mulL ⟨by walk_at "z", by walk_at "z", by walk_at "z"⟩ ?_)
  | ((with_reducible show pDiv _ _ _); refine q_div ⟨by walk_at "z", by walk_at "z"⟩ ?_)
  | ((with_reducible show pPow _ _ _); refine q_pow ⟨by walk_at "z", by walk_at "z", by walk_at "z"⟩ ?_)
  | ((with_reducible show pLt _ _ _); refine q_lt ?_) | ((with_reducible show pLe _ _ _); refine q_le ?_) | ((with_reducible show pGt _ _ _); refine q_gt ?_) | ((with_reducible show pGe _ _ _); refine q_ge ?_)
  | ((with_reducible show pNeg _ _); refine q_neg ?_) | ((with_reducible show pIs _ _ _); refine q_is ?_) | ((with_reducible show pIsN _ _ _); refine q_isN ?_)
  | ((with_reducible show pInt1 _ _); first | refine q_int ?_ | refine q_intB ?_)
  | ((with_reducible show pLen _ _); first | refine q_lenL ?_ | refine q_lenT ?_ | refine q_lenR ?_ | refine q_lenS (by walk_at "z") ?_)
  | ((with_reducible show pMax2 _ _); refine q_max2 ?_) | ((with_reducible show pMin2 _ _); refine q_min2 ?_)
  | ((with_reducible show pList _ _); first | refine q_listL ?_ | refine q_listT ?_)
  | ((with_reducible show pTuple _ _); first | refine q_tupL ?_ | refine q_tupT ?_)
  | ((with_reducible show pEq _ _ _); first | refine q_eqI ?_ | (with_reducible refine eqS_kp ?_) | (with_reducible refine eqS_pk ?_) | (with_reducible refine eqS_kk ?_) | (with_reducible refine eqS_pp ?_) | refine q_eqL ?_ | refine q_eqS (by decide) (by decide) ?_)
  | ((with_reducible show pNe _ _ _); first | refine q_neI ?_ | (with_reducible refine neS_pp ?_) | refine q_neL ?_ | refine q_neS (by decide) (by decide) ?_)
  | ((with_reducible show pIter _ _); first | refine q_iterL ?_ | refine q_iterT ?_)
  | ((with_reducible show pIx _ _ _); first | (with_reducible refine q_ixT atI0 ?_) | (with_reducible refine q_ixT atI1 ?_) | (with_reducible refine q_ixT atI2 ?_) | (with_reducible refine q_ixL atI0 ?_))
  | ((with_reducible show pSl _ _ _ _); refine q_slL ?_)
  | ((with_reducible show pIsi _ _); first | refine q_isiT rfl (by decide) rfl ?_ | refine q_isiF rfl (by decide) rfl ?_ | refine q_isi rfl (by decide) ?_)
  | ((with_reducible show _ ≤ 1000000 ∧ _); refine ⟨by walk_at "z", ?_⟩) | ((with_reducible show _ < 900000 ∧ _); refine ⟨by walk_at "z", ?_⟩))
local macro_rules | `(tactic| walk_at "new") => `(tactic| first
  | refine ws_new (i := 0) (by assumption) rfl (by first | exact Or.inl rfl | exact Or.inr rfl) rfl (Or.inl rfl) ?_
  | refine ws_new (i := 1) (by assumption) rfl (by first | exact Or.inl rfl | exact Or.inr rfl) rfl (Or.inl rfl) ?_
  | refine ws_new (i := 2) (by assumption) rfl (by first | exact Or.inl rfl | exact Or.inr rfl) rfl (Or.inl rfl) ?_
  | refine ws_new (i := 3) (by assumption) rfl (by first | exact Or.inl rfl | exact Or.inr rfl) rfl (Or.inl rfl) ?_
  | refine ws_new (i := 4) (by assumption) rfl (by first | exact Or.inl rfl | exact Or.inr rfl) rfl (Or.inl rfl) ?_
  | refine ws_new (i := 5) (by assumption) rfl (by first | exact Or.inl rfl | exact Or.inr rfl) rfl (Or.inl rfl) ?_
  | refine ws_new (i := 6) (by assumption) rfl (by first | exact Or.inl rfl | exact Or.inr rfl) rfl (Or.inl rfl) ?_
  | refine ws_new (i := 7) (by assumption) rfl (by first | exact Or.inl rfl | exact Or.inr rfl) rfl (Or.inl rfl) ?_
  | refine ws_new (i := 8) (by assumption) rfl (by first | exact Or.inl rfl | exact Or.inr rfl) rfl (Or.inl rfl) ?_
  | refine ws_new (i := 9) (by assumption) rfl (by first | exact Or.inl rfl | exact Or.inr rfl) rfl (Or.inl rfl) ?_
  | refine ws_new (i := 10) (by assumption) rfl (by first | exact Or.inl rfl | exact Or.inr rfl) rfl (Or.inl rfl) ?_
  | refine ws_new (i := 11) (by assumption) rfl (by first | exact Or.inl rfl | exact Or.inr rfl) rfl (Or.inl rfl) ?_
  | refine ws_new (i := 12) (by assumption) rfl (by first | exact Or.inl rfl | exact Or.inr rfl) rfl (Or.inl rfl) ?_
  | refine ws_new (i := 13) (by assumption) rfl (by first | exact Or.inl rfl | exact Or.inr rfl) rfl (Or.inl rfl) ?_
  | refine ws_new (i := 14) (by assumption) rfl (by first | exact Or.inl rfl | exact Or.inr rfl) rfl (Or.inl rfl) ?_
  | refine ws_new (i := 15) (by assumption) rfl (by first | exact Or.inl rfl | exact Or.inr rfl) rfl (Or.inl rfl) ?_)
local macro_rules | `(tactic| walk_at "app") => `(tactic| first
  | refine ws_app (i := 0) rfl (by walk_at "vis") (by decide) (by decide) rfl rfl rfl rfl rfl rfl rfl ?_
  | refine ws_app (i := 1) rfl (by walk_at "vis") (by decide) (by decide) rfl rfl rfl rfl rfl rfl rfl ?_
  | refine ws_app (i := 2) rfl (by walk_at "vis") (by decide) (by decide) rfl rfl rfl rfl rfl rfl rfl ?_
  | refine ws_app (i := 3) rfl (by walk_at "vis") (by decide) (by decide) rfl rfl rfl rfl rfl rfl rfl ?_
  | refine ws_app (i := 4) rfl (by walk_at "vis") (by decide) (by decide) rfl rfl rfl rfl rfl rfl rfl ?_
  | refine ws_app (i := 5) rfl (by walk_at "vis") (by decide) (by decide) rfl rfl rfl rfl rfl rfl rfl ?_
  | refine ws_app (i := 6) rfl (by walk_at "vis") (by decide) (by decide) rfl rfl rfl rfl rfl rfl rfl ?_
  | refine ws_app (i := 7) rfl (by walk_at "vis") (by decide) (by decide) rfl rfl rfl rfl rfl rfl rfl ?_
  | refine ws_app (i := 8) rfl (by walk_at "vis") (by decide) (by decide) rfl rfl rfl rfl rfl rfl rfl ?_
  | refine ws_app (i := 9) rfl (by walk_at "vis") (by decide) (by decide) rfl rfl rfl rfl rfl rfl rfl ?_
  | refine ws_app (i := 10) rfl (by walk_at "vis") (by decide) (by decide) rfl rfl rfl rfl rfl rfl rfl ?_
  | refine ws_app (i := 11) rfl (by walk_at "vis") (by decide) (by decide) rfl rfl rfl rfl rfl rfl rfl ?_
  | refine ws_app (i := 12) rfl (by walk_at "vis") (by decide) (by decide) rfl rfl rfl rfl rfl rfl rfl ?_
  | refine ws_app (i := 13) rfl (by walk_at "vis") (by decide) (by decide) rfl rfl rfl rfl rfl rfl rfl ?_
  | refine ws_app (i := 14) rfl (by walk_at "vis") (by decide) (by decide) rfl rfl rfl rfl rfl rfl rfl ?_
  | refine ws_app (i := 15) rfl (by walk_at "vis") (by decide) (by decide) rfl rfl rfl rfl rfl rfl rfl ?_)
local macro_rules | `(tactic| walk_at "ext") => `(tactic| first
  | refine ws_ext (i := 0) rfl (by walk_at "vis") (by decide) (by decide) rfl rfl rfl rfl rfl rfl rfl ?_
  | refine ws_ext (i := 1) rfl (by walk_at "vis") (by decide) (by decide) rfl rfl rfl rfl rfl rfl rfl ?_
  | refine ws_ext (i := 2) rfl (by walk_at "vis") (by decide) (by decide) rfl rfl rfl rfl rfl rfl rfl ?_
  | refine ws_ext (i := 3) rfl (by walk_at "vis") (by decide) (by decide) rfl rfl rfl rfl rfl rfl rfl ?_
  | refine ws_ext (i := 4) rfl (by walk_at "vis") (by decide) (by decide) rfl rfl rfl rfl rfl rfl rfl ?_
  | refine ws_ext (i := 5) rfl (by walk_at "vis") (by decide) (by decide) rfl rfl rfl rfl rfl rfl rfl ?_
  | refine ws_ext (i := 6) rfl (by walk_at "vis") (by decide) (by decide) rfl rfl rfl rfl rfl rfl rfl ?_
  | refine ws_ext (i := 7) rfl (by walk_at "vis") (by decide) (by decide) rfl rfl rfl rfl rfl rfl rfl ?_
  | refine ws_ext (i := 8) rfl (by walk_at "vis") (by decide) (by decide) rfl rfl rfl rfl rfl rfl rfl ?_
  | refine ws_ext (i := 9) rfl (by walk_at "vis") (by decide) (by decide) rfl rfl rfl rfl rfl rfl rfl ?_
  | refine ws_ext (i := 10) rfl (by walk_at "vis") (by decide) (by decide) rfl rfl rfl rfl rfl rfl rfl ?_
  | refine ws_ext (i := 11) rfl (by walk_at "vis") (by decide) (by decide) rfl rfl rfl rfl rfl rfl rfl ?_
  | refine ws_ext (i := 12) rfl (by walk_at "vis") (by decide) (by decide) rfl rfl rfl rfl rfl rfl rfl ?_
  | refine ws_ext (i := 13) rfl (by walk_at "vis") (by decide) (by decide) rfl rfl rfl rfl rfl rfl rfl ?_
  | refine ws_ext (i := 14) rfl (by walk_at "vis") (by decide) (by decide) rfl rfl rfl rfl rfl rfl rfl ?_
  | refine ws_ext (i := 15) rfl (by walk_at "vis") (by decide) (by decide) rfl rfl rfl rfl rfl rfl rfl ?_)
local macro_rules | `(tactic| walk_at "ins0") => `(tactic| first
  | refine ws_ins0 (i := 0) rfl (by walk_at "vis") (by decide) (by decide) rfl rfl rfl rfl rfl rfl rfl ?_
  | refine ws_ins0 (i := 1) rfl (by walk_at "vis") (by decide) (by decide) rfl rfl rfl rfl rfl rfl rfl ?_
  | refine ws_ins0 (i := 2) rfl (by walk_at "vis") (by decide) (by decide) rfl rfl rfl rfl rfl rfl rfl ?_
  | refine ws_ins0 (i := 3) rfl (by walk_at "vis") (by decide) (by decide) rfl rfl rfl rfl rfl rfl rfl ?_
  | refine ws_ins0 (i := 4) rfl (by walk_at "vis") (by decide) (by decide) rfl rfl rfl rfl rfl rfl rfl ?_
  | refine ws_ins0 (i := 5) rfl (by walk_at "vis") (by decide) (by decide) rfl rfl rfl rfl rfl rfl rfl ?_
  | refine ws_ins0 (i := 6) rfl (by walk_at "vis") (by decide) (by decide) rfl rfl rfl rfl rfl rfl rfl ?_
  | refine ws_ins0 (i := 7) rfl (by walk_at "vis") (by decide) (by decide) rfl rfl rfl rfl rfl rfl rfl ?_
  | refine ws_ins0 (i := 8) rfl (by walk_at "vis") (by decide) (by decide) rfl rfl rfl rfl rfl rfl rfl ?_
  | refine ws_ins0 (i := 9) rfl (by walk_at "vis") (by decide) (by decide) rfl rfl rfl rfl rfl rfl rfl ?_
  | refine ws_ins0 (i := 10) rfl (by walk_at "vis") (by decide) (by decide) rfl rfl rfl rfl rfl rfl rfl ?_
  | refine ws_ins0 (i := 11) rfl (by walk_at "vis") (by decide) (by decide) rfl rfl rfl rfl rfl rfl rfl ?_
  | refine ws_ins0 (i := 12) rfl (by walk_at "vis") (by decide) (by decide) rfl rfl rfl rfl rfl rfl rfl ?_
  | refine ws_ins0 (i := 13) rfl (by walk_at "vis") (by decide) (by decide) rfl rfl rfl rfl rfl rfl rfl ?_
  | refine ws_ins0 (i := 14) rfl (by walk_at "vis") (by decide) (by decide) rfl rfl rfl rfl rfl rfl rfl ?_
  | refine ws_ins0 (i := 15) rfl (by walk_at "vis") (by decide) (by decide) rfl rfl rfl rfl rfl rfl rfl ?_)
local macro_rules | `(tactic| walk_at "retOwn") => `(tactic| first
  | refine ws_retOwn (i := 0) rfl (by walk_at "vis") (by decide) (by decide) rfl ?_
  | refine ws_retOwn (i := 1) rfl (by walk_at "vis") (by decide) (by decide) rfl ?_
  | refine ws_retOwn (i := 2) rfl (by walk_at "vis") (by decide) (by decide) rfl ?_
  | refine ws_retOwn (i := 3) rfl (by walk_at "vis") (by decide) (by decide) rfl ?_
  | refine ws_retOwn (i := 4) rfl (by walk_at "vis") (by decide) (by decide) rfl ?_
  | refine ws_retOwn (i := 5) rfl (by walk_at "vis") (by decide) (by decide) rfl ?_
  | refine ws_retOwn (i := 6) rfl (by walk_at "vis") (by decide) (by decide) rfl ?_
  | refine ws_retOwn (i := 7) rfl (by walk_at "vis") (by decide) (by decide) rfl ?_
  | refine ws_retOwn (i := 8) rfl (by walk_at "vis") (by decide) (by decide) rfl ?_
  | refine ws_retOwn (i := 9) rfl (by walk_at "vis") (by decide) (by decide) rfl ?_
  | refine ws_retOwn (i := 10) rfl (by walk_at "vis") (by decide) (by decide) rfl ?_
  | refine ws_retOwn (i := 11) rfl (by walk_at "vis") (by decide) (by decide) rfl ?_
  | refine ws_retOwn (i := 12) rfl (by walk_at "vis") (by decide) (by decide) rfl ?_
  | refine ws_retOwn (i := 13) rfl (by walk_at "vis") (by decide) (by decide) rfl ?_
  | refine ws_retOwn (i := 14) rfl (by walk_at "vis") (by decide) (by decide) rfl ?_
  | refine ws_retOwn (i := 15) rfl (by walk_at "vis") (by decide) (by decide) rfl ?_)
local macro_rules | `(tactic| walk_at "ixOwn") => `(tactic| first
  | refine we_ixOwn (i := 0) rfl (by walk_at "vis") (by decide) (by decide) rfl (fun _ _ => rfl) ?_
  | refine we_ixOwn (i := 1) rfl (by walk_at "vis") (by decide) (by decide) rfl (fun _ _ => rfl) ?_
  | refine we_ixOwn (i := 2) rfl (by walk_at "vis") (by decide) (by decide) rfl (fun _ _ => rfl) ?_
  | refine we_ixOwn (i := 3) rfl (by walk_at "vis") (by decide) (by decide) rfl (fun _ _ => rfl) ?_
  | refine we_ixOwn (i := 4) rfl (by walk_at "vis") (by decide) (by decide) rfl (fun _ _ => rfl) ?_
  | refine we_ixOwn (i := 5) rfl (by walk_at "vis") (by decide) (by decide) rfl (fun _ _ => rfl) ?_
  | refine we_ixOwn (i := 6) rfl (by walk_at "vis") (by decide) (by decide) rfl (fun _ _ => rfl) ?_
  | refine we_ixOwn (i := 7) rfl (by walk_at "vis") (by decide) (by decide) rfl (fun _ _ => rfl) ?_
  | refine we_ixOwn (i := 8) rfl (by walk_at "vis") (by decide) (by decide) rfl (fun _ _ => rfl) ?_
  | refine we_ixOwn (i := 9) rfl (by walk_at "vis") (by decide) (by decide) rfl (fun _ _ => rfl) ?_
  | refine we_ixOwn (i := 10) rfl (by walk_at "vis") (by decide) (by decide) rfl (fun _ _ => rfl) ?_
  | refine we_ixOwn (i := 11) rfl (by walk_at "vis") (by decide) (by decide) rfl (fun _ _ => rfl) ?_
  | refine we_ixOwn (i := 12) rfl (by walk_at "vis") (by decide) (by decide) rfl (fun _ _ => rfl) ?_
  | refine we_ixOwn (i := 13) rfl (by walk_at "vis") (by decide) (by decide) rfl (fun _ _ => rfl) ?_
  | refine we_ixOwn (i := 14) rfl (by walk_at "vis") (by decide) (by decide) rfl (fun _ _ => rfl) ?_
  | refine we_ixOwn (i := 15) rfl (by walk_at "vis") (by decide) (by decide) rfl (fun _ _ => rfl) ?_)
local macro_rules | `(tactic| walk_at "go") => `(tactic| repeat (first | walk_at "e" | walk_at "t" | walk_at "s" | walk_at "p" | (with_reducible refine ⟨_, rfl, ?_⟩) | (with_reducible refine ⟨_, Or.inl rfl, ?_⟩) | (with_reducible refine ⟨_, Or.inr rfl, ?_⟩) | (with_reducible refine iteT ?_) | (with_reducible refine iteF ?_) | (with_reducible refine iteNT ?_) | (with_reducible refine iteNF ?_)))
local macro_rules | `(tactic| walk_at "s0") => `(tactic| first
  | ((with_reducible show WSs _ _ _ _ _); first | refine wss_cons ?_ | refine wss_nil ?_)
  | ((with_reducible show WS _ _ (Stmt.Return _ _) _ _); refine ws_ret ?_)
  | ((with_reducible show WS _ _ (Stmt.Assign [Expr.Name _ _] _ _) _ _); (fail_if_success (with_reducible show WS _ _ (Stmt.Assign [Expr.Name _ _] (Expr.List [] _) _) _ _)); walk_at "set"))
local macro_rules | `(tactic| walk_at "go0") => `(tactic| repeat (first | walk_at "e" | walk_at "t" | walk_at "s0" | walk_at "p" | (with_reducible refine ⟨_, rfl, ?_⟩) | (with_reducible refine ⟨_, Or.inl rfl, ?_⟩) | (with_reducible refine ⟨_, Or.inr rfl, ?_⟩) | (with_reducible refine iteT ?_) | (with_reducible refine iteF ?_) | (with_reducible refine iteNT ?_) | (with_reducible refine iteNF ?_)))
open Ch
theorem sc32 : FnScope ["script", "k", "pool", "base", "one", "two", "more", "number", "cost", "names", "renamed", "first", "place"] ["script"] (defScope (top 32)) := ⟨rfl, rfl, rfl, by decide +kernel, rfl, by decide +kernel, by decide +kernel⟩
def pLaw : DSp := fun G ds R => ∃ ns : List Int, ds = [.scr ns] ∧ ns.length ≤ 63 ∧ ∀ G', R G' (.bl true)
def nm (x : Int) : Int := if x = 0 then 10 ^ 30 else if x = 1 then -5 else 0
def mn' (y : Int) : Int := if y = 10 ^ 30 then 0 else if y = -5 then 1 else 2
theorem mn_nm {x : Int} (h : 0 ≤ x ∧ x < 3) : mn' (nm x) = x := by
  have : x = 0 ∨ x = 1 ∨ x = 2 := by omega
  rcases this with rfl | rfl | rfl <;> decide
section
variable {Pr : Program} {w : World} {K : PySem.W.Frag} {mg : Str → Option Value} {base : Heap}
theorem ok32 {f : Addr} {fd : FuncData} (F : Fun K "law" "law" (top 32) f fd) (b : Bi mg) (cO : Cal Pr w K mg base 3 "_law_opened" pOpened) (cD : Cal Pr w K mg base 1 "_law_draw" pDraw) (cC : Cal Pr w K mg base 2 "_law_contents" pCont)
    (cL : Cal Pr w K mg base 4 "least_cost" pLC) (cH : Cal Pr w K mg base 4 "change_of" pChO) (cM : Cal Pr w K mg base 5 "made" pMade) (cK : Cal Pr w K mg base 1 "_law_cheapest" pCheap) : FnOk Pr w K mg base CX0 6 f fd ["script"] (toSp K pLaw) := by
  refine def_ok F sc32 (fun G ds R ⟨_, e, _⟩ => by rw [e]; rfl) fun cdv A outer s H0 E0 C ds R hr hp => ?_
  obtain ⟨ns, rfl, hl, h⟩ := hp
  have nd := sc32.nd
  refine wss_cons ?_
  refine ws_for PassesOwn.never rfl (pg_name (i := 1) nd rfl (.inl rfl)) gb_name (fun _ => rfl) (wi_range1 rfl b.range rfl ?_)
  walk_at "go"
  obtain ⟨n, hn, hn0⟩ : ∃ n : Nat, (if (if (6 : Int) < ((ns.length : Nat) : Int) then (6 : Int) else ((ns.length : Nat) : Int)) > 1 then (if (6 : Int) < ((ns.length : Nat) : Int) then (6 : Int) else ((ns.length : Nat) : Int)) else 1) = (n : Int) ∧ n ≤ 6 ∧ (ns ≠ [] → n ≤ ns.length) := by
    refine ⟨max 1 (min ns.length 6), ?_, by omega, fun hne => ?_⟩
    · split <;> split <;> omega
    · have := List.length_pos_iff.mpr hne
      omega
  rw [hn]
  refine ⟨by omega, by omega, ?_⟩
  rw [Int.toNat_natCast]
  refine ⟨fun i ρ' => ∃ G v1 v2 v3 v4 v5 v6 v7 v8 v9 v10 v11 v12, ρ' = ⟨G, [.sh (.scr ns), v1, v2, v3, v4, v5, v6, v7, v8, v9, v10, v11, v12]⟩, ⟨_, _, _, _, _, _, _, _, _, _, _, _, _, rfl⟩, ?_, ?_⟩
  · rintro B i d ρ' hd ⟨G, v1, v2, v3, v4, v5, v6, v7, v8, v9, v10, v11, v12, rfl⟩
    obtain ⟨hi, rfl⟩ := ups_get' hd
    refine b_name (wss_sl (sl' := [_, _, _, _, _, _, _, _, _, _, _, _, _]) rfl ?_)
    walk_at "go"
    refine ⟨ns, _, _, rfl, by omega, by omega, fun hne => by have := hn0.2 hne; omega, by omega, by omega, fun p l => ?_⟩
    walk_at "go"
    refine ws_par3 (i := 3) (j := 4) (l := 5) rfl nd rfl rfl rfl (by decide) (by decide) (by decide) rfl rfl rfl rfl rfl ?_
    walk_at "go"
    refine ⟨p, l, 9, rfl, rfl, by omega, fun bs bl bx => ?_⟩
    unfold iL
    walk_at "go"
    refine ⟨p, l, 9, rfl, rfl, by omega, fun on ol ox => ?_⟩
    unfold iL
    walk_at "go"
    refine ⟨p, l, 9, rfl, rfl, by omega, fun tw wl wx => ?_⟩
    unfold iL
    walk_at "go"
    refine ⟨_, _, _, rfl, wss_sl (sl' := [_, _, _, _, _, _, _, _, _, _, _, _, _]) rfl ?_⟩
    refine wss_cons (ws_par (i := 6) (j := 7) rfl nd rfl rfl (by decide) rfl rfl rfl rfl ?_)
    walk_at "go"
    refine ⟨p, l, 9, rfl, rfl, by omega, fun mo ml mx => ?_⟩
    unfold iL
    walk_at "go"
    refine ⟨p, l, 3, rfl, rfl, by omega, fun nu u0 u1 => ?_⟩
    walk_at "go"
    refine ⟨_, _, rfl, wss_sl (sl' := [_, _, _, _, _, _, _, _, _, _, _, _, _]) rfl ?_⟩
    walk_at "go"
    have q1 := lc_more bs mo on
    have q2 := lc_two bs on tw
    have q3 := lc_snoc_le bs on nu
    have q4 := lc_snoc bs on nu
    have q5 := lc_cons bs on nu
    have q6 := lc_whole bs on
    refine ⟨bs, on, rfl, by omega, by omega, ?_⟩
    walk_at "go"
    refine ⟨bs ++ mo, on, by rw [iL, List.map_append]; rfl, by rw [List.length_append]; omega, by omega, ?_⟩
    walk_at "go"
    refine iteFd (decide_eq_false (by omega)) ?_
    walk_at "go"
    refine ⟨mo ++ bs, on, by rw [iL, List.map_append]; rfl, by rw [List.length_append]; omega, by omega, ?_⟩
    walk_at "go"
    refine iteFd (decide_eq_false (by omega)) ?_
    walk_at "go"
    refine ⟨bs, on ++ tw, by rw [iL, iL, List.map_append], by omega, by rw [List.length_append]; omega, ?_⟩
    walk_at "go"
    refine ⟨bs, tw, rfl, by omega, by omega, ?_⟩
    walk_at "go"
    refine iteFd (decide_eq_false (by omega)) ?_
    walk_at "go"
    refine ⟨bs, on ++ [nu], by rw [iL, iL, List.map_append]; rfl, by omega, by rw [List.length_append, List.length_singleton]; omega, ?_⟩
    walk_at "go"
    refine iteFd (decide_eq_false (by omega)) ?_
    walk_at "go"
    refine ⟨bs, on ++ [nu], by rw [iL, iL, List.map_append]; rfl, by omega, by rw [List.length_append, List.length_singleton]; omega, ?_⟩
    walk_at "go"
    refine iteFd (decide_eq_false (by omega)) ?_
    walk_at "go"
    refine ⟨bs, nu :: on, rfl, by omega, by rw [List.length_cons]; omega, ?_⟩
    walk_at "go"
    refine iteFd (decide_eq_false (by omega)) ?_
    walk_at "go"
    refine ws_setLc (i := 10) (own := [("place", 12)]) rfl nd rfl rfl rfl (blkOk_by (N := ["script", "k", "pool", "base", "one", "two", "more", "number", "cost", "names", "renamed", "first", "place"]) (sc := defScope (top 32)) (by decide +kernel)) (fun X' ⟨_, _, _, _, _, e⟩ => by subst e; exact pg_name (i := 12) nd rfl (Or.inl rfl)) gb_name (by decide) (fun _ => rfl) (lc_mapN (wi_seq ?_))
    walk_at "go"
    refine ⟨by rw [List.length_map]; omega, fun d => match d with | .int x => .int (nm x) | _ => .non, ?_, ?_⟩
    · rintro B d hd X' ⟨_, _, _, _, _, rfl⟩
      obtain ⟨x, hx, rfl⟩ := List.mem_map.mp hd
      walk_at "go"
      refine q_ixL (d := .int (nm x)) ?_ ⟨rfl, rfl⟩
      have := bx x hx
      have : x = 0 ∨ x = 1 ∨ x = 2 := by omega
      rcases this with rfl | rfl | rfl
      · exact atI0
      · exact atI1
      · exact atI2
    rw [List.map_map]
    refine wss_sl (sl' := [_, _, _, _, _, _, _, _, _, _, _, _, _]) rfl ?_
    walk_at "go"
    refine we_lc (own := [("place", 12)]) rfl nd (blkOk_by (N := ["script", "k", "pool", "base", "one", "two", "more", "number", "cost", "names", "renamed", "first", "place"]) (sc := defScope (top 32)) (by decide +kernel)) (fun X' ⟨_, _, _, _, _, e⟩ => by subst e; exact pg_name (i := 12) nd rfl (Or.inl rfl)) gb_name (by decide) (fun _ => rfl) (lc_mapN (wi_seq ?_))
    walk_at "go"
    refine ⟨by rw [List.length_map]; omega, fun d => match d with | .int x => .int (nm x) | _ => .non, ?_, ?_⟩
    · rintro B d hd X' ⟨_, _, _, _, _, rfl⟩
      obtain ⟨x, hx, rfl⟩ := List.mem_map.mp hd
      walk_at "go"
      refine q_ixL (d := .int (nm x)) ?_ ⟨rfl, rfl⟩
      have := ox x hx
      have : x = 0 ∨ x = 1 ∨ x = 2 := by omega
      rcases this with rfl | rfl | rfl
      · exact atI0
      · exact atI1
      · exact atI2
    rw [List.map_map]
    walk_at "go"
    refine ⟨bs.map nm, on.map nm, by rw [iL, iL, List.map_map, List.map_map]; rfl, by rw [List.length_map]; omega, by rw [List.length_map]; omega, ?_⟩
    rw [lc_map bs on nm mn' (fun x hx => mn_nm (bx x hx)) (fun x hx => mn_nm (ox x hx))]
    walk_at "go"
    refine iteFd (by simp) ?_
    walk_at "go"
    refine ⟨bs.reverse, on.reverse, by rw [iL, iL, List.map_reverse, List.map_reverse], by rw [List.length_reverse]; omega, by rw [List.length_reverse]; omega, ?_⟩
    rw [lc_rev]
    walk_at "go"
    refine iteFd (by simp) ?_
    walk_at "go"
    have g1 := good_F bs on
    have g2 := good_F on tw
    refine ⟨bs, on, rfl, by omega, by omega, ?_⟩
    unfold edsD
    walk_at "go"
    refine ⟨(Ch.F bs on).2, bs, rfl, by omega, g1.ok, g1.apart, by rw [g1.made]; omega, ?_⟩
    rw [g1.made]
    unfold iL
    walk_at "go"
    refine ⟨on, tw, rfl, by omega, by omega, ?_⟩
    unfold edsD
    walk_at "go"
    refine ⟨(Ch.F on tw).2, on, rfl, by omega, g2.ok, g2.apart, by rw [g2.made]; omega, ?_⟩
    rw [g2.made]
    unfold iL
    walk_at "go"
    refine iteFd (by simp) ?_
    walk_at "go"
    rw [List.length_map]
    refine iteFd (decide_eq_false (by omega)) ?_
    walk_at "go"
    refine ⟨bs, on, rfl, by omega, by omega, ?_⟩
    walk_at "go"
    refine iteFd (by simp) ?_
    walk_at "go"
    exact ⟨_, _, _, _, _, _, _, _, _, _, _, _, _, rfl⟩
  · rintro ρ' ⟨G, v1, v2, v3, v4, v5, v6, v7, v8, v9, v10, v11, v12, rfl⟩
    walk_at "go"
    exact h G
end
end
section
/-- nothing is watched -/
def g0 : Gd where
  own _ := False
  inv _ := True
  st := fun _ _ _ _ => trivial
def spL (K : PySem.W.Frag) : Sp := fun vs H Q _ => ∃ (a : Addr) (ns : List Int), ns.length ≤ 63 ∧ vs = [.ref a] ∧ SqL K H a (ns.map V.int) ∧ ∀ H', Q (.bl true) H'
theorem spL_of {K : PySem.W.Frag} (vs : List V) (H : Hp) (Q : VK) (E : XK) (h : spL K vs H Q E) : toSp K pLaw vs H Q E := by
  obtain ⟨a, ns, hl, rfl, hS, q⟩ := h
  refine ⟨g0, H, [.scr ns], fun _ d => d = .bl true, ⟨fun _ _ z => z, trivial, fun _ z => z.elim, fun _ z => z.elim⟩, RpL.one (by rw [Rp]; exact ⟨a, rfl, hS⟩), ⟨ns, rfl, hl, fun _ => rfl⟩, fun v H' G' d F' _ r e => ?_, fun p us H' G' es F' _ _ _ _ _ _ e => (nomatch e)⟩
  subst e
  rw [Rp] at r
  subst r
  exact q H'
theorem all_mk {l : PySem.W.OpenLaw} {w : World} {K : PySem.W.Frag} {h : Heap} {mg : Str → Option Value} {fa f5 f6 f10 f11 f12 f13 f14 f15 f16 f19 f18 f17 f20 f21 f23 f24 f25 f26 f27 f31 f32 : Addr} (X : K.In h) (G : h.Ns mainGlobals mg) (hfa : mg "law" = some (.ref fa))
    {od5 an5 od6 an6 od10 an10 od11 an11 od12 an12 od13 an13 od14 an14 od15 an15 od16 an16 od19 an19 od18 an18 od17 an17 od20 an20 od21 an21 od23 an23 od24 an24 od25 an25 od26 an26 od27 an27 od31 an31 od32 an32 : Option Addr} {sl5 sl6 sl10 sl11 sl12 sl13 sl14 sl15 sl16 sl19 sl18 sl17 sl20 sl21 sl23 sl24 sl25 sl26 sl27 sl31 sl32 : Array (Option Value)} {oc5 kV5 dc5 pm5 cd5 ct5 oc6 kV6 dc6 pm6 cd6 ct6 oc10 kV10 dc10 pm10 cd10 ct10 oc11 kV11 dc11 pm11 cd11 ct11 oc12 kV12 dc12 pm12 cd12 ct12 oc13 kV13 dc13 pm13 cd13 ct13 oc14 kV14 dc14 pm14 cd14 ct14 oc15 kV15 dc15 pm15 cd15 ct15 oc16 kV16 dc16 pm16 cd16 ct16 oc19 kV19 dc19 pm19 cd19 ct19 oc18 kV18 dc18 pm18 cd18 ct18 oc17 kV17 dc17 pm17 cd17 ct17 oc20 kV20 dc20 pm20 cd20 ct20 oc21 kV21 dc21 pm21 cd21 ct21 oc23 kV23 dc23 pm23 cd23 ct23 oc24 kV24 dc24 pm24 cd24 ct24 oc25 kV25 dc25 pm25 cd25 ct25 oc26 kV26 dc26 pm26 cd26 ct26 oc27 kV27 dc27 pm27 cd27 ct27 oc31 kV31 dc31 pm31 cd31 ct31 oc32 kV32 dc32 pm32 cd32 ct32 : Value} {t8 t9 : Tok}
    (a5 : PySem.W.nsIn K mainGlobals "is_integer" = some (some (.ref f5)))
    (l5 : K.lookup f5 = some ⟨oc5, od5, .func (PySem.W.fnOf "is_integer" "is_integer" (defArgs (top 5)) (defBody (top 5)) (defScope (top 5)) .none kV5 dc5 pm5 an5 cd5 ct5), sl5⟩)
    (c5 : PySem.W.codeIn K cd5 "is_integer" = true) (k5 : PySem.W.keepIn K (.ref f5) = true)
    (a6 : PySem.W.nsIn K mainGlobals "is_within" = some (some (.ref f6)))
    (l6 : K.lookup f6 = some ⟨oc6, od6, .func (PySem.W.fnOf "is_within" "is_within" (defArgs (top 6)) (defBody (top 6)) (defScope (top 6)) .none kV6 dc6 pm6 an6 cd6 ct6), sl6⟩)
    (c6 : PySem.W.codeIn K cd6 "is_within" = true) (k6 : PySem.W.keepIn K (.ref f6) = true)
    (a10 : PySem.W.nsIn K mainGlobals "are_contents" = some (some (.ref f10)))
    (l10 : K.lookup f10 = some ⟨oc10, od10, .func (PySem.W.fnOf "are_contents" "are_contents" (defArgs (top 10)) (defBody (top 10)) (defScope (top 10)) .none kV10 dc10 pm10 an10 cd10 ct10), sl10⟩)
    (c10 : PySem.W.codeIn K cd10 "are_contents" = true) (k10 : PySem.W.keepIn K (.ref f10) = true)
    (a11 : PySem.W.nsIn K mainGlobals "check_contents" = some (some (.ref f11)))
    (l11 : K.lookup f11 = some ⟨oc11, od11, .func (PySem.W.fnOf "check_contents" "check_contents" (defArgs (top 11)) (defBody (top 11)) (defScope (top 11)) .none kV11 dc11 pm11 an11 cd11 ct11), sl11⟩)
    (c11 : PySem.W.codeIn K cd11 "check_contents" = true) (k11 : PySem.W.keepIn K (.ref f11) = true)
    (a12 : PySem.W.nsIn K mainGlobals "is_edit" = some (some (.ref f12)))
    (l12 : K.lookup f12 = some ⟨oc12, od12, .func (PySem.W.fnOf "is_edit" "is_edit" (defArgs (top 12)) (defBody (top 12)) (defScope (top 12)) .none kV12 dc12 pm12 an12 cd12 ct12), sl12⟩)
    (c12 : PySem.W.codeIn K cd12 "is_edit" = true) (k12 : PySem.W.keepIn K (.ref f12) = true)
    (a13 : PySem.W.nsIn K mainGlobals "are_edits" = some (some (.ref f13)))
    (l13 : K.lookup f13 = some ⟨oc13, od13, .func (PySem.W.fnOf "are_edits" "are_edits" (defArgs (top 13)) (defBody (top 13)) (defScope (top 13)) .none kV13 dc13 pm13 an13 cd13 ct13), sl13⟩)
    (c13 : PySem.W.codeIn K cd13 "are_edits" = true) (k13 : PySem.W.keepIn K (.ref f13) = true)
    (a14 : PySem.W.nsIn K mainGlobals "numbers_of" = some (some (.ref f14)))
    (l14 : K.lookup f14 = some ⟨oc14, od14, .func (PySem.W.fnOf "numbers_of" "numbers_of" (defArgs (top 14)) (defBody (top 14)) (defScope (top 14)) .none kV14 dc14 pm14 an14 cd14 ct14), sl14⟩)
    (c14 : PySem.W.codeIn K cd14 "numbers_of" = true) (k14 : PySem.W.keepIn K (.ref f14) = true)
    (a15 : PySem.W.nsIn K mainGlobals "made" = some (some (.ref f15)))
    (l15 : K.lookup f15 = some ⟨oc15, od15, .func (PySem.W.fnOf "made" "made" (defArgs (top 15)) (defBody (top 15)) (defScope (top 15)) .none kV15 dc15 pm15 an15 cd15 ct15), sl15⟩)
    (c15 : PySem.W.codeIn K cd15 "made" = true) (k15 : PySem.W.keepIn K (.ref f15) = true)
    (a16 : PySem.W.nsIn K mainGlobals "longest_match" = some (some (.ref f16)))
    (l16 : K.lookup f16 = some ⟨oc16, od16, .func (PySem.W.fnOf "longest_match" "longest_match" (defArgs (top 16)) (defBody (top 16)) (defScope (top 16)) .none kV16 dc16 pm16 an16 cd16 ct16), sl16⟩)
    (c16 : PySem.W.codeIn K cd16 "longest_match" = true) (k16 : PySem.W.keepIn K (.ref f16) = true)
    (a19 : PySem.W.nsIn K mainGlobals "is_put_first" = some (some (.ref f19)))
    (l19 : K.lookup f19 = some ⟨oc19, od19, .func (PySem.W.fnOf "is_put_first" "is_put_first" (defArgs (top 19)) (defBody (top 19)) (defScope (top 19)) .none kV19 dc19 pm19 an19 cd19 ct19), sl19⟩)
    (c19 : PySem.W.codeIn K cd19 "is_put_first" = true) (k19 : PySem.W.keepIn K (.ref f19) = true)
    (a18 : PySem.W.nsIn K mainGlobals "with_number" = some (some (.ref f18)))
    (l18 : K.lookup f18 = some ⟨oc18, od18, .func (PySem.W.fnOf "with_number" "with_number" (defArgs (top 18)) (defBody (top 18)) (defScope (top 18)) .none kV18 dc18 pm18 an18 cd18 ct18), sl18⟩)
    (c18 : PySem.W.codeIn K cd18 "with_number" = true) (k18 : PySem.W.keepIn K (.ref f18) = true)
    (a17 : PySem.W.nsIn K mainGlobals "least_edits" = some (some (.ref f17)))
    (l17 : K.lookup f17 = some ⟨oc17, od17, .func (PySem.W.fnOf "least_edits" "least_edits" (defArgs (top 17)) (defBody (top 17)) (defScope (top 17)) .none kV17 dc17 pm17 an17 cd17 ct17), sl17⟩)
    (c17 : PySem.W.codeIn K cd17 "least_edits" = true) (k17 : PySem.W.keepIn K (.ref f17) = true)
    (a20 : PySem.W.nsIn K mainGlobals "change_of" = some (some (.ref f20)))
    (l20 : K.lookup f20 = some ⟨oc20, od20, .func (PySem.W.fnOf "change_of" "change_of" (defArgs (top 20)) (defBody (top 20)) (defScope (top 20)) .none kV20 dc20 pm20 an20 cd20 ct20), sl20⟩)
    (c20 : PySem.W.codeIn K cd20 "change_of" = true) (k20 : PySem.W.keepIn K (.ref f20) = true)
    (a21 : PySem.W.nsIn K mainGlobals "least_cost" = some (some (.ref f21)))
    (l21 : K.lookup f21 = some ⟨oc21, od21, .func (PySem.W.fnOf "least_cost" "least_cost" (defArgs (top 21)) (defBody (top 21)) (defScope (top 21)) .none kV21 dc21 pm21 an21 cd21 ct21), sl21⟩)
    (c21 : PySem.W.codeIn K cd21 "least_cost" = true) (k21 : PySem.W.keepIn K (.ref f21) = true)
    (a23 : PySem.W.nsIn K mainGlobals "_law_numbers" = some (some (.ref f23)))
    (l23 : K.lookup f23 = some ⟨oc23, od23, .func (PySem.W.fnOf "_law_numbers" "_law_numbers" (defArgs (top 23)) (defBody (top 23)) (defScope (top 23)) .none kV23 dc23 pm23 an23 cd23 ct23), sl23⟩)
    (c23 : PySem.W.codeIn K cd23 "_law_numbers" = true) (k23 : PySem.W.keepIn K (.ref f23) = true)
    (a24 : PySem.W.nsIn K mainGlobals "_law_pool" = some (some (.ref f24)))
    (l24 : K.lookup f24 = some ⟨oc24, od24, .func (PySem.W.fnOf "_law_pool" "_law_pool" (defArgs (top 24)) (defBody (top 24)) (defScope (top 24)) .none kV24 dc24 pm24 an24 cd24 ct24), sl24⟩)
    (c24 : PySem.W.codeIn K cd24 "_law_pool" = true) (k24 : PySem.W.keepIn K (.ref f24) = true)
    (a25 : PySem.W.nsIn K mainGlobals "_law_draw" = some (some (.ref f25)))
    (l25 : K.lookup f25 = some ⟨oc25, od25, .func (PySem.W.fnOf "_law_draw" "_law_draw" (defArgs (top 25)) (defBody (top 25)) (defScope (top 25)) .none kV25 dc25 pm25 an25 cd25 ct25), sl25⟩)
    (c25 : PySem.W.codeIn K cd25 "_law_draw" = true) (k25 : PySem.W.keepIn K (.ref f25) = true)
    (a26 : PySem.W.nsIn K mainGlobals "_law_opened" = some (some (.ref f26)))
    (l26 : K.lookup f26 = some ⟨oc26, od26, .func (PySem.W.fnOf "_law_opened" "_law_opened" (defArgs (top 26)) (defBody (top 26)) (defScope (top 26)) .none kV26 dc26 pm26 an26 cd26 ct26), sl26⟩)
    (c26 : PySem.W.codeIn K cd26 "_law_opened" = true) (k26 : PySem.W.keepIn K (.ref f26) = true)
    (a27 : PySem.W.nsIn K mainGlobals "_law_contents" = some (some (.ref f27)))
    (l27 : K.lookup f27 = some ⟨oc27, od27, .func (PySem.W.fnOf "_law_contents" "_law_contents" (defArgs (top 27)) (defBody (top 27)) (defScope (top 27)) .none kV27 dc27 pm27 an27 cd27 ct27), sl27⟩)
    (c27 : PySem.W.codeIn K cd27 "_law_contents" = true) (k27 : PySem.W.keepIn K (.ref f27) = true)
    (a31 : PySem.W.nsIn K mainGlobals "_law_cheapest" = some (some (.ref f31)))
    (l31 : K.lookup f31 = some ⟨oc31, od31, .func (PySem.W.fnOf "_law_cheapest" "_law_cheapest" (defArgs (top 31)) (defBody (top 31)) (defScope (top 31)) .none kV31 dc31 pm31 an31 cd31 ct31), sl31⟩)
    (c31 : PySem.W.codeIn K cd31 "_law_cheapest" = true) (k31 : PySem.W.keepIn K (.ref f31) = true)
    (a32 : PySem.W.nsIn K mainGlobals "law" = some (some (.ref f32)))
    (l32 : K.lookup f32 = some ⟨oc32, od32, .func (PySem.W.fnOf "law" "law" (defArgs (top 32)) (defBody (top 32)) (defScope (top 32)) .none kV32 dc32 pm32 an32 cd32 ct32), sl32⟩)
    (c32 : PySem.W.codeIn K cd32 "law" = true) (k32 : PySem.W.keepIn K (.ref f32) = true)
    (v8 : PySem.W.nsIn K mainGlobals "MOST_CONTENTS" = some (some (.int 60 t8)))
    (v9 : PySem.W.nsIn K mainGlobals "KEEP_COST" = some (some (.int 2 t9)))
    (z0 : PySem.W.nsIn K mainGlobals "len" = some none)
    (z1 : PySem.W.nsIn K mainGlobals "isinstance" = some none)
    (z2 : PySem.W.nsIn K mainGlobals "int" = some none)
    (z3 : PySem.W.nsIn K mainGlobals "bool" = some none)
    (z4 : PySem.W.nsIn K mainGlobals "str" = some none)
    (z5 : PySem.W.nsIn K mainGlobals "list" = some none)
    (z6 : PySem.W.nsIn K mainGlobals "tuple" = some none)
    (z7 : PySem.W.nsIn K mainGlobals "dict" = some none)
    (z8 : PySem.W.nsIn K mainGlobals "range" = some none)
    (z9 : PySem.W.nsIn K mainGlobals "all" = some none)
    (z10 : PySem.W.nsIn K mainGlobals "any" = some none)
    (z11 : PySem.W.nsIn K mainGlobals "sum" = some none)
    (z12 : PySem.W.nsIn K mainGlobals "min" = some none)
    (z13 : PySem.W.nsIn K mainGlobals "max" = some none)
    (z14 : PySem.W.nsIn K mainGlobals "sorted" = some none)
    (z15 : PySem.W.nsIn K mainGlobals "enumerate" = some none)
    (z16 : PySem.W.nsIn K mainGlobals "zip" = some none)
    : ∃ fd : FuncData, (∀ (s : Shared) (u : Value), BindsTo s fd ⟨[u], []⟩ [("script", u)]) ∧ ∀ base : Heap, K.In base → base.Ns mainGlobals mg → FnOk l.prog w K mg base CX0 6 fa fd ["script"] (spL K) := by
  cases hfa.symm.trans (PySem.W.mg_of X G a32)
  have b : Bi mg := ⟨PySem.W.mg_none_of X G z0, PySem.W.mg_none_of X G z1, PySem.W.mg_none_of X G z2, PySem.W.mg_none_of X G z3, PySem.W.mg_none_of X G z4, PySem.W.mg_none_of X G z5, PySem.W.mg_none_of X G z6, PySem.W.mg_none_of X G z7, PySem.W.mg_none_of X G z8, PySem.W.mg_none_of X G z9, PySem.W.mg_none_of X G z10, PySem.W.mg_none_of X G z11, PySem.W.mg_none_of X G z12, PySem.W.mg_none_of X G z13, PySem.W.mg_none_of X G z14, PySem.W.mg_none_of X G z15, PySem.W.mg_none_of X G z16⟩
  have m8 : ∃ t, mg "MOST_CONTENTS" = some (.int 60 t) := ⟨_, PySem.W.mg_of X G v8⟩
  have m9 : ∃ t, mg "KEEP_COST" = some (.int 2 t) := ⟨_, PySem.W.mg_of X G v9⟩
  refine ⟨PySem.W.fnOf "law" "law" (defArgs (top 32)) (defBody (top 32)) (defScope (top 32)) .none kV32 dc32 pm32 an32 cd32 ct32, fun s u => .of_eq rfl, fun base _ _ => ?_⟩
  have F5 := fun_mk (st := top 5) l5 c5 k5
  have B5 := F5.binds (ps := ["value"]) fun _ _ _ _ _ _ us hl => match us, hl with | [_], _ => rfl
  have C5 : Cal l.prog w K mg base 1 "is_integer" pIsInt := ⟨⟨_, _, _, ok5 F5 b , PySem.W.mg_of X G a5, k5, B5⟩⟩
  have F6 := fun_mk (st := top 6) l6 c6 k6
  have B6 := F6.binds (ps := ["value", "least", "most"]) fun _ _ _ _ _ _ us hl => match us, hl with | [_, _, _], _ => rfl
  have C6 : Cal l.prog w K mg base 2 "is_within" pIsWithin := ⟨⟨_, _, _, ok6 F6 b C5, PySem.W.mg_of X G a6, k6, B6⟩⟩
  have F10 := fun_mk (st := top 10) l10 c10 k10
  have B10 := F10.binds (ps := ["value"]) fun _ _ _ _ _ _ us hl => match us, hl with | [_], _ => rfl
  have C10 : Cal l.prog w K mg base 2 "are_contents" pAreC := ⟨⟨_, _, _, ok10 F10 b C5 m8, PySem.W.mg_of X G a10, k10, B10⟩⟩
  have F11 := fun_mk (st := top 11) l11 c11 k11
  have B11 := F11.binds (ps := ["value"]) fun _ _ _ _ _ _ us hl => match us, hl with | [_], _ => rfl
  have C11 : Cal l.prog w K mg base 3 "check_contents" pCheckC := ⟨⟨_, _, _, ok11 F11 b C10, PySem.W.mg_of X G a11, k11, B11⟩⟩
  have F12 := fun_mk (st := top 12) l12 c12 k12
  have B12 := F12.binds (ps := ["value", "many"]) fun _ _ _ _ _ _ us hl => match us, hl with | [_, _], _ => rfl
  have C12 : Cal l.prog w K mg base 3 "is_edit" pIsEd := ⟨⟨_, _, _, ok12 F12 b C5 C6, PySem.W.mg_of X G a12, k12, B12⟩⟩
  have F13 := fun_mk (st := top 13) l13 c13 k13
  have B13 := F13.binds (ps := ["value", "many"]) fun _ _ _ _ _ _ us hl => match us, hl with | [_, _], _ => rfl
  have C13 : Cal l.prog w K mg base 4 "are_edits" pAreEd := ⟨⟨_, _, _, ok13 F13 b C12 m8, PySem.W.mg_of X G a13, k13, B13⟩⟩
  have F14 := fun_mk (st := top 14) l14 c14 k14
  have B14 := F14.binds (ps := ["base", "change"]) fun _ _ _ _ _ _ us hl => match us, hl with | [_, _], _ => rfl
  have C14 : Cal l.prog w K mg base 1 "numbers_of" pNums := ⟨⟨_, _, _, ok14 F14 b , PySem.W.mg_of X G a14, k14, B14⟩⟩
  have F15 := fun_mk (st := top 15) l15 c15 k15
  have B15 := F15.binds (ps := ["base", "change"]) fun _ _ _ _ _ _ us hl => match us, hl with | [_, _], _ => rfl
  have C15 : Cal l.prog w K mg base 5 "made" pMade := ⟨⟨_, _, _, ok15 F15 b C11 C13 C14, PySem.W.mg_of X G a15, k15, B15⟩⟩
  have F16 := fun_mk (st := top 16) l16 c16 k16
  have B16 := F16.binds (ps := ["base", "target", "at"]) fun _ _ _ _ _ _ us hl => match us, hl with | [_, _, _], _ => rfl
  have C16 : Cal l.prog w K mg base 1 "longest_match" pLM := ⟨⟨_, _, _, ok16 F16 b , PySem.W.mg_of X G a16, k16, B16⟩⟩
  have F19 := fun_mk (st := top 19) l19 c19 k19
  have B19 := F19.binds (ps := ["rows"]) fun _ _ _ _ _ _ us hl => match us, hl with | [_], _ => rfl
  have C19 : Cal l.prog w K mg base 1 "is_put_first" pPutF := ⟨⟨_, _, _, ok19 F19 b , PySem.W.mg_of X G a19, k19, B19⟩⟩
  have F18 := fun_mk (st := top 18) l18 c18 k18
  have B18 := F18.binds (ps := ["number", "rows"]) fun _ _ _ _ _ _ us hl => match us, hl with | [_, _], _ => rfl
  have C18 : Cal l.prog w K mg base 2 "with_number" pWith := ⟨⟨_, _, _, ok18 F18 b C19, PySem.W.mg_of X G a18, k18, B18⟩⟩
  have F17 := fun_mk (st := top 17) l17 c17 k17
  have B17 := F17.binds (ps := ["base", "target"]) fun _ _ _ _ _ _ us hl => match us, hl with | [_, _], _ => rfl
  have C17 : Cal l.prog w K mg base 3 "least_edits" pLE := ⟨⟨_, _, _, ok17 F17 b C16 C18 m9, PySem.W.mg_of X G a17, k17, B17⟩⟩
  have F20 := fun_mk (st := top 20) l20 c20 k20
  have B20 := F20.binds (ps := ["base", "target"]) fun _ _ _ _ _ _ us hl => match us, hl with | [_, _], _ => rfl
  have C20 : Cal l.prog w K mg base 4 "change_of" pChO := ⟨⟨_, _, _, ok20 F20 b C11 C17, PySem.W.mg_of X G a20, k20, B20⟩⟩
  have F21 := fun_mk (st := top 21) l21 c21 k21
  have B21 := F21.binds (ps := ["base", "target"]) fun _ _ _ _ _ _ us hl => match us, hl with | [_, _], _ => rfl
  have C21 : Cal l.prog w K mg base 4 "least_cost" pLC := ⟨⟨_, _, _, ok21 F21 b C11 C17, PySem.W.mg_of X G a21, k21, B21⟩⟩
  have F23 := fun_mk (st := top 23) l23 c23 k23
  have B23 := F23.binds (ps := ["cell", "salt", "sizes"]) fun _ _ _ _ _ _ us hl => match us, hl with | [_, _, _], _ => rfl
  have C23 : Cal l.prog w K mg base 1 "_law_numbers" pNumbers := ⟨⟨_, _, _, ok23 F23 b , PySem.W.mg_of X G a23, k23, B23⟩⟩
  have F24 := fun_mk (st := top 24) l24 c24 k24
  have B24 := F24.binds (ps := ["cell", "salt", "many"]) fun _ _ _ _ _ _ us hl => match us, hl with | [_, _, _], _ => rfl
  have C24 : Cal l.prog w K mg base 2 "_law_pool" pPool := ⟨⟨_, _, _, ok24 F24 b C23, PySem.W.mg_of X G a24, k24, B24⟩⟩
  have F25 := fun_mk (st := top 25) l25 c25 k25
  have B25 := F25.binds (ps := ["pool", "many"]) fun _ _ _ _ _ _ us hl => match us, hl with | [_, _], _ => rfl
  have C25 : Cal l.prog w K mg base 1 "_law_draw" pDraw := ⟨⟨_, _, _, ok25 F25 b , PySem.W.mg_of X G a25, k25, B25⟩⟩
  have F26 := fun_mk (st := top 26) l26 c26 k26
  have B26 := F26.binds (ps := ["script", "k", "many"]) fun _ _ _ _ _ _ us hl => match us, hl with | [_, _, _], _ => rfl
  have C26 : Cal l.prog w K mg base 3 "_law_opened" pOpened := ⟨⟨_, _, _, ok26 F26 b C24, PySem.W.mg_of X G a26, k26, B26⟩⟩
  have F27 := fun_mk (st := top 27) l27 c27 k27
  have B27 := F27.binds (ps := ["pool", "many"]) fun _ _ _ _ _ _ us hl => match us, hl with | [_, _], _ => rfl
  have C27 : Cal l.prog w K mg base 2 "_law_contents" pCont := ⟨⟨_, _, _, ok27 F27 b C25, PySem.W.mg_of X G a27, k27, B27⟩⟩
  have F31 := fun_mk (st := top 31) l31 c31 k31
  have B31 := F31.binds (ps := ["base", "target"]) fun _ _ _ _ _ _ us hl => match us, hl with | [_, _], _ => rfl
  have C31 : Cal l.prog w K mg base 1 "_law_cheapest" pCheap := ⟨⟨_, _, _, ok31 F31 b , PySem.W.mg_of X G a31, k31, B31⟩⟩
  have F32 := fun_mk (st := top 32) l32 c32 k32
  exact FnOk.imp (ok32 F32 b C26 C25 C27 C21 C20 C15 C31) spL_of
theorem walk {l : PySem.W.OpenLaw} {q : Program} {loose : List Str} {XP : (Str → Option Value) → Heap → Prop} {YP : World → Heap → Prop} {d : DefRec} {K : Params → PySem.W.Frag} (hm : l.most = some 63) (hdf : d.params.defaults = []) (hY : ∀ (w : World) (h : Heap), YP w h → (K w.params).In h)
    (F : ∀ (w : World) (mg : Str → Option Value) (fa : Addr) (h : Heap), (K w.params).In h → h.Ns mainGlobals mg → mg d.name = some (.ref fa) → ∃ fd : FuncData, (∀ (s : Shared) (u : Value), BindsTo s fd ⟨[u], []⟩ [("script", u)]) ∧ ∀ base : Heap, (K w.params).In base → base.Ns mainGlobals mg → FnOk l.prog w (K w.params) mg base CX0 6 fa fd ["script"] (spL (K w.params))) :
    PySem.W.WalkO q loose XP YP l.row.toRowW d [] (fun f us => PySem.call f us) :=
  L2.walk_of (n := 63) (k := 6) (x := "script") (CX := fun _ => CX0) (sp := fun w => spL (K w.params)) hm (by decide) hdf ⟨rfl, by decide, by decide⟩ hY F (fun _ _ a ns hl _ hS => ⟨a, ns, hl, rfl, hS, fun _ => rfl⟩) fun _ _ _ _ _ z => z
end
end K35
open PySem PySem.W PyProof.Rows
set_option maxRecDepth 100000 in
set_option maxHeartbeats 0 in
theorem PySem.Challenge.cw_packedbases_k35_whole_costs_of_changes_holds : PySem.Challenge.rw_packedbases_k35_whole_costs_of_changes.Holds := by
  w_on
  o_law
  k_head
  case hw => w_witness2
  k_fill
  refine K35.walk (l := PySem.Challenge.rw_packedbases_k35_whole_costs_of_changes) rfl rfl (fun w h Y => PySem.W.kIn_of Y) ?F
  case F =>
    intro w mg fa h KX G hmg
    refine' K35.all_mk KX G hmg ?a5 ?l5 ?c5 ?k5 ?a6 ?l6 ?c6 ?k6 ?a10 ?l10 ?c10 ?k10 ?a11 ?l11 ?c11 ?k11 ?a12 ?l12 ?c12 ?k12 ?a13 ?l13 ?c13 ?k13 ?a14 ?l14 ?c14 ?k14 ?a15 ?l15 ?c15 ?k15 ?a16 ?l16 ?c16 ?k16 ?a19 ?l19 ?c19 ?k19 ?a18 ?l18 ?c18 ?k18 ?a17 ?l17 ?c17 ?k17 ?a20 ?l20 ?c20 ?k20 ?a21 ?l21 ?c21 ?k21 ?a23 ?l23 ?c23 ?k23 ?a24 ?l24 ?c24 ?k24 ?a25 ?l25 ?c25 ?k25 ?a26 ?l26 ?c26 ?k26 ?a27 ?l27 ?c27 ?k27 ?a31 ?l31 ?c31 ?k31 ?a32 ?l32 ?c32 ?k32 ?v8 ?v9 ?z0 ?z1 ?z2 ?z3 ?z4 ?z5 ?z6 ?z7 ?z8 ?z9 ?z10 ?z11 ?z12 ?z13 ?z14 ?z15 ?z16
    case a5 => k_is
    case l5 => k_is
    case c5 => k_is
    case k5 => k_is
    case a6 => k_is
    case l6 => k_is
    case c6 => k_is
    case k6 => k_is
    case a10 => k_is
    case l10 => k_is
    case c10 => k_is
    case k10 => k_is
    case a11 => k_is
    case l11 => k_is
    case c11 => k_is
    case k11 => k_is
    case a12 => k_is
    case l12 => k_is
    case c12 => k_is
    case k12 => k_is
    case a13 => k_is
    case l13 => k_is
    case c13 => k_is
    case k13 => k_is
    case a14 => k_is
    case l14 => k_is
    case c14 => k_is
    case k14 => k_is
    case a15 => k_is
    case l15 => k_is
    case c15 => k_is
    case k15 => k_is
    case a16 => k_is
    case l16 => k_is
    case c16 => k_is
    case k16 => k_is
    case a19 => k_is
    case l19 => k_is
    case c19 => k_is
    case k19 => k_is
    case a18 => k_is
    case l18 => k_is
    case c18 => k_is
    case k18 => k_is
    case a17 => k_is
    case l17 => k_is
    case c17 => k_is
    case k17 => k_is
    case a20 => k_is
    case l20 => k_is
    case c20 => k_is
    case k20 => k_is
    case a21 => k_is
    case l21 => k_is
    case c21 => k_is
    case k21 => k_is
    case a23 => k_is
    case l23 => k_is
    case c23 => k_is
    case k23 => k_is
    case a24 => k_is
    case l24 => k_is
    case c24 => k_is
    case k24 => k_is
    case a25 => k_is
    case l25 => k_is
    case c25 => k_is
    case k25 => k_is
    case a26 => k_is
    case l26 => k_is
    case c26 => k_is
    case k26 => k_is
    case a27 => k_is
    case l27 => k_is
    case c27 => k_is
    case k27 => k_is
    case a31 => k_is
    case l31 => k_is
    case c31 => k_is
    case k31 => k_is
    case a32 => k_is
    case l32 => k_is
    case c32 => k_is
    case k32 => k_is
    case v8 => k_is
    case v9 => k_is
    case z0 => k_is
    case z1 => k_is
    case z2 => k_is
    case z3 => k_is
    case z4 => k_is
    case z5 => k_is
    case z6 => k_is
    case z7 => k_is
    case z8 => k_is
    case z9 => k_is
    case z10 => k_is
    case z11 => k_is
    case z12 => k_is
    case z13 => k_is
    case z14 => k_is
    case z15 => k_is
    case z16 => k_is


