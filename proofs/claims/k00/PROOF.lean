import PyProof.Rows.All
import Wide.All
import OpenK.AllK
import Wide.FinOn
import HandS.ForMost
import HandS.ForExc
import HandS.CallSlots
import HandS.IsInst
import HandS.ExcIs
import HandS.StrMore
import HandS.Flow
import HandS.TupAny
import PySem.Challenge.RW_formroads_k00_names_and_lines
set_option Elab.async false
set_option linter.all false
set_option maxRecDepth 100000
set_option maxHeartbeats 4000000
/-! Fr: a store language M over plain data, and its tie to the hand layer (HandS). -/
namespace Fr
open PySem PySem.Spec PyProof.Rows L2

/-- a value of the store language: tuples and locked lists are plain data, ref n the n-th object of the store, gl x the module's thing x -/
inductive W where
  | non | bl (b : Bool) | int (i : Int) | str (x : Str) | tup (xs : List W) | fl (xs : List W) | ref (n : Nat) | gl (x : Str) | ty (n : String)
  deriving Inhabited
inductive Ob where
  | lst (xs : List W) | dK (kvs : List (Key × W)) | dT (kvs : List (List Key × W)) | ins (c : Str) (fs : List (Str × W))
  deriving Inhabited
abbrev Sto := List Ob
inductive Rs (α : Type) where
  | ok (a : α) (S : Sto) | ex (c : Str) (d : Option (List (Str × W))) (S : Sto) | bad
abbrev M (α : Type) := Sto → Rs α
abbrev Sl := List (Option W)
abbrev Exp := Sl → M W
abbrev Tst := Sl → M Bool
abbrev Arg := Sl → M (List W)
/-- what a statement comes to -/
inductive RS where
  | nx (s : Sl) (S : Sto) | rt (w : W) (S : Sto) | bk (s : Sl) (S : Sto) | ct (s : Sl) (S : Sto) | ex (c : Str) (d : Option (List (Str × W))) (s : Sl) (S : Sto) | bad
abbrev Stm := Sl → Sto → RS
abbrev Fn := List W → M W

def bd {α β : Type} (f : M α) (k : α → M β) : M β := fun S => match f S with
  | .ok a S' => k a S'
  | .ex c d S' => .ex c d S'
  | .bad => .bad
def rt {α : Type} (a : α) : M α := fun S => .ok a S
def bad {α : Type} : M α := fun _ => .bad

/-! ### the relations -/
section
variable (K : PySem.W.Frag) (mg : Str → Option Value)
/-- a list that nobody changes: locked, or the module's own -/
def FzL (H : Hp) (a : Addr) (xs : List V) : Prop := (∃ o, H a = some (.frz o (.lst xs))) ∨
    ∃ (o : Obj) (its : Array Value) (n : Nat), K.lookup a = some o ∧ o.cls = .type "list" ∧ o.dict = none ∧ o.data = .seq its n ∧ its.size ≤ sizeLine ∧ Vals xs its.toList
mutual
def RV (m : List Addr) (H : Hp) : W → V → Prop
  | .non, v => v = .non
  | .bl b, v => v = .bl b
  | .int i, v => v = .int i
  | .str x, v => v = .str x
  | .tup xs, v => ∃ p vs, v = .ref p ∧ SqT K H p vs ∧ RVs m H xs vs
  | .fl xs, v => ∃ p vs, v = .ref p ∧ FzL K H p vs ∧ RVs m H xs vs
  | .ref n, v => ∃ a, m[n]? = some a ∧ v = .ref a
  | .gl x, v => ∃ a, mg x = some (.ref a) ∧ v = .ref a
  | .ty n, v => v = .ty n
def RVs (m : List Addr) (H : Hp) : List W → List V → Prop
  | [], vs => vs = []
  | w :: ws, vs => ∃ v r, vs = v :: r ∧ RV m H w v ∧ RVs m H ws r
end
/-- attributes -/
def RFs (m : List Addr) (H : Hp) : List (Str × W) → List (Str × V) → Prop
  | [], vs => vs = []
  | (f, w) :: ws, vs => ∃ v r, vs = (f, v) :: r ∧ RV K mg m H w v ∧ RFs m H ws r
/-- entries -/
def RKs {κ : Type} (m : List Addr) (H : Hp) : List (κ × W) → List (κ × V) → Prop
  | [], vs => vs = []
  | (f, w) :: ws, vs => ∃ v r, vs = (f, v) :: r ∧ RV K mg m H w v ∧ RKs m H ws r
def RO (m : List Addr) (H : Hp) (a : Addr) : Ob → Prop
  | .lst xs => ∃ vs, H a = some (.lst vs) ∧ RVs K mg m H xs vs
  | .dK kvs => ∃ vs, H a = some (.dK vs) ∧ RKs K mg m H kvs vs
  | .dT kvs => ∃ vs, H a = some (.dT vs) ∧ RKs K mg m H kvs vs
  | .ins c fs => ∃ C dx vs, H a = some (.ins C dx vs) ∧ mg c = some (.ref C) ∧ RFs K mg m H fs vs
structure Sim (m : List Addr) (S : Sto) (H : Hp) : Prop where
  len : m.length = S.length
  nd : m.Nodup
  ob : ∀ (i : Nat) (o : Ob) (a : Addr), S[i]? = some o → m[i]? = some a → RO K mg m H a o
end
structure Ext (m : List Addr) (H : Hp) (m' : List Addr) (H' : Hp) : Prop where
  more : ∃ r, m' = m ++ r
  tup : ∀ p xs, H p = some (.tup xs) → H' p = some (.tup xs)
  frz : ∀ p o u, H p = some (.frz o u) → H' p = some (.frz o u)
theorem Ext.refl (m : List Addr) (H : Hp) : Ext m H m H := ⟨⟨[], by simp⟩, fun _ _ h => h, fun _ _ _ h => h⟩
theorem Ext.trans {m m1 m2 : List Addr} {H H1 H2 : Hp} (a : Ext m H m1 H1) (b : Ext m1 H1 m2 H2) : Ext m H m2 H2 := by
  obtain ⟨⟨r, e⟩, t, f⟩ := a
  obtain ⟨⟨r', e'⟩, t', f'⟩ := b
  exact ⟨⟨r ++ r', by rw [e', e, List.append_assoc]⟩, fun p xs h => t' _ _ (t _ _ h), fun p o u h => f' _ _ _ (f _ _ _ h)⟩
theorem Ext.get {m m' : List Addr} {H H' : Hp} (e : Ext m H m' H') {n : Nat} {a : Addr} (h : m[n]? = some a) : m'[n]? = some a := by
  obtain ⟨⟨r, rfl⟩, _, _⟩ := e
  rw [List.getElem?_append_left (List.getElem?_eq_some_iff.mp h).1]
  exact h
section
variable {K : PySem.W.Frag} {mg : Str → Option Value} {m m' : List Addr} {H H' : Hp}
theorem Ext.sqt (e : Ext m H m' H') {p : Addr} {xs : List V} (h : SqT K H p xs) : SqT K H' p xs := by
  rcases h with (h | ⟨o, h⟩) | h
  · exact .inl (.inl (e.tup _ _ h))
  · exact .inl (.inr ⟨o, e.frz _ _ _ h⟩)
  · exact .inr h
theorem Ext.fzl (e : Ext m H m' H') {p : Addr} {xs : List V} (h : FzL K H p xs) : FzL K H' p xs := by
  rcases h with ⟨o, h⟩ | h
  · exact .inl ⟨o, e.frz _ _ _ h⟩
  · exact .inr h
theorem FzL.sq {p : Addr} {xs : List V} (h : FzL K H p xs) : SqL K H p xs := by
  rcases h with ⟨o, h⟩ | h
  · exact .inl (.inr ⟨o, h⟩)
  · exact .inr h
mutual
theorem RV.mono (e : Ext m H m' H') : ∀ {w : W} {v : V}, RV K mg m H w v → RV K mg m' H' w v
  | .non, _, h => by unfold RV at h ⊢; exact h
  | .bl _, _, h => by unfold RV at h ⊢; exact h
  | .int _, _, h => by unfold RV at h ⊢; exact h
  | .str _, _, h => by unfold RV at h ⊢; exact h
  | .tup xs, _, h => by
    unfold RV at h ⊢
    obtain ⟨p, vs, e1, h1, h2⟩ := h
    exact ⟨p, vs, e1, e.sqt h1, RVs.mono e h2⟩
  | .fl xs, _, h => by
    unfold RV at h ⊢
    obtain ⟨p, vs, e1, h1, h2⟩ := h
    exact ⟨p, vs, e1, e.fzl h1, RVs.mono e h2⟩
  | .ref n, _, h => by
    unfold RV at h ⊢
    obtain ⟨a, h1, h2⟩ := h
    exact ⟨a, e.get h1, h2⟩
  | .gl x, _, h => by unfold RV at h ⊢; exact h
  | .ty _, _, h => by unfold RV at h ⊢; exact h
theorem RVs.mono (e : Ext m H m' H') : ∀ {ws : List W} {vs : List V}, RVs K mg m H ws vs → RVs K mg m' H' ws vs
  | [], _, h => by unfold RVs at h ⊢; exact h
  | w :: ws, _, h => by
    unfold RVs at h ⊢
    obtain ⟨v, r, e1, h1, h2⟩ := h
    exact ⟨v, r, e1, RV.mono e h1, RVs.mono e h2⟩
end
theorem RFs.mono (e : Ext m H m' H') : ∀ {ws : List (Str × W)} {vs : List (Str × V)}, RFs K mg m H ws vs → RFs K mg m' H' ws vs
  | [], _, h => h
  | (f, w) :: ws, _, ⟨v, r, e1, h1, h2⟩ => ⟨v, r, e1, h1.mono e, RFs.mono e h2⟩
theorem RKs.mono {κ : Type} (e : Ext m H m' H') : ∀ {ws : List (κ × W)} {vs : List (κ × V)}, RKs K mg m H ws vs → RKs K mg m' H' ws vs
  | [], _, h => h
  | (f, w) :: ws, _, ⟨v, r, e1, h1, h2⟩ => ⟨v, r, e1, h1.mono e, RKs.mono e h2⟩
/-! lists of values -/
theorem RVs.nil : RVs K mg m H [] [] := by unfold RVs; rfl
theorem RVs.cons {w : W} {v : V} {ws : List W} {vs : List V} (h : RV K mg m H w v) (t : RVs K mg m H ws vs) : RVs K mg m H (w :: ws) (v :: vs) := by
  unfold RVs; exact ⟨v, vs, rfl, h, t⟩
theorem RVs.uncons {w : W} {ws : List W} {vs : List V} (h : RVs K mg m H (w :: ws) vs) : ∃ v r, vs = v :: r ∧ RV K mg m H w v ∧ RVs K mg m H ws r := by
  unfold RVs at h; exact h
theorem RVs.nil_inv {vs : List V} (h : RVs K mg m H [] vs) : vs = [] := by unfold RVs at h; exact h
theorem RVs.length : ∀ {ws : List W} {vs : List V}, RVs K mg m H ws vs → ws.length = vs.length
  | [], _, h => by have e := h.nil_inv; subst e; rfl
  | _ :: ws, _, h => by
    obtain ⟨v, r, rfl, _, t⟩ := h.uncons
    simp [t.length]
theorem RVs.get : ∀ {ws : List W} {vs : List V} {i : Nat} {w : W}, RVs K mg m H ws vs → ws[i]? = some w → ∃ v, vs[i]? = some v ∧ RV K mg m H w v
  | [], _, _, _, _, e => by simp at e
  | w :: ws, _, 0, _, h, e => by
    obtain ⟨v, r, rfl, h1, t⟩ := h.uncons
    simp at e; subst e
    exact ⟨v, rfl, h1⟩
  | w :: ws, _, i + 1, _, h, e => by
    obtain ⟨v, r, rfl, h1, t⟩ := h.uncons
    obtain ⟨u, e1, e2⟩ := t.get (i := i) (by simpa using e)
    exact ⟨u, by simpa using e1, e2⟩
theorem RVs.append : ∀ {ws ws' : List W} {vs vs' : List V}, RVs K mg m H ws vs → RVs K mg m H ws' vs' → RVs K mg m H (ws ++ ws') (vs ++ vs')
  | [], _, _, _, h, h' => by rw [h.nil_inv]; exact h'
  | w :: ws, _, _, _, h, h' => by
    obtain ⟨v, r, rfl, h1, t⟩ := h.uncons
    exact .cons h1 (t.append h')
theorem RVs.take : ∀ {ws : List W} {vs : List V} (n : Nat), RVs K mg m H ws vs → RVs K mg m H (ws.take n) (vs.take n)
  | _, _, 0, _ => by simpa using RVs.nil
  | [], _, n + 1, h => by rw [h.nil_inv]; simpa using RVs.nil
  | w :: ws, _, n + 1, h => by
    obtain ⟨v, r, rfl, h1, t⟩ := h.uncons
    exact .cons h1 (t.take n)
theorem RVs.drop : ∀ {ws : List W} {vs : List V} (n : Nat), RVs K mg m H ws vs → RVs K mg m H (ws.drop n) (vs.drop n)
  | _, _, 0, h => by simpa using h
  | [], _, n + 1, h => by rw [h.nil_inv]; simpa using RVs.nil
  | w :: ws, _, n + 1, h => by
    obtain ⟨v, r, rfl, h1, t⟩ := h.uncons
    simpa using t.drop n
theorem RVs.set {w : W} {v : V} (hw : RV K mg m H w v) : ∀ {ws : List W} {vs : List V} (n : Nat), RVs K mg m H ws vs → RVs K mg m H (ws.set n w) (vs.set n v)
  | [], _, n, h => by rw [h.nil_inv]; simpa using RVs.nil
  | _ :: ws, _, 0, h => by
    obtain ⟨v', r, rfl, h1, t⟩ := h.uncons
    exact .cons hw t
  | _ :: ws, _, n + 1, h => by
    obtain ⟨v', r, rfl, h1, t⟩ := h.uncons
    exact .cons h1 (t.set hw n)
theorem RVs.reverse : ∀ {ws : List W} {vs : List V}, RVs K mg m H ws vs → RVs K mg m H ws.reverse vs.reverse
  | [], _, h => by rw [h.nil_inv]; simpa using RVs.nil
  | _ :: ws, _, h => by
    obtain ⟨v', r, rfl, h1, t⟩ := h.uncons
    simp only [List.reverse_cons]
    exact t.reverse.append (.cons h1 .nil)
theorem RVs.dropLast {ws : List W} {vs : List V} (h : RVs K mg m H ws vs) : RVs K mg m H ws.dropLast vs.dropLast := by
  rw [List.dropLast_eq_take, List.dropLast_eq_take, ← h.length]
  exact h.take _
theorem RVs.rep {ws : List W} {vs : List V} (h : RVs K mg m H ws vs) : ∀ k : Nat, RVs K mg m H (List.replicate k ws).flatten (List.replicate k vs).flatten
  | 0 => by simpa using RVs.nil
  | k + 1 => by
    simp only [List.replicate_succ, List.flatten_cons]
    exact h.append (h.rep k)
theorem RVs.eraseIdx : ∀ {ws : List W} {vs : List V} (n : Nat), RVs K mg m H ws vs → RVs K mg m H (ws.eraseIdx n) (vs.eraseIdx n)
  | [], _, n, h => by rw [h.nil_inv]; simpa using RVs.nil
  | _ :: ws, _, 0, h => by
    obtain ⟨v', r, rfl, h1, t⟩ := h.uncons
    simpa using t
  | _ :: ws, _, n + 1, h => by
    obtain ⟨v', r, rfl, h1, t⟩ := h.uncons
    simp only [List.eraseIdx_cons_succ]
    exact .cons h1 (t.eraseIdx n)
/-! texts and ints -/
theorem RVs.ints : ∀ {ns : List Int}, RVs K mg m H (ns.map W.int) (ns.map V.int)
  | [] => .nil
  | n :: ns => .cons (by unfold RV; rfl) RVs.ints
theorem RVs.ints_inv : ∀ {ns : List Int} {vs : List V}, RVs K mg m H (ns.map W.int) vs → vs = ns.map V.int
  | [], _, h => h.nil_inv
  | n :: ns, _, h => by
    obtain ⟨v, r, rfl, h1, t⟩ := RVs.uncons h
    unfold RV at h1
    rw [h1, t.ints_inv]; rfl
theorem RVs.strs : ∀ {ns : List Str}, RVs K mg m H (ns.map W.str) (ns.map V.str)
  | [] => .nil
  | n :: ns => .cons (by unfold RV; rfl) RVs.strs
theorem RVs.strs_inv : ∀ {ns : List Str} {vs : List V}, RVs K mg m H (ns.map W.str) vs → vs = ns.map V.str
  | [], _, h => h.nil_inv
  | n :: ns, _, h => by
    obtain ⟨v, r, rfl, h1, t⟩ := RVs.uncons h
    unfold RV at h1
    rw [h1, t.strs_inv]; rfl
/-! ### the store grows, an object changes -/
theorem Ext.new {p : Addr} {o : HO} (hp : H p = none) : Ext m H (m ++ [p]) (upd H p o) := by
  refine ⟨⟨[p], rfl⟩, fun q xs h => ?_, fun q ob u h => ?_⟩
  · rw [upd_ne (ne_of_none h hp)]; exact h
  · rw [upd_ne (ne_of_none h hp)]; exact h
theorem Ext.plain {p : Addr} {o : HO} (hp : H p = none) : Ext m H m (upd H p o) := by
  refine ⟨⟨[], by simp⟩, fun q xs h => ?_, fun q ob u h => ?_⟩
  · rw [upd_ne (ne_of_none h hp)]; exact h
  · rw [upd_ne (ne_of_none h hp)]; exact h
theorem Ext.chg {p : Addr} {o o' : HO} (hp : H p = some o) (h1 : ∀ xs, o ≠ .tup xs) (h2 : ∀ ob u, o ≠ .frz ob u) : Ext m H m (upd H p o') := by
  refine ⟨⟨[], by simp⟩, fun q xs h => ?_, fun q ob u h => ?_⟩
  · rw [upd_ne (ne_of h hp fun z => h1 _ z.symm)]; exact h
  · rw [upd_ne (ne_of h hp fun z => h2 _ _ z.symm)]; exact h
theorem RO.mono {a : Addr} {o : Ob} (e : Ext m H m' H') (k : ∀ u, H a = some u → H' a = some u) (h : RO K mg m H a o) : RO K mg m' H' a o := by
  cases o with
  | lst xs => obtain ⟨vs, h1, h2⟩ := h; exact ⟨vs, k _ h1, h2.mono e⟩
  | dK xs => obtain ⟨vs, h1, h2⟩ := h; exact ⟨vs, k _ h1, h2.mono e⟩
  | dT xs => obtain ⟨vs, h1, h2⟩ := h; exact ⟨vs, k _ h1, h2.mono e⟩
  | ins c fs => obtain ⟨C, dx, vs, h1, h3, h2⟩ := h; exact ⟨C, dx, vs, k _ h1, h3, h2.mono e⟩
theorem RO.there {a : Addr} {o : Ob} (h : RO K mg m H a o) : ∃ u, H a = some u := by
  cases o with
  | lst xs => obtain ⟨vs, h1, h2⟩ := h; exact ⟨_, h1⟩
  | dK xs => obtain ⟨vs, h1, h2⟩ := h; exact ⟨_, h1⟩
  | dT xs => obtain ⟨vs, h1, h2⟩ := h; exact ⟨_, h1⟩
  | ins c fs => obtain ⟨C, dx, vs, h1, _⟩ := h; exact ⟨_, h1⟩
theorem Sim.at {S : Sto} (s : Sim K mg m S H) {i : Nat} {o : Ob} (h : S[i]? = some o) : ∃ a, m[i]? = some a ∧ RO K mg m H a o := by
  have hl : i < m.length := by rw [s.len]; exact (List.getElem?_eq_some_iff.mp h).1
  exact ⟨m[i], List.getElem?_eq_getElem hl, s.ob i o _ h (List.getElem?_eq_getElem hl)⟩
/-- a tuple or any other thing that the store does not name is laid -/
theorem Sim.plain {S : Sto} {p : Addr} {o : HO} (s : Sim K mg m S H) (hp : H p = none) : Sim K mg m S (upd H p o) := by
  refine ⟨s.len, s.nd, fun i ob a h1 h2 => (s.ob i ob a h1 h2).mono (Ext.plain hp) fun u h => ?_⟩
  rw [upd_ne (ne_of_none h hp)]; exact h
theorem Sim.new {S : Sto} {p : Addr} {o : HO} {ob : Ob} (s : Sim K mg m S H) (hp : H p = none) (r : RO K mg (m ++ [p]) (upd H p o) p ob) : Sim K mg (m ++ [p]) (S ++ [ob]) (upd H p o) := by
  have hm : p ∉ m := fun hm => by
    obtain ⟨i, hi, e⟩ := List.getElem_of_mem hm
    obtain ⟨u, hu⟩ := (s.ob i S[i]! p (by rw [List.getElem?_eq_getElem (by rw [← s.len]; exact hi)]; simp [getElem!_def, s.len ▸ hi]) (by rw [List.getElem?_eq_getElem hi, e])).there
    rw [hu] at hp; cases hp
  refine ⟨by simp [s.len], ?_, fun i o' a h1 h2 => ?_⟩
  · rw [List.nodup_append]
    refine ⟨s.nd, by simp, fun x hx y hy e => ?_⟩
    simp at hy; subst hy; subst e; exact hm hx
  · by_cases hi : i < S.length
    · rw [List.getElem?_append_left hi] at h1
      rw [List.getElem?_append_left (by rw [s.len]; exact hi)] at h2
      exact (s.ob i o' a h1 h2).mono (Ext.new hp) fun u h => by rw [upd_ne (ne_of_none h hp)]; exact h
    · have hi' : i = S.length := by
        have := (List.getElem?_eq_some_iff.mp h1).1
        simp at this; omega
      subst hi'
      rw [List.getElem?_append_right (Nat.le_refl _)] at h1
      rw [List.getElem?_append_right (by rw [s.len]; exact Nat.le_refl _)] at h2
      simp [s.len] at h1 h2
      subst h1; subst h2; exact r
theorem Sim.chg {S : Sto} {i : Nat} {a : Addr} {o o' : HO} {ob : Ob} (s : Sim K mg m S H) (hm : m[i]? = some a) (hp : H a = some o) (h1 : ∀ xs, o ≠ .tup xs) (h2 : ∀ ob u, o ≠ .frz ob u)
    (r : RO K mg m (upd H a o') a ob) : Sim K mg m (S.set i ob) (upd H a o') := by
  refine ⟨by simp [s.len], s.nd, fun j oj b h3 h4 => ?_⟩
  by_cases hj : j = i
  · subst hj
    rw [hm] at h4; cases h4
    rw [List.getElem?_set_self (by have := (List.getElem?_eq_some_iff.mp h3).1; simpa using this)] at h3
    cases h3; exact r
  · rw [List.getElem?_set_ne (Ne.symm hj)] at h3
    refine (s.ob j oj b h3 h4).mono (Ext.chg hp h1 h2) fun u h => ?_
    have : b ≠ a := fun e => by
      subst e
      have hjl := (List.getElem?_eq_some_iff.mp h4)
      have hil := (List.getElem?_eq_some_iff.mp hm)
      obtain ⟨a1, b1⟩ := hjl
      obtain ⟨a2, b2⟩ := hil
      exact hj (List.getElem_inj s.nd |>.mp (b1.trans b2.symm))
    rw [upd_ne this]; exact h
end
end Fr

namespace Fr
open PySem PySem.Spec PyProof.Rows L2

/-! ### what is wanted of a result -/
section
variable (K : PySem.W.Frag) (mg : Str → Option Value)
def RX (m : List Addr) (H : Hp) (c : Str) (d : Option (List (Str × W))) (cls : Value) (d' : Option Addr) : Prop :=
  (∃ C, cls = .ref C ∧ mg c = some (.ref C)) ∧ match d, d' with
    | none, none => True
    | some fs, some a => ∃ vs, H a = some (.xd vs) ∧ RFs K mg m H fs vs
    | _, _ => False
def RSl (m : List Addr) (H : Hp) (s : Sl) (s' : L2.St) : Prop := s.length = s'.length ∧ ∀ (i : Nat) (w : W), s[i]? = some (some w) → ∃ v, s'[i]? = some (some v) ∧ RV K mg m H w v
def WG {α β : Type} (R : List Addr → Hp → α → β → Prop) (r : Rs α) (m : List Addr) (H : Hp) (Q : β → Hp → Prop) (E : XK) : Prop := match r with
  | .ok a S' => ∀ m' H' b, Ext m H m' H' → Sim K mg m' S' H' → R m' H' a b → Q b H'
  | .ex c d S' => ∀ m' H' cls d', Ext m H m' H' → Sim K mg m' S' H' → RX K mg m' H' c d cls d' → E cls d' H'
  | .bad => False
end
/-- what is kept of the slots, what is wished of an exception -/
structure Cc where
  Z : L2.St → Prop
  Wx : WX
section
variable (K : PySem.W.Frag) (mg : Str → Option Value)
def tG {α β : Type} (R : List Addr → Hp → α → β → Prop) (C : Cc) (f : Sl → M α) : L2.St → Hp → (β → Hp → Prop) → Prop := fun s' H Q =>
  ∃ m S s, C.Z s' ∧ Sim K mg m S H ∧ RSl K mg m H s s' ∧ WG K mg R (f s S) m H Q (fun c d H' => C.Wx c d s' H')
def WS (r : RS) (m : List Addr) (H : Hp) (D : Ends) (C : Cc) : Prop := match r with
  | .nx s S => ∀ m' H' s', Ext m H m' H' → C.Z s' → Sim K mg m' S H' → RSl K mg m' H' s s' → D.nx s' H'
  | .bk s S => ∀ m' H' s', Ext m H m' H' → C.Z s' → Sim K mg m' S H' → RSl K mg m' H' s s' → D.bk s' H'
  | .ct s S => ∀ m' H' s', Ext m H m' H' → C.Z s' → Sim K mg m' S H' → RSl K mg m' H' s s' → D.ct s' H'
  | .rt w S => ∀ m' H' v, Ext m H m' H' → Sim K mg m' S H' → RV K mg m' H' w v → D.rt v H'
  | .ex c d s S => ∀ m' H' s' cls d', Ext m H m' H' → C.Z s' → Sim K mg m' S H' → RSl K mg m' H' s s' → RX K mg m' H' c d cls d' → C.Wx cls d' s' H'
  | .bad => False
def tS (C : Cc) (f : Stm) : TS := fun D s' H => ∃ m S s, C.Z s' ∧ Sim K mg m S H ∧ RSl K mg m H s s' ∧ WS K mg (f s S) m H D C
end
abbrev eqR {α : Type} : List Addr → Hp → α → α → Prop := fun _ _ a b => b = a
abbrev SE (X : Cx) (C : Cc) (e : Expr) (f : Exp) : Prop := PE X e (tG X.K X.mg (RV X.K X.mg) C f)
abbrev ST (X : Cx) (C : Cc) (e : Expr) (f : Tst) : Prop := PT X e (tG X.K X.mg eqR C f)
abbrev SW (X : Cx) (C : Cc) (e : Expr) (f : Tst) : Prop := PW X e (tG X.K X.mg eqR C f)
abbrev SA (X : Cx) (C : Cc) (es : List Expr) (f : Arg) : Prop := PA X es (tG X.K X.mg (RVs X.K X.mg) C f)
abbrev SS (X : Cx) (C : Cc) (st : Stmt) (f : Stm) : Prop := PS X st (tS X.K X.mg C f)
abbrev SB (X : Cx) (C : Cc) (sts : List Stmt) (f : Stm) : Prop := PSs X sts (tS X.K X.mg C f)

section
variable {K : PySem.W.Frag} {mg : Str → Option Value} {m m' m1 : List Addr} {H H' H1 : Hp} {α β γ δ : Type} {R : List Addr → Hp → α → β → Prop} {R' : List Addr → Hp → γ → δ → Prop} {Q : δ → Hp → Prop} {Q' : β → Hp → Prop} {E : XK} {C : Cc} {s : Sl} {s' : L2.St} {S : Sto}
theorem RSl.mono (e : Ext m H m' H') (h : RSl K mg m H s s') : RSl K mg m' H' s s' := ⟨h.1, fun i w hw => let ⟨v, h1, h2⟩ := h.2 i w hw; ⟨v, h1, h2.mono e⟩⟩
theorem RSl.set {i : Nat} {w : W} {v : V} (h : RSl K mg m H s s') (r : RV K mg m H w v) : RSl K mg m H (s.set i (some w)) (s'.set i (some v)) := by
  refine ⟨by simp [h.1], fun j u hu => ?_⟩
  by_cases hj : j = i
  · subst hj
    have hl : j < s.length := by
      have := (List.getElem?_eq_some_iff.mp hu).1
      simpa using this
    rw [List.getElem?_set_self hl] at hu
    cases hu
    exact ⟨v, List.getElem?_set_self (by rw [← h.1]; exact hl), r⟩
  · rw [List.getElem?_set_ne (Ne.symm hj)] at hu
    obtain ⟨v', h1, h2⟩ := h.2 j u hu
    exact ⟨v', by rw [List.getElem?_set_ne (Ne.symm hj)]; exact h1, h2⟩
theorem RSl.drop {i : Nat} {o : Option V} (h : RSl K mg m H s s') : RSl K mg m H (s.set i none) (s'.set i o) := by
  refine ⟨by simp [h.1], fun j u hu => ?_⟩
  by_cases hj : j = i
  · subst hj
    have hl : j < s.length := by
      have := (List.getElem?_eq_some_iff.mp hu).1
      simpa using this
    rw [List.getElem?_set_self hl] at hu
    cases hu
  · rw [List.getElem?_set_ne (Ne.symm hj)] at hu
    obtain ⟨v', h1, h2⟩ := h.2 j u hu
    exact ⟨v', by rw [List.getElem?_set_ne (Ne.symm hj)]; exact h1, h2⟩
theorem RX.mono {c : Str} {d : Option (List (Str × W))} {cls : Value} {d' : Option Addr} (e : Ext m H m' H') (hx : ∀ a vs, H a = some (.xd vs) → H' a = some (.xd vs)) (h : RX K mg m H c d cls d') : RX K mg m' H' c d cls d' := by
  refine ⟨h.1, ?_⟩
  have h2 := h.2
  cases d with
  | none => cases d' with
    | none => trivial
    | some a => exact h2
  | some fs => cases d' with
    | none => exact h2
    | some a => obtain ⟨vs, h3, h4⟩ := h2; exact ⟨vs, hx _ _ h3, h4.mono e⟩
theorem WG.shift {r : Rs γ} (e : Ext m H m1 H1) (w : WG K mg R' r m H Q E) : WG K mg R' r m1 H1 Q E := by
  cases r with
  | ok a S' => exact fun m' H' b e' s r => w m' H' b (e.trans e') s r
  | ex c d S' => exact fun m' H' cls d' e' s r => w m' H' cls d' (e.trans e') s r
  | bad => exact w
theorem WG.bind {f : M α} {k : α → M γ} (w : WG K mg R' (bd f k S) m H Q E)
    (h : ∀ a S1 m1 H1 b, Ext m H m1 H1 → Sim K mg m1 S1 H1 → R m1 H1 a b → WG K mg R' (k a S1) m1 H1 Q E → Q' b H1) : WG K mg R (f S) m H Q' E := by
  unfold bd at w
  cases hf : f S with
  | ok a S' => rw [hf] at w; exact fun m' H' b e s r => h a S' m' H' b e s r (w.shift e)
  | ex c d S' => rw [hf] at w; exact w
  | bad => rw [hf] at w; exact w
theorem WS.shift {r : RS} {D : Ends} (e : Ext m H m1 H1) (w : WS K mg r m H D C) : WS K mg r m1 H1 D C := by
  cases r with
  | nx s S => exact fun m' H' b e' z s r => w m' H' b (e.trans e') z s r
  | bk s S => exact fun m' H' b e' z s r => w m' H' b (e.trans e') z s r
  | ct s S => exact fun m' H' b e' z s r => w m' H' b (e.trans e') z s r
  | rt s S => exact fun m' H' b e' s r => w m' H' b (e.trans e') s r
  | ex c d s S' => exact fun m' H' t cls d' e' z s r q => w m' H' t cls d' (e.trans e') z s r q
  | bad => exact w
theorem tG.bind {f : Sl → M α} {k : Sl → α → M γ} (h : tG K mg R' C (fun s => bd (f s) (k s)) s' H Q)
    (hk : ∀ m1 S1 s H1 a b, C.Z s' → Sim K mg m1 S1 H1 → RSl K mg m1 H1 s s' → R m1 H1 a b → WG K mg R' (k s a S1) m1 H1 Q (fun c d H' => C.Wx c d s' H') → Q' b H1) : tG K mg R C f s' H Q' := by
  obtain ⟨m, S, s, z, sim, sl, w⟩ := h
  exact ⟨m, S, s, z, sim, sl, w.bind fun a S1 m1 H1 b e s1 r w1 => hk m1 S1 s H1 a b z s1 (sl.mono e) r w1⟩
theorem WG.ok {a : γ} {b : δ} (w : WG K mg R' (.ok a S) m H Q E) (s : Sim K mg m S H) (r : R' m H a b) : Q b H := w m H b (.refl _ _) s r
end
section
variable {X : Cx}
theorem PE.imp {e : Expr} {t t' : TE} (h : PE X e t) (k : ∀ s H Q, t' s H Q → t s H Q) : PE X e t' := ⟨fun pins s σ H Q I q => h.run pins s σ H Q I (k _ _ _ q)⟩
theorem PT.imp {e : Expr} {t t' : TT} (h : PT X e t) (k : ∀ s H Q, t' s H Q → t s H Q) : PT X e t' := ⟨fun pins s σ H Q I q => h.run pins s σ H Q I (k _ _ _ q)⟩
theorem PW.imp {e : Expr} {t t' : TT} (h : PW X e t) (k : ∀ s H Q, t' s H Q → t s H Q) : PW X e t' := ⟨fun wh pins s σ H Q I q => h.run wh pins s σ H Q I (k _ _ _ q)⟩
theorem PA.imp {e : List Expr} {t t' : TA} (h : PA X e t) (k : ∀ s H Q, t' s H Q → t s H Q) : PA X e t' := ⟨fun pos pins s σ H Q I q => h.run pos pins s σ H Q I (k _ _ _ q)⟩
theorem PS.imp {e : Stmt} {t t' : TS} (h : PS X e t) (k : ∀ D s H, t' D s H → t D s H) : PS X e t' := ⟨fun pins s σ H D I q => h.run pins s σ H D I (k _ _ _ q)⟩
theorem PSs.imp {e : List Stmt} {t t' : TS} (h : PSs X e t) (k : ∀ D s H, t' D s H → t D s H) : PSs X e t' := ⟨fun pins s σ H D I q => h.run pins s σ H D I (k _ _ _ q)⟩
end

/-! ### expressions -/
def eVar (i : Nat) : Exp := fun s S => match s[i]? with
  | some (some w) => .ok w S
  | _ => .bad
def eC (w : W) : Exp := fun _ => rt w
def eOp (o : W → W → M W) (a b : Exp) : Exp := fun s => bd (a s) fun x => bd (b s) fun y => o x y
def eUn (o : W → M W) (a : Exp) : Exp := fun s => bd (a s) o
def eAnd (a b : Exp) : Exp := fun s => bd (a s) fun x => match x with
  | .bl true => b s
  | .bl false => rt (.bl false)
  | _ => bad
def eOr (a b : Exp) : Exp := fun s => bd (a s) fun x => match x with
  | .bl false => b s
  | .bl true => rt (.bl true)
  | _ => bad
def eNot (a : Exp) : Exp := fun s => bd (a s) fun x => match x with
  | .bl b => rt (.bl !b)
  | _ => bad
def eIf (c : Tst) (a b : Exp) : Exp := fun s => bd (c s) fun k => if k = true then a s else b s
/-- a < b < c -/
def eChain (o o' : W → W → M W) (a b c : Exp) : Exp := fun s => bd (a s) fun x => bd (b s) fun y => bd (o x y) fun z => match z with
  | .bl true => bd (c s) fun u => o' y u
  | .bl false => rt (.bl false)
  | _ => bad
/-- a value that is a bool, as a test -/
def tB (a : Exp) : Tst := fun s => bd (a s) fun x => match x with
  | .bl b => rt b
  | _ => bad
def tAnd (a b : Tst) : Tst := fun s => bd (a s) fun k => if k = true then b s else rt false
def tOr (a b : Tst) : Tst := fun s => bd (a s) fun k => if k = true then rt true else b s
def tNot (a : Tst) : Tst := fun s => bd (a s) fun k => rt !k
def aNil : Arg := fun _ => rt []
def aCons (a : Exp) (r : Arg) : Arg := fun s => bd (a s) fun x => bd (r s) fun xs => rt (x :: xs)
def eTup (a : Arg) : Exp := fun s => bd (a s) fun xs => if xs.length ≤ sizeLine then rt (.tup xs) else bad
def new (o : Ob) : M W := fun S => .ok (.ref S.length) (S ++ [o])
def eLst (a : Arg) : Exp := fun s => bd (a s) fun xs => if xs.length ≤ sizeLine then new (.lst xs) else bad
/-- a built-in's call, by values -/
def eB (f : List W → M W) (a : Arg) : Exp := fun s => bd (a s) f
def eCall (f : Fn) (a : Arg) : Exp := fun s => bd (a s) f

section
variable {X : Cx} {C : Cc} {a b c : Expr} {es : List Expr} {fa fb fc : Exp} {pos p : Pos}
theorem se_var {i : Nat} {x : Str} (hN : X.N[i]? = some x := by rfl) (hv : Vis X.env.scope x := by first | exact Or.inl rfl | exact Or.inr (Or.inl rfl) | exact Or.inr (Or.inr rfl))
    (hd : (x == ("__debug__" : Str)) = false := by decide) (hcd : (x == ("__classdict__" : Str)) = false := by decide) : SE X C (.Name x pos) (eVar i) := by
  refine PE.imp (pe_var hN hv hd hcd) fun s' H Q h => ?_
  obtain ⟨m, S, s, z, sim, sl, w⟩ := h
  unfold eVar at w
  split at w
  · rename_i u hu
    obtain ⟨v, h1, h2⟩ := sl.2 i u hu
    exact ⟨v, h1, w.ok sim h2⟩
  · exact False.elim w
theorem se_c {t : TE} {w : W} {v : V} (h : PE X a (tC v)) (hr : ∀ m H, RV X.K X.mg m H w v) : SE X C a (eC w) := by
  refine PE.imp h fun s' H Q h => ?_
  obtain ⟨m, S, s, z, sim, sl, w⟩ := h
  exact w.ok sim (hr m H)
theorem se_int {i : Int} {j : Nat} : SE X C (.Constant (.int i) j pos) (eC (.int i)) := se_c (t := tC (.int i)) pe_int fun _ _ => by unfold RV; rfl
theorem se_str {x : Str} {j : Nat} : SE X C (.Constant (.str x) j pos) (eC (.str x)) := se_c (t := tC (.str x)) pe_str fun _ _ => by unfold RV; rfl
theorem se_bl {x : Bool} {j : Nat} : SE X C (.Constant (.bool x) j pos) (eC (.bl x)) := se_c (t := tC (.bl x)) pe_bl fun _ _ => by unfold RV; rfl
theorem se_non {j : Nat} : SE X C (.Constant .none j pos) (eC .non) := se_c (t := tC .non) pe_non fun _ _ => by unfold RV; rfl
/-- a module's constant -/
theorem se_glob {x : Str} {w : W} {v : V} {u : Value} (hg : Gl X x) (hm : X.mg x = some u) (r : RelV v u) (hr : ∀ m H, RV X.K X.mg m H w v) (hd : (x == ("__debug__" : Str)) = false := by decide) : SE X C (.Name x pos) (eC w) :=
  se_c (t := tC v) (pe_glob hg hm r hd) hr
/-- a built-in type as a value -/
theorem se_ty {x : Str} {n : String} (hg : Gl X x) (hm : X.mg x = none) (hv : bootBuiltins x = some (.type n)) (hn : x ≠ "__name__" := by decide) (hd : (x == ("__debug__" : Str)) = false := by decide) : SE X C (.Name x pos) (eC (.ty n)) :=
  se_c (t := tC (.ty n)) (pe_bltn (v := .ty n) hg hm hv rfl hn hd) fun _ _ => by unfold RV; rfl
/-- the module's class or def x, as a value -/
theorem se_gl {x : Str} {A : Addr} (hg : Gl X x) (hm : X.mg x = some (.ref A)) (hd : (x == ("__debug__" : Str)) = false := by decide) : SE X C (.Name x pos) (eC (.gl x)) :=
  se_c (t := tC (.ref A)) (pe_glob (v := .ref A) hg hm rfl hd) fun _ _ => by unfold RV; exact ⟨A, hm, rfl⟩

/-- an operation by values: r is the layer's reading, o the store language's -/
def O2 (X : Cx) (r : R2) (o : W → W → M W) : Prop := ∀ x y S m H v u Q E, Sim X.K X.mg m S H → RV X.K X.mg m H x v → RV X.K X.mg m H y u → WG X.K X.mg (RV X.K X.mg) (o x y S) m H Q E → r v u H Q
def O1 (X : Cx) (r : V → Hp → VK → Prop) (o : W → M W) : Prop := ∀ x S m H v Q E, Sim X.K X.mg m S H → RV X.K X.mg m H x v → WG X.K X.mg (RV X.K X.mg) (o x S) m H Q E → r v H Q
def OC (X : Cx) (r : List V → Hp → VK → Prop) (o : List W → M W) : Prop := ∀ x S m H v Q E, Sim X.K X.mg m S H → RVs X.K X.mg m H x v → WG X.K X.mg (RV X.K X.mg) (o x S) m H Q E → r v H Q
theorem se_op {op : Operator} {r : R2} {o : W → W → M W} (ho : OpR X (binaryOp op) r) (hr : O2 X r o) (ha : SE X C a fa) (hb : SE X C b fb) : SE X C (.BinOp a op b pos) (eOp o fa fb) := by
  refine PE.imp (pe_op ho ha hb) fun s' H Q h => ?_
  refine tG.bind h fun m1 S1 s H1 x v z s1 l1 r1 w1 => ?_
  exact ⟨m1, S1, s, z, s1, l1, w1.bind fun y S2 m2 H2 u e2 s2 r2 w2 => hr x y S2 m2 H2 v u Q _ s2 (r1.mono e2) r2 w2⟩
theorem se_un {op : UnaryOp} {r : V → Hp → VK → Prop} {o : W → M W} (ho : UnR X (unaryOp op) r) (hr : O1 X r o) (ha : SE X C a fa) : SE X C (.UnaryOp op a pos) (eUn o fa) := by
  refine PE.imp (pe_un ho ha) fun s' H Q h => ?_
  exact tG.bind h fun m1 S1 s H1 x v z s1 l1 r1 w1 => hr x S1 m1 H1 v Q _ s1 r1 w1
theorem se_cmp {op : CmpOp} {r : R2} {o : W → W → M W} (ho : OpR X (compareOp op) r) (hr : O2 X r o) (ha : SE X C a fa) (hb : SE X C b fb) (hm : behindInMarks op b = false := by first | exact nomark _ | rfl) : SE X C (.Compare a [op] [b] pos) (eOp o fa fb) := by
  refine PE.imp (pe_cmpR ho ha hb hm) fun s' H Q h => ?_
  refine tG.bind h fun m1 S1 s H1 x v z s1 l1 r1 w1 => ?_
  exact ⟨m1, S1, s, z, s1, l1, w1.bind fun y S2 m2 H2 u e2 s2 r2 w2 => hr x y S2 m2 H2 v u Q _ s2 (r1.mono e2) r2 w2⟩
/-- what a comparison hands on is a bool -/
theorem WG.tb {K : PySem.W.Frag} {mg : Str → Option Value} {m : List Addr} {H : Hp} {f : M W} {S : Sto} {Q : Bool → Hp → Prop} {E : XK} (w : WG K mg eqR (bd f (fun x => match x with
  | .bl b => rt b
  | _ => bad) S) m H Q E) : WG K mg (RV K mg) (f S) m H (fun x H' => ∃ k, x = .bl k ∧ Q k H') E := by
  refine w.bind fun x S1 m1 H1 v e s1 r1 w1 => ?_
  cases x with
  | bl k => unfold RV at r1; exact ⟨k, r1, w1.ok s1 rfl⟩
  | _ => exact False.elim w1
theorem bd_assoc {α β γ : Type} (f : M α) (g : α → M β) (h : β → M γ) : bd (bd f g) h = bd f fun x => bd (g x) h := by
  funext S
  unfold bd
  cases f S <;> rfl
theorem st_cmp {op : CmpOp} {r : R2} {o : W → W → M W} (ho : OpR X (compareOp op) r) (hr : O2 X r o) (ha : SE X C a fa) (hb : SE X C b fb) (hm : behindInMarks op b = false := by first | exact nomark _ | rfl) : ST X C (.Compare a [op] [b] pos) (tB (eOp o fa fb)) := by
  refine PT.imp (pt_cmpR ho ha hb hm) fun s' H Q h => ?_
  obtain ⟨m, S, s, z, sim, sl, w⟩ := h
  unfold tB eOp at w
  rw [bd_assoc] at w
  refine ⟨m, S, s, z, sim, sl, w.bind fun x S1 m1 H1 v e1 s1 r1 w1 => ?_⟩
  rw [bd_assoc] at w1
  refine ⟨m1, S1, s, z, s1, sl.mono e1, w1.bind fun y S2 m2 H2 u e2 s2 r2 w2 => ?_⟩
  exact hr x y S2 m2 H2 v u _ _ s2 (r1.mono e2) r2 w2.tb
theorem st_val (ha : SE X C a fa) (he : ∀ whole, isTrue a X.env whole = (do let v ← whole; standAt a.pos; holding [v] (truthy v)) := by intro _; rfl) : ST X C a (tB fa) := by
  refine PT.imp (pt_val ha he) fun s' H Q h => ?_
  obtain ⟨m, S, s, z, sim, sl, w⟩ := h
  exact ⟨m, S, s, z, sim, sl, w.tb⟩
theorem se_chain {op op' : CmpOp} {r r' : R2} {o o' : W → W → M W} (ho : OpR X (compareOp op) r) (hr : O2 X r o) (ho' : OpR X (compareOp op') r') (hr' : O2 X r' o') (ha : SE X C a fa) (hb : SE X C b fb) (hc : SE X C c fc) (hm : lastMarks [op, op'] [b, c] = false := by with_unfolding_all rfl) : SE X C (.Compare a [op, op'] [b, c] pos) (eChain o o' fa fb fc) := by
  refine PE.imp (pe_chain ho ho' ha hb hc hm) fun s' H Q h => ?_
  refine tG.bind h fun m1 S1 s H1 x v z s1 l1 r1 w1 => ?_
  refine ⟨m1, S1, s, z, s1, l1, w1.bind fun y S2 m2 H2 u e2 s2 r2 w2 => ?_⟩
  refine hr x y S2 m2 H2 v u _ _ s2 (r1.mono e2) r2 (w2.bind fun t S3 m3 H3 tv e3 s3 r3 w3 => ?_)
  cases t with
  | bl k =>
    unfold RV at r3
    refine ⟨k, r3, ?_⟩
    cases k with
    | true =>
      rw [if_pos rfl]
      exact ⟨m3, S3, s, z, s3, (l1.mono e2).mono e3, w3.bind fun q S4 m4 H4 qv e4 s4 r4 w4 => hr' y q S4 m4 H4 u qv Q _ s4 ((r2.mono e3).mono e4) r4 w4⟩
    | false =>
      rw [if_neg Bool.false_ne_true]
      exact w3.ok s3 (by unfold RV; rfl)
  | _ => exact False.elim w3
theorem st_chain {op op' : CmpOp} {r r' : R2} {o o' : W → W → M W} (ho : OpR X (compareOp op) r) (hr : O2 X r o) (ho' : OpR X (compareOp op') r') (hr' : O2 X r' o') (ha : SE X C a fa) (hb : SE X C b fb) (hc : SE X C c fc) (hm : lastMarks [op, op'] [b, c] = false := by with_unfolding_all rfl) : ST X C (.Compare a [op, op'] [b, c] pos) (tB (eChain o o' fa fb fc)) := by
  refine PT.imp (pt_chain ho ho' ha hb hc hm) fun s' H Q h => ?_
  obtain ⟨m, S, s, z, sim, sl, w⟩ := h
  unfold tB eChain at w
  rw [bd_assoc] at w
  refine ⟨m, S, s, z, sim, sl, w.bind fun x S1 m1 H1 v e1 s1 r1 w1 => ?_⟩
  rw [bd_assoc] at w1
  refine ⟨m1, S1, s, z, s1, sl.mono e1, w1.bind fun y S2 m2 H2 u e2 s2 r2 w2 => ?_⟩
  rw [bd_assoc] at w2
  refine hr x y S2 m2 H2 v u _ _ s2 (r1.mono e2) r2 (w2.bind fun t S3 m3 H3 tv e3 s3 r3 w3 => ?_)
  cases t with
  | bl k =>
    unfold RV at r3
    refine ⟨k, r3, ?_⟩
    cases k with
    | true =>
      rw [if_pos rfl]
      replace w3 := show WG X.K X.mg eqR (bd (bd (fc s) fun u => o' y u) _ S3) _ _ _ _ from w3
      rw [bd_assoc] at w3
      exact ⟨m3, S3, s, z, s3, ((sl.mono e1).mono e2).mono e3, w3.bind fun q S4 m4 H4 qv e4 s4 r4 w4 => hr' y q S4 m4 H4 u qv _ _ s4 ((r2.mono e3).mono e4) r4 w4.tb⟩
    | false =>
      rw [if_neg Bool.false_ne_true]
      exact ⟨false, rfl, w3.ok s3 rfl⟩
  | _ => exact False.elim w3
theorem se_one {op} (h : SE X C a fa) : SE X C (.BoolOp op [a] pos) fa := pe_one h
theorem se_and {rest : List Expr} (ha : SE X C a fa) (hb : SE X C (.BoolOp .And (b :: rest) pos) fb) : SE X C (.BoolOp .And (a :: b :: rest) pos) (eAnd fa fb) := by
  refine PE.imp (pe_and ha hb) fun s' H Q h => ?_
  refine tG.bind h fun m1 S1 s H1 x v z s1 l1 r1 w1 => ?_
  cases x with
  | bl k =>
    unfold RV at r1
    refine ⟨k, r1, ?_⟩
    cases k with
    | true => rw [if_pos rfl]; exact ⟨m1, S1, s, z, s1, l1, w1⟩
    | false => rw [if_neg Bool.false_ne_true]; exact w1.ok s1 (by unfold RV; rfl)
  | _ => exact False.elim w1
theorem se_or {rest : List Expr} (ha : SE X C a fa) (hb : SE X C (.BoolOp .Or (b :: rest) pos) fb) : SE X C (.BoolOp .Or (a :: b :: rest) pos) (eOr fa fb) := by
  refine PE.imp (pe_or ha hb) fun s' H Q h => ?_
  refine tG.bind h fun m1 S1 s H1 x v z s1 l1 r1 w1 => ?_
  cases x with
  | bl k =>
    unfold RV at r1
    refine ⟨k, r1, ?_⟩
    cases k with
    | false => rw [if_neg Bool.false_ne_true]; exact ⟨m1, S1, s, z, s1, l1, w1⟩
    | true => rw [if_pos rfl]; exact w1.ok s1 (by unfold RV; rfl)
  | _ => exact False.elim w1
theorem se_not (ha : SE X C a fa) : SE X C (.UnaryOp .Not a pos) (eNot fa) := by
  refine PE.imp (pe_not ha) fun s' H Q h => ?_
  refine tG.bind h fun m1 S1 s H1 x v z s1 l1 r1 w1 => ?_
  cases x with
  | bl k =>
    unfold RV at r1
    exact ⟨k, r1, w1.ok s1 (by unfold RV; rfl)⟩
  | _ => exact False.elim w1
variable {ta tb : Tst}
theorem sw_and1 (ha : ST X C a ta) : SW X C (.BoolOp .And [a] pos) ta := pw_and1 ha
theorem sw_or1 (ha : ST X C a ta) : SW X C (.BoolOp .Or [a] pos) ta := pw_or1 ha
theorem sw_and {rest : List Expr} (ha : ST X C a ta) (hb : SW X C (.BoolOp .And (b :: rest) pos) tb) : SW X C (.BoolOp .And (a :: b :: rest) pos) (tAnd ta tb) := by
  refine PW.imp (pw_and ha hb) fun s' H Q h => ?_
  refine tG.bind h fun m1 S1 s H1 x v z s1 l1 r1 w1 => ?_
  subst r1
  cases v with
  | true => rw [if_pos rfl]; exact ⟨m1, S1, s, z, s1, l1, w1⟩
  | false => rw [if_neg Bool.false_ne_true]; exact w1.ok s1 rfl
theorem sw_or {rest : List Expr} (ha : ST X C a ta) (hb : SW X C (.BoolOp .Or (b :: rest) pos) tb) : SW X C (.BoolOp .Or (a :: b :: rest) pos) (tOr ta tb) := by
  refine PW.imp (pw_or ha hb) fun s' H Q h => ?_
  refine tG.bind h fun m1 S1 s H1 x v z s1 l1 r1 w1 => ?_
  subst r1
  cases v with
  | false => rw [if_neg Bool.false_ne_true]; exact ⟨m1, S1, s, z, s1, l1, w1⟩
  | true => rw [if_pos rfl]; exact w1.ok s1 rfl
theorem st_w (h : SW X C a ta) : ST X C a ta := PW.pt h
theorem st_not (ha : ST X C a ta) : ST X C (.UnaryOp .Not a pos) (tNot ta) := by
  refine PT.imp (pt_not ha) fun s' H Q h => ?_
  refine tG.bind h fun m1 S1 s H1 x v z s1 l1 r1 w1 => ?_
  subst r1
  exact w1.ok s1 rfl
theorem se_if (hc : ST X C c ta) (ha : SE X C a fa) (hb : SE X C b fb) : SE X C (.IfExp c a b pos) (eIf ta fa fb) := by
  refine PE.imp (pe_ifExp hc ha hb) fun s' H Q h => ?_
  refine tG.bind h fun m1 S1 s H1 x v z s1 l1 r1 w1 => ?_
  subst r1
  cases v with
  | true => rw [if_pos rfl]; exact ⟨m1, S1, s, z, s1, l1, w1⟩
  | false => rw [if_neg Bool.false_ne_true]; exact ⟨m1, S1, s, z, s1, l1, w1⟩
/-! arguments, displays -/
variable {fr : Arg}
theorem sa_nil : SA X C [] aNil := by
  refine PA.imp pa_nil fun s' H Q h => ?_
  obtain ⟨m, S, s, z, sim, sl, w⟩ := h
  exact w.ok sim .nil
theorem sa_cons (ha : SE X C a fa) (hr : SA X C es fr) (hs : starEach (a :: es) X.env = (false, eval a X.env) :: starEach es X.env := by rfl) : SA X C (a :: es) (aCons fa fr) := by
  refine PA.imp (pa_cons ha hr hs) fun s' H Q h => ?_
  refine tG.bind h fun m1 S1 s H1 x v z s1 l1 r1 w1 => ?_
  refine ⟨m1, S1, s, z, s1, l1, w1.bind fun y S2 m2 H2 u e2 s2 r2 w2 => ?_⟩
  exact w2.ok s2 (.cons (r1.mono e2) r2)
theorem se_tup {k} (h : SA X C es fr) : SE X C (.Tuple es k pos) (eTup fr) := by
  refine PE.imp (pe_tup h) fun s' H Q h => ?_
  refine tG.bind h fun m1 S1 s H1 x v z s1 l1 r1 w1 => ?_
  split at w1
  · rename_i hl
    refine ⟨by rw [← r1.length]; exact hl, fun q hq => ?_⟩
    refine w1 m1 _ _ (Ext.plain hq) (s1.plain hq) ?_
    unfold RV
    exact ⟨q, v, rfl, .inl (.inl upd_same), r1.mono (Ext.plain hq)⟩
  · exact False.elim w1
/-- a new object -/
theorem WG.new {K : PySem.W.Frag} {mg : Str → Option Value} {m : List Addr} {H : Hp} {S : Sto} {o : Ob} {Q : VK} {E : XK} {q : Addr} {h : HO} (w : WG K mg (RV K mg) (new o S) m H Q E) (s : Sim K mg m S H) (hq : H q = none) (r : RO K mg (m ++ [q]) (upd H q h) q o) : Q (.ref q) (upd H q h) := by
  refine w (m ++ [q]) _ _ (Ext.new hq) (s.new hq r) ?_
  unfold RV
  exact ⟨q, by rw [← s.len]; simp, rfl⟩
theorem se_lst (h : SA X C es fr) : SE X C (.List es pos) (eLst fr) := by
  refine PE.imp (pe_lst h) fun s' H Q h => ?_
  refine tG.bind h fun m1 S1 s H1 x v z s1 l1 r1 w1 => ?_
  split at w1
  · rename_i hl
    refine ⟨by rw [← r1.length]; exact hl, fun q hq => ?_⟩
    exact w1.new s1 hq ⟨v, upd_same, r1.mono (Ext.new hq)⟩
  · exact False.elim w1
/-! built-ins by name -/
variable {x : Str} {id T : String} {r : List V → Hp → VK → Prop} {o : List W → M W}
theorem se_callB (hc : CallR X (.builtin id) r) (ho : OC X r o) (hg : Gl X x) (hm : X.mg x = none) (hv : bootBuiltins x = some (.builtin id)) (ha : SA X C (a :: es) fr) (hn : x ≠ "__name__" := by decide) (hdb : (x == ("__debug__" : Str)) = false := by decide)
    (he : starEach (a :: es) X.env = (false, eval a X.env) :: starEach es X.env := by rfl) (hpl : (backTo pos (starEach es X.env)).any (·.1) = false := by rfl) : SE X C (.Call (.Name x p) (a :: es) [] pos) (eB o fr) := by
  refine PE.imp (pe_callB hc hg hm hv ha hn hdb he hpl) fun s' H Q h => ?_
  exact tG.bind h fun m1 S1 s H1 x v z s1 l1 r1 w1 => ho x S1 m1 H1 v Q _ s1 r1 w1
theorem se_callTy (hc : CallR X (.type T) r) (ho : OC X r o) (hg : Gl X x) (hm : X.mg x = none) (hv : bootBuiltins x = some (.type T)) (ha : SA X C (a :: es) fr) (hn : x ≠ "__name__" := by decide) (hdb : (x == ("__debug__" : Str)) = false := by decide)
    (he : starEach (a :: es) X.env = (false, eval a X.env) :: starEach es X.env := by rfl) (hpl : (backTo pos (starEach es X.env)).any (·.1) = false := by rfl) : SE X C (.Call (.Name x p) (a :: es) [] pos) (eB o fr) := by
  refine PE.imp (pe_callTy hc hg hm hv ha hn hdb he hpl) fun s' H Q h => ?_
  exact tG.bind h fun m1 S1 s H1 x v z s1 l1 r1 w1 => ho x S1 m1 H1 v Q _ s1 r1 w1
end
end Fr

namespace Fr
open PySem PySem.Spec PyProof.Rows L2

/-! ### statements -/
def onE {α : Type} (r : Rs α) (s : Sl) (k : α → Sto → RS) : RS := match r with
  | .ok a S => k a S
  | .ex c d S => .ex c d s S
  | .bad => .bad
def sNil : Stm := fun s S => .nx s S
def sSeq (a b : Stm) : Stm := fun s S => match a s S with
  | .nx s' S' => b s' S'
  | r => r
def sExpr (e : Exp) : Stm := fun s S => onE (e s S) s fun _ S' => .nx s S'
def sRet (e : Exp) : Stm := fun s S => onE (e s S) s fun w S' => .rt w S'
def sRetN : Stm := fun _ S => .rt .non S
def sIf (c : Tst) (a b : Stm) : Stm := fun s S => onE (c s S) s fun k S' => if k = true then a s S' else b s S'
def sAsg (i : Nat) (e : Exp) : Stm := fun s S => onE (e s S) s fun w S' => .nx (s.set i (some w)) S'
abbrev Tgt := W → Sl → Option Sl
def gN (i : Nat) : Tgt := fun w s => some (s.set i (some w))
def gsNil : List W → Sl → Option Sl := fun ws s => match ws with
  | [] => some s
  | _ => none
def gsCons (g : Tgt) (r : List W → Sl → Option Sl) : List W → Sl → Option Sl := fun ws s => match ws with
  | w :: ws => match g w s with
    | some s1 => r ws s1
    | none => none
  | [] => none
def gT (n : Nat) (r : List W → Sl → Option Sl) : Tgt := fun w s => match w with
  | .tup ws => if ws.length = n then r ws s else none
  | _ => none
def sAsgT (g : Tgt) (e : Exp) : Stm := fun s S => onE (e s S) s fun w S' => match g w s with
  | some s2 => .nx s2 S'
  | none => .bad
def sBreak : Stm := fun s S => .bk s S
def sCont : Stm := fun s S => .ct s S
def sRaise (c : Str) : Stm := fun s S => .ex c none s S
/-- what a for walks: fixed values, or a list of the store as it stands -/
inductive Src where
  | vals (xs : List W) | live (n : Nat)
def forV (g : Tgt) (b : Stm) : List W → Stm
  | [], s, S => .nx s S
  | x :: xs, s, S => match g x s with
    | none => .bad
    | some s1 => match b s1 S with
      | .nx s2 S2 => forV g b xs s2 S2
      | .ct s2 S2 => forV g b xs s2 S2
      | .bk s2 S2 => .nx s2 S2
      | r => r
def forL (g : Tgt) (b : Stm) (a n : Nat) : Nat → Stm
  | 0, s, S => match S[a]? with
    | some (.lst xs) => if xs.length = n then .nx s S else .bad
    | _ => .bad
  | k + 1, s, S => match S[a]? with
    | some (.lst xs) => if xs.length = n then match xs[n - (k + 1)]? with
      | none => .bad
      | some x => match g x s with
        | none => .bad
        | some s1 => match b s1 S with
          | .nx s2 S2 => forL g b a n k s2 S2
          | .ct s2 S2 => forL g b a n k s2 S2
          | .bk s2 S2 => .nx s2 S2
          | r => r
      else .bad
    | _ => .bad
def sFor (it : Sl → M Src) (g : Tgt) (b : Stm) : Stm := fun s S => onE (it s S) s fun src S' => match src with
  | .vals xs => forV g b xs s S'
  | .live n => match S'[n]? with
    | some (.lst ys) => forL g b n ys.length ys.length s S'
    | _ => .bad
def whileN (c : Tst) (b : Stm) : Nat → Stm
  | 0, _, _ => .bad
  | k + 1, s, S => onE (c s S) s fun q S' => if q = true then (match b s S' with
      | .nx s2 S2 => whileN c b k s2 S2
      | .ct s2 S2 => whileN c b k s2 S2
      | .bk s2 S2 => .nx s2 S2
      | r => r) else .nx s S'
def lookX (tab : List (Str × Bool)) (c : Str) : Option Bool := match tab with
  | [] => none
  | (x, b) :: r => if x = c then some b else lookX r c
/-- an except suite lets nothing out -/
def noEx (r : RS) : RS := match r with
  | .ex _ _ _ _ => .bad
  | r => r
def sTry (b : Stm) (tab : List (Str × Bool)) (su : Str → Option (List (Str × W)) → Stm) : Stm := fun s S => match b s S with
  | .ex c d s1 S1 => match lookX tab c with
    | some true => noEx (su c d s1 S1)
    | some false => .ex c d s1 S1
    | none => .bad
  | r => r
/-- .. except X as n: slot i is n's -/
def dropS (i : Nat) (r : RS) : RS := match r with
  | .nx s S => .nx (s.set i none) S
  | .bk s S => .bk (s.set i none) S
  | .ct s S => .ct (s.set i none) S
  | r => r
def sTryAs (i : Nat) (b : Stm) (tab : List (Str × Bool)) (su : Str → Option (List (Str × W)) → Stm) : Stm := fun s S => match b s S with
  | .ex c d s1 S1 => match lookX tab c with
    | some true => if i < s1.length then dropS i (noEx (su c d (s1.set i none) S1)) else .bad
    | some false => .ex c d s1 S1
    | none => .bad
  | r => r
def fnM (n : Nat) (b : Stm) : Fn := fun ws S => match b (ws.map some ++ List.replicate (n - ws.length) none) S with
  | .rt w S' => .ok w S'
  | .nx _ S' => .ok .non S'
  | .ex c d _ S' => .ex c d S'
  | _ => .bad

section
variable {K : PySem.W.Frag} {mg : Str → Option Value} {m m1 : List Addr} {H H1 : Hp} {α β : Type} {R : List Addr → Hp → α → β → Prop} {Q' : β → Hp → Prop} {C : Cc} {s : Sl} {s' : L2.St} {S : Sto} {D : Ends}
theorem WS.onE {r : Rs α} {k : α → Sto → RS} (w : WS K mg (onE r s k) m H D C) (z : C.Z s') (l : RSl K mg m H s s')
    (h : ∀ a S1 m1 H1 b, Ext m H m1 H1 → Sim K mg m1 S1 H1 → R m1 H1 a b → WS K mg (k a S1) m1 H1 D C → Q' b H1) : WG K mg R r m H Q' (fun c d H' => C.Wx c d s' H') := by
  unfold Fr.onE at w
  cases r with
  | ok a S' => exact fun m' H' b e s r => h a S' m' H' b e s r (w.shift e)
  | ex c d S' => exact fun m' H' cls d' e s r => w m' H' s' cls d' e z s (l.mono e) r
  | bad => exact w
theorem WS.nx (w : WS K mg (.nx s S) m H D C) (z : C.Z s') (sim : Sim K mg m S H) (l : RSl K mg m H s s') : D.nx s' H := w m H s' (.refl _ _) z sim l
end
section
variable {X : Cx} {C : Cc} {a b c : Expr} {fe : Exp} {ft : Tst} {fs gs : Stm} {pos pos' : Pos} {st : Stmt} {rest sa sb : List Stmt}
theorem sb_nil : SB X C [] sNil := by
  refine PSs.imp pss_nil fun D s' H h => ?_
  obtain ⟨m, S, s, z, sim, sl, w⟩ := h
  exact w.nx z sim sl
theorem sb_cons (h1 : SS X C st fs) (h2 : SB X C rest gs) : SB X C (st :: rest) (sSeq fs gs) := by
  refine PSs.imp (pss_cons h1 h2) fun D s' H h => ?_
  obtain ⟨m, S, s, z, sim, sl, w⟩ := h
  refine ⟨m, S, s, z, sim, sl, ?_⟩
  unfold sSeq at w
  cases hf : fs s S with
  | nx s2 S2 => rw [hf] at w; exact fun m' H' t e z' sm l => ⟨m', S2, s2, z', sm, l, w.shift e⟩
  | rt u S2 => rw [hf] at w; exact w
  | bk s2 S2 => rw [hf] at w; exact w
  | ct s2 S2 => rw [hf] at w; exact w
  | ex c d s2 S2 => rw [hf] at w; exact w
  | bad => rw [hf] at w; exact w
theorem sb_one (h1 : SS X C st fs) : SB X C [st] fs := pss_one h1
theorem ss_pass : SS X C (.Pass pos) sNil := by
  refine PS.imp ps_pass fun D s' H h => ?_
  obtain ⟨m, S, s, z, sim, sl, w⟩ := h
  exact w.nx z sim sl
theorem ss_break : SS X C (.Break pos) sBreak := by
  refine PS.imp ps_break fun D s' H h => ?_
  obtain ⟨m, S, s, z, sim, sl, w⟩ := h
  exact w m H s' (.refl _ _) z sim sl
theorem ss_continue : SS X C (.Continue pos) sCont := by
  refine PS.imp ps_continue fun D s' H h => ?_
  obtain ⟨m, S, s, z, sim, sl, w⟩ := h
  exact w m H s' (.refl _ _) z sim sl
theorem ss_expr (he : SE X C a fe) (hs : swapsWith a none pos.line X.env = pure false := by rfl) : SS X C (.Expr a pos) (sExpr fe) := by
  refine PS.imp (ps_expr he hs) fun D s' H h => ?_
  obtain ⟨m, S, s, z, sim, sl, w⟩ := h
  exact ⟨m, S, s, z, sim, sl, w.onE z sl fun u S1 m1 H1 v e s1 r w1 => w1.nx z s1 (sl.mono e)⟩
theorem ss_ret (he : SE X C a fe) : SS X C (.Return (some a) pos) (sRet fe) := by
  refine PS.imp (ps_ret he) fun D s' H h => ?_
  obtain ⟨m, S, s, z, sim, sl, w⟩ := h
  exact ⟨m, S, s, z, sim, sl, w.onE z sl fun u S1 m1 H1 v e s1 r w1 => w1 m1 H1 v (.refl _ _) s1 r⟩
theorem ss_retN : SS X C (.Return none pos) sRetN := by
  refine PS.imp ps_retN fun D s' H h => ?_
  obtain ⟨m, S, s, z, sim, sl, w⟩ := h
  exact w m H .non (.refl _ _) sim (by unfold RV; rfl)
theorem ss_if (hc : ST X C c ft) (ha : SB X C sa fs) (hb : SB X C sb gs) : SS X C (.If c sa sb pos) (sIf ft fs gs) := by
  refine PS.imp (ps_if hc ha hb) fun D s' H h => ?_
  obtain ⟨m, S, s, z, sim, sl, w⟩ := h
  refine ⟨m, S, s, z, sim, sl, w.onE z sl fun u S1 m1 H1 v e s1 r w1 => ?_⟩
  cases r
  cases u with
  | true => rw [if_pos rfl]; rw [if_pos rfl] at w1; exact ⟨m1, S1, s, z, s1, sl.mono e, w1⟩
  | false => rw [if_neg Bool.false_ne_true]; rw [if_neg Bool.false_ne_true] at w1; exact ⟨m1, S1, s, z, s1, sl.mono e, w1⟩
theorem ss_set {i : Nat} {x : Str} (hN : X.N.Nodup) (he : SE X C a fe) (hi : X.N[i]? = some x := by rfl) (hx : Loc X.env.scope x := by first | exact Or.inl rfl | exact Or.inr rfl) (hs : swapsWith a (some (.Name x pos')) pos.line X.env = pure false := by rfl)
    (hf : X.fn x = true ∨ X.env.scope.names.lookup x = some .local := by first | exact .inl rfl | exact .inr rfl) (hz : ∀ t v, C.Z t → C.Z (t.set i v) := by intro _ _ _; exact True.intro) : SS X C (.Assign [.Name x pos'] a pos) (sAsg i fe) := by
  refine PS.imp (ps_set hN hi hx he hs hf) fun D s' H h => ?_
  obtain ⟨m, S, s, z, sim, sl, w⟩ := h
  refine ⟨m, S, s, z, sim, sl, w.onE z sl fun u S1 m1 H1 v e s1 r w1 => ?_⟩
  exact w1.nx (hz _ _ z) s1 ((sl.mono e).set r)
/-! targets -/
end
section
variable (K : PySem.W.Frag) (mg : Str → Option Value)
def tT (C : Cc) (g : Tgt) : TG := fun v s' H Q => ∃ m S w s s2, C.Z s' ∧ Sim K mg m S H ∧ RSl K mg m H s s' ∧ RV K mg m H w v ∧ g w s = some s2 ∧ ∀ t, C.Z t → RSl K mg m H s2 t → Q t H
def tTs (C : Cc) (g : List W → Sl → Option Sl) : TGs := fun v s' H Q => ∃ m S w s s2, C.Z s' ∧ Sim K mg m S H ∧ RSl K mg m H s s' ∧ RVs K mg m H w v ∧ g w s = some s2 ∧ ∀ t, C.Z t → RSl K mg m H s2 t → Q t H
end
abbrev SG (X : Cx) (C : Cc) (tg : Expr) (g : Tgt) : Prop := PG X tg (tT X.K X.mg C g)
abbrev SGs (X : Cx) (C : Cc) (tg : List Expr) (g : List W → Sl → Option Sl) : Prop := PGs X tg (tTs X.K X.mg C g)
section
variable {X : Cx}
theorem PG.imp {e : Expr} {t t' : TG} (h : PG X e t) (k : ∀ v s H Q, t' v s H Q → t v s H Q) : PG X e t' := ⟨fun pins s σ H v u Q I r q => h.run pins s σ H v u Q I r (k _ _ _ _ q)⟩
theorem PGs.imp {e : List Expr} {t t' : TGs} (h : PGs X e t) (k : ∀ v s H Q, t' v s H Q → t v s H Q) : PGs X e t' := ⟨fun pins s σ H v u Q I r q => h.run pins s σ H v u Q I r (k _ _ _ _ q)⟩
theorem PI.imp {tg e : Expr} {t t' : TI} (h : PI X tg e t) (k : ∀ s H Q, t' s H Q → t s H Q) : PI X tg e t' := ⟨fun pins s σ H R I q => h.run pins s σ H R I (k _ _ _ q)⟩
theorem PI.or {tg e : Expr} {t t' : TI} (h : PI X tg e t) (h' : PI X tg e t') : PI X tg e (fun s H R => t s H R ∨ t' s H R) := ⟨fun pins s σ H R I q => q.elim (fun q => h.run pins s σ H R I q) fun q => h'.run pins s σ H R I q⟩
variable {C : Cc} {pos pos' : Pos} {a tg : Expr} {es : List Expr} {g : Tgt} {gr : List W → Sl → Option Sl} {fe : Exp}
theorem sg_name {i : Nat} {x : Str} (hN : X.N.Nodup) (hi : X.N[i]? = some x := by rfl) (hx : Loc X.env.scope x := by first | exact Or.inl rfl | exact Or.inr rfl) (hf : X.fn x = true ∨ X.env.scope.names.lookup x = some .local := by first | exact .inl rfl | exact .inr rfl)
    (hz : ∀ t v, C.Z t → C.Z (t.set i v) := by intro _ _ _; exact True.intro) : SG X C (.Name x pos) (gN i) := by
  refine PG.imp (pg_name hN hi hx hf) fun v s' H Q h => ?_
  obtain ⟨m, S, w, s, s2, z, sim, sl, r, e, q⟩ := h
  cases e
  exact q _ (hz _ _ z) (sl.set r)
theorem sgs_nil : SGs X C [] gsNil := by
  refine PGs.imp pgs_nil fun v s' H Q h => ?_
  obtain ⟨m, S, w, s, s2, z, sim, sl, r, e, q⟩ := h
  cases w with
  | nil => cases e; exact ⟨r.nil_inv, q _ z sl⟩
  | cons _ _ => cases e
theorem sgs_cons (h1 : SG X C a g) (h2 : SGs X C es gr) (hs : (assignEach (a :: es) X.env).map (·.2) = assign a X.env :: (assignEach es X.env).map (·.2) := by rfl) : SGs X C (a :: es) (gsCons g gr) := by
  refine PGs.imp (pgs_cons h1 h2 hs) fun v s' H Q h => ?_
  obtain ⟨m, S, w, s, s2, z, sim, sl, r, e, q⟩ := h
  cases w with
  | nil => cases e
  | cons w ws =>
    obtain ⟨v1, vr, rfl, r1, r2⟩ := r.uncons
    unfold gsCons at e
    cases hg : g w s with
    | none => simp only [hg] at e; cases e
    | some s1 =>
      simp only [hg] at e
      exact ⟨v1, vr, rfl, m, S, w, s, s1, z, sim, sl, r1, hg, fun t z1 l1 => ⟨m, S, ws, s1, s2, z1, sim, l1, r2, e, q⟩⟩
theorem sg_tup {k n : Nat} (hc : X.calm = true) (h : SGs X C es gr) (hn : (assignEach es X.env).length = n := by rfl) (hst : (assignEach es X.env).findIdx? (·.1) = none := by rfl) : SG X C (.Tuple es k pos) (gT n gr) := by
  refine PG.imp (pg_tup hc h hn hst) fun v s' H Q h => ?_
  obtain ⟨m, S, w, s, s2, z, sim, sl, r, e, q⟩ := h
  cases w with
  | tup ws =>
    unfold RV at r
    obtain ⟨p, vs, rfl, hq, hv⟩ := r
    unfold gT at e
    simp only at e
    split at e
    · rename_i hl
      exact ⟨p, vs, rfl, hq, by rw [← hv.length]; exact hl, m, S, ws, s, s2, z, sim, sl, hv, e, q⟩
    · cases e
  | _ => cases e
theorem ss_asg (he : SE X C a fe) (hg : SG X C tg g) (hs : swapsWithSole [tg] a pos.line X.env = pure false := by rfl) (hw : swappedStores [tg] a X.env = pure none := by rfl)
    (h1 : (assignEach [tg] X.env).map (·.2) = [assign tg X.env] := by rfl) : SS X C (.Assign [tg] a pos) (sAsgT g fe) := by
  refine PS.imp (ps_asg he hg hs hw h1) fun D s' H h => ?_
  obtain ⟨m, S, s, z, sim, sl, w⟩ := h
  refine ⟨m, S, s, z, sim, sl, w.onE z sl fun u S1 m1 H1 v e s1 r w1 => ?_⟩
  cases hg : g u s with
  | none => simp only [hg] at w1; exact False.elim w1
  | some s2 =>
    simp only [hg] at w1
    exact ⟨m1, S1, u, s, s2, z, s1, sl.mono e, r, hg, fun t z1 l1 => w1.nx z1 s1 l1⟩
end
/-! ### what a for walks -/
section
variable (K : PySem.W.Frag) (mg : Str → Option Value)
def JV (J : It) (m1 : List Addr) (H1 : Hp) (xs : List W) : Prop := ∀ m H, Ext m1 H1 m H → ∀ (i : Nat),
  (∀ w, xs[i]? = some w → J.go i H ∧ ∀ x H', J.yld i H x H' → RV K mg m H' w x ∧ Ext m H m H' ∧ ∀ S, Sim K mg m S H → Sim K mg m S H') ∧ (xs.length ≤ i → J.stop i H)
def JL (J : It) (m1 : List Addr) (H1 : Hp) (n : Nat) : Prop := ∀ m H S ys, Ext m1 H1 m H → Sim K mg m S H → S[n]? = some (.lst ys) → ∀ (i : Nat),
  (∀ w, ys[i]? = some w → J.go i H ∧ ∀ x H', J.yld i H x H' → H' = H ∧ RV K mg m H w x) ∧ (ys.length ≤ i → J.stop i H)
def RJ (m : List Addr) (H : Hp) (src : Src) (J : It) : Prop := match src with
  | .vals xs => JV K mg J m H xs
  | .live n => JL K mg J m H n
end
abbrev SI (X : Cx) (C : Cc) (tg e : Expr) (f : Sl → M Src) : Prop := PI X tg e (tG X.K X.mg (RJ X.K X.mg) C f)
section
variable {X : Cx} {C : Cc} {pos pos' : Pos} {a tg iter : Expr} {es : List Expr} {g : Tgt} {fb : Stm} {it : Sl → M Src} {body : List Stmt}
theorem ss_for (hp : PassesOwn (model X.prog X.w) X.A X.env X.xe) (hc : X.calm = true) (hi : SI X C tg iter it) (hg : SG X C tg g) (hb : SB X C body fb)
    (hs : ∀ x, foldedSetIterable iter X.env x = pure x := by intro _; rfl) : SS X C (.For tg iter body [] pos) (sFor it g fb) := by
  refine PS.imp (ps_for hp hc hi hg hb hs) fun D s' H h => ?_
  obtain ⟨m, S, s, z, sim, sl, w⟩ := h
  refine ⟨m, S, s, z, sim, sl, w.onE z sl fun src S1 m1 H1 J e1 s1 r w1 => ?_⟩
  have hbody : ∀ {rest : Stm} {m2 : List Addr} {H2 : Hp} {S2 : Sto} {s2 : Sl} {r : RS} {N : L2.St → Hp → Prop}, r = fb s2 S2 → WS X.K X.mg (match r with
        | .nx s3 S3 => rest s3 S3
        | .ct s3 S3 => rest s3 S3
        | .bk s3 S3 => .nx s3 S3
        | r => r) m2 H2 D C → (∀ m3 H3 t s3 S3, Ext m2 H2 m3 H3 → C.Z t → Sim X.K X.mg m3 S3 H3 → RSl X.K X.mg m3 H3 s3 t → WS X.K X.mg (rest s3 S3) m3 H3 D C → N t H3) →
      WS X.K X.mg r m2 H2 { D with nx := N, ct := N, bk := D.nx } C := by
    intro rest m2 H2 S2 s2 r N _ w h
    cases r with
    | nx s3 S3 => exact fun m3 H3 t e z s l => h m3 H3 t s3 S3 e z s l (w.shift e)
    | ct s3 S3 => exact fun m3 H3 t e z s l => h m3 H3 t s3 S3 e z s l (w.shift e)
    | bk s3 S3 => exact w
    | rt u S3 => exact w
    | ex c d s3 S3 => exact w
    | bad => exact w
  cases src with
  | vals xs =>
    have hj : JV X.K X.mg J m1 H1 xs := r
    refine ⟨fun i k t H => k = xs.length - i ∧ ∃ m S s, Ext m1 H1 m H ∧ C.Z t ∧ Sim X.K X.mg m S H ∧ RSl X.K X.mg m H s t ∧ WS X.K X.mg (forV g fb (xs.drop i) s S) m H D C,
      ⟨xs.length, by simp, m1, S1, s, .refl _ _, z, s1, sl.mono e1, by simpa using w1⟩, ?_⟩
    rintro i k t H2 ⟨rfl, m2, S2, s2, e2, z2, sm2, l2, w2⟩
    by_cases hi : i < xs.length
    · have hx : xs[i]? = some xs[i] := List.getElem?_eq_getElem hi
      rw [List.drop_eq_getElem_cons hi] at w2
      obtain ⟨go, hy⟩ := (hj m2 H2 e2 i).1 _ hx
      refine .inr ⟨go, fun t H => ∃ m S s, Ext m1 H1 m H ∧ C.Z t ∧ Sim X.K X.mg m S H ∧ RSl X.K X.mg m H s t ∧ WS X.K X.mg (forV g fb (xs.drop (i + 1)) s S) m H D C,
        fun t' H' hN => ⟨xs.length - (i + 1), by omega, rfl, hN⟩, fun x H3 y => ?_⟩
      obtain ⟨rx, e3, sm3⟩ := hy x H3 y
      unfold forV at w2
      cases hgx : g xs[i] s2 with
      | none => simp only [hgx] at w2; exact False.elim w2
      | some s3 =>
        simp only [hgx] at w2
        refine ⟨m2, S2, xs[i], s2, s3, z2, sm3 _ sm2, l2.mono e3, rx, hgx, fun t3 z3 l3 => ⟨m2, S2, s3, z3, sm3 _ sm2, l3, ?_⟩⟩
        exact hbody rfl (w2.shift e3) fun m4 H4 t4 s4 S4 e4 z4 sm4 l4 w4 => ⟨m4, S4, s4, (e2.trans e3).trans e4, z4, sm4, l4, w4⟩
    · rw [List.drop_eq_nil_of_le (by omega)] at w2
      exact .inl ⟨(hj m2 H2 e2 i).2 (by omega), w2.nx z2 sm2 l2⟩
  | live n =>
    have hj : JL X.K X.mg J m1 H1 n := r
    simp only at w1
    cases hn : S1[n]? with
    | none => simp only [hn] at w1; exact False.elim w1
    | some o =>
      cases o with
      | lst ys =>
        simp only [hn] at w1
        refine ⟨fun i k t H => k = ys.length - i ∧ i ≤ ys.length ∧ ∃ m S s, Ext m1 H1 m H ∧ C.Z t ∧ Sim X.K X.mg m S H ∧ RSl X.K X.mg m H s t ∧ WS X.K X.mg (forL g fb n ys.length (ys.length - i) s S) m H D C,
          ⟨ys.length, by simp, Nat.zero_le _, m1, S1, s, .refl _ _, z, s1, sl.mono e1, by simpa using w1⟩, ?_⟩
        rintro i k t H2 ⟨rfl, hle, m2, S2, s2, e2, z2, sm2, l2, w2⟩
        by_cases hi : i < ys.length
        · obtain ⟨q, hq⟩ : ∃ q, ys.length - i = q + 1 := ⟨ys.length - i - 1, by omega⟩
          rw [hq] at w2
          unfold forL at w2
          cases hS : S2[n]? with
          | none => simp only [hS] at w2; exact False.elim w2
          | some o2 =>
            cases o2 with
            | lst zs =>
              simp only [hS] at w2
              split at w2
              · rename_i hz
                have hi' : ys.length - (q + 1) = i := by omega
                rw [hi'] at w2
                have hx : zs[i]? = some zs[i] := List.getElem?_eq_getElem (by omega)
                rw [hx] at w2
                simp only at w2
                obtain ⟨go, hy⟩ := (hj m2 H2 S2 zs e2 sm2 hS i).1 _ hx
                have hq' : q = ys.length - (i + 1) := by omega
                refine .inr ⟨go, fun t H => ∃ m S s, Ext m1 H1 m H ∧ C.Z t ∧ Sim X.K X.mg m S H ∧ RSl X.K X.mg m H s t ∧ WS X.K X.mg (forL g fb n ys.length q s S) m H D C,
                  fun t' H' hN => ⟨ys.length - (i + 1), by omega, rfl, by omega, by rw [← hq']; exact hN⟩, fun x H3 y => ?_⟩
                obtain ⟨rfl, rx⟩ := hy x H3 y
                cases hgx : g zs[i] s2 with
                | none => simp only [hgx] at w2; exact False.elim w2
                | some s3 =>
                  simp only [hgx] at w2
                  refine ⟨m2, S2, zs[i], s2, s3, z2, sm2, l2, rx, hgx, fun t3 z3 l3 => ⟨m2, S2, s3, z3, sm2, l3, ?_⟩⟩
                  exact hbody rfl w2 fun m4 H4 t4 s4 S4 e4 z4 sm4 l4 w4 => ⟨m4, S4, s4, e2.trans e4, z4, sm4, l4, w4⟩
              · exact False.elim w2
            | _ => simp only [hS] at w2; exact False.elim w2
        · have hq : ys.length - i = 0 := by omega
          rw [hq] at w2
          unfold forL at w2
          cases hS : S2[n]? with
          | none => simp only [hS] at w2; exact False.elim w2
          | some o2 =>
            cases o2 with
            | lst zs =>
              simp only [hS] at w2
              split at w2
              · rename_i hz
                exact .inl ⟨(hj m2 H2 S2 zs e2 sm2 hS i).2 (by omega), w2.nx z2 sm2 l2⟩
              · exact False.elim w2
            | _ => simp only [hS] at w2; exact False.elim w2
      | _ => simp only [hn] at w1; exact False.elim w1
end
end Fr

namespace Fr
open PySem PySem.Spec PyProof.Rows L2

def chr1 (c : Nat) : W := .str ⟨#[c]⟩
def srcOf (w : W) : M Src := match w with
  | .tup xs => rt (.vals xs)
  | .fl xs => rt (.vals xs)
  | .str x => rt (.vals (x.cps.toList.map chr1))
  | .ref n => fun S => match S[n]? with
    | some (.lst _) => .ok (.live n) S
    | _ => .bad
  | _ => bad
def iE (f : Exp) : Sl → M Src := fun s => bd (f s) srcOf
def rng (lo : Int) (n : Nat) : List W := (List.range n).map fun (k : Nat) => W.int (lo + k)
def iR1 (f : Arg) : Sl → M Src := fun s => bd (f s) fun xs => match xs with
  | [.int j] => if -(2 ^ 62) ≤ j ∧ j < 2 ^ 62 then rt (.vals (rng 0 j.toNat)) else bad
  | _ => bad
def iR2 (f : Arg) : Sl → M Src := fun s => bd (f s) fun xs => match xs with
  | [.int i, .int j] => if (-(2 ^ 62) ≤ i ∧ i < 2 ^ 62) ∧ -(2 ^ 62) ≤ j ∧ j < 2 ^ 62 then rt (.vals (rng i (j - i).toNat)) else bad
  | _ => bad
section
variable {K : PySem.W.Frag} {mg : Str → Option Value} {m : List Addr} {H : Hp}
theorem jv_tup {p : Addr} {vs : List V} {xs : List W} (hq : SqT K H p vs) (hv : RVs K mg m H xs vs) : JV K mg (Itt K p) m H xs := by
  intro m' H' e i
  refine ⟨fun w hw => ?_, fun hl => ⟨vs, e.sqt hq, by rw [← hv.length]; exact hl⟩⟩
  obtain ⟨v, h1, h2⟩ := hv.get hw
  refine ⟨⟨vs, v, e.sqt hq, h1⟩, fun x H2 y => ?_⟩
  obtain ⟨rfl, y⟩ := y
  have := (y vs (e.sqt hq)).symm.trans h1
  cases this
  exact ⟨h2.mono e, .refl _ _, fun _ h => h⟩
theorem jv_fl {p : Addr} {vs : List V} {xs : List W} (hq : FzL K H p vs) (hv : RVs K mg m H xs vs) : JV K mg (Itl K p) m H xs := by
  intro m' H' e i
  refine ⟨fun w hw => ?_, fun hl => ⟨vs, (e.fzl hq).sq, by rw [← hv.length]; exact hl⟩⟩
  obtain ⟨v, h1, h2⟩ := hv.get hw
  refine ⟨⟨vs, v, (e.fzl hq).sq, h1⟩, fun x H2 y => ?_⟩
  obtain ⟨rfl, y⟩ := y
  have := (y vs (e.fzl hq).sq).symm.trans h1
  cases this
  exact ⟨h2.mono e, .refl _ _, fun _ h => h⟩
theorem jv_str {x : Str} : JV K mg (Its x) m H (x.cps.toList.map chr1) := by
  intro m' H' e i
  refine ⟨fun w hw => ?_, fun hl => ?_⟩
  · rw [List.getElem?_map] at hw
    cases hc : x.cps.toList[i]? with
    | none => rw [hc] at hw; cases hw
    | some c =>
      rw [hc] at hw
      cases hw
      have hc' : x.cps[i]? = some c := by simpa using hc
      refine ⟨(Array.getElem?_eq_some_iff.mp hc').1, fun v H2 y => ?_⟩
      obtain ⟨rfl, c', h1, rfl⟩ := y
      rw [hc'] at h1
      cases h1
      exact ⟨by unfold chr1 RV; rfl, .refl _ _, fun _ h => h⟩
  · show x.cps.size ≤ i
    simpa using hl
theorem jv_rng {lo : Int} {n : Nat} : JV K mg (Itr lo n) m H (rng lo n) := by
  intro m' H' e i
  refine ⟨fun w hw => ?_, fun hl => by show n ≤ i; simpa [rng] using hl⟩
  unfold rng at hw
  rw [List.getElem?_map] at hw
  cases hc : (List.range n)[i]? with
  | none => rw [hc] at hw; cases hw
  | some c =>
    rw [hc] at hw
    cases hw
    obtain ⟨h1, h2⟩ := List.getElem?_eq_some_iff.mp hc
    simp at h1 h2
    subst h2
    refine ⟨h1, fun v H2 y => ?_⟩
    obtain ⟨rfl, rfl⟩ := y
    exact ⟨by unfold RV; rfl, .refl _ _, fun _ h => h⟩
theorem jl_list {n : Nat} {a : Addr} (hm : m[n]? = some a) : JL K mg (Itl K a) m H n := by
  intro m' H' S ys e sm hS i
  obtain ⟨a', h1, vs, h2, h3⟩ := sm.at hS
  rw [e.get hm] at h1
  cases h1
  refine ⟨fun w hw => ?_, fun hl => ⟨vs, SqL.of h2, by rw [← h3.length]; exact hl⟩⟩
  obtain ⟨v, h4, h5⟩ := h3.get hw
  refine ⟨⟨vs, v, SqL.of h2, h4⟩, fun x H2 y => ?_⟩
  obtain ⟨rfl, y⟩ := y
  have := (y vs (SqL.of h2)).symm.trans h4
  cases this
  exact ⟨rfl, h5⟩
end
section
variable {X : Cx} {C : Cc} {pos pos' p : Pos} {a b tg iter : Expr} {es : List Expr} {fe : Exp} {fr : Arg}
theorem si_any (ha : SE X C a fe) : SI X C tg a (iE fe) := by
  refine PI.imp (PI.or (pi_list (tg := tg) ha) (PI.or (pi_tup (tg := tg) ha) (pi_str (tg := tg) ha))) fun s' H R h => ?_
  obtain ⟨m, S, s, z, sim, sl, w⟩ := h
  have key : ∀ {Q' : V → Hp → Prop}, (∀ x S1 m1 H1 v, fe s S = .ok x S1 → Ext m H m1 H1 → Sim X.K X.mg m1 S1 H1 → RV X.K X.mg m1 H1 x v → WG X.K X.mg (RJ X.K X.mg) (srcOf x S1) m1 H1 R (fun c d H' => C.Wx c d s' H') → Q' v H1) → tG X.K X.mg (RV X.K X.mg) C fe s' H Q' := by
    intro Q' hk
    refine ⟨m, S, s, z, sim, sl, ?_⟩
    unfold iE bd at w
    cases hf : fe s S with
    | ok x S1 => rw [hf] at w; exact fun m' H' v e sm r => hk x S1 m' H' v hf e sm r (w.shift e)
    | ex c d S1 => rw [hf] at w; exact w
    | bad => rw [hf] at w; exact w
  cases hf : fe s S with
  | ok x S1 =>
    cases x with
    | tup xs =>
      refine .inr (.inl (key fun y S2 m1 H1 v e0 e sm r w1 => ?_))
      rw [hf] at e0; cases e0
      unfold RV at r
      obtain ⟨q, vs, rfl, h1, h2⟩ := r
      exact ⟨q, rfl, ⟨vs, h1⟩, w1.ok sm (jv_tup h1 h2)⟩
    | fl xs =>
      refine .inl (key fun y S2 m1 H1 v e0 e sm r w1 => ?_)
      rw [hf] at e0; cases e0
      unfold RV at r
      obtain ⟨q, vs, rfl, h1, h2⟩ := r
      exact ⟨q, rfl, ⟨vs, h1.sq⟩, w1.ok sm (jv_fl h1 h2)⟩
    | str z =>
      refine .inr (.inr (key fun y S2 m1 H1 v e0 e sm r w1 => ?_))
      rw [hf] at e0; cases e0
      unfold RV at r
      exact ⟨z, r, w1.ok sm jv_str⟩
    | ref n =>
      refine .inl (key fun y S2 m1 H1 v e0 e sm r w1 => ?_)
      rw [hf] at e0; cases e0
      unfold RV at r
      obtain ⟨q, h1, rfl⟩ := r
      unfold srcOf at w1
      simp only at w1
      split at w1
      · rename_i ys hn
        obtain ⟨q', h2, vs, h3, h4⟩ := sm.at hn
        rw [h1] at h2; cases h2
        exact ⟨q, rfl, ⟨vs, SqL.of h3⟩, w1.ok sm (jl_list h1)⟩
      · exact False.elim w1
    | _ =>
      exfalso
      unfold iE bd at w
      rw [hf] at w
      exact w
  | ex c d S1 => exact .inl (key fun y S2 m1 H1 v e0 e sm r w1 => by rw [hf] at e0; cases e0)
  | bad => exact .inl (key fun y S2 m1 H1 v e0 e sm r w1 => by rw [hf] at e0; cases e0)
theorem si_range1 (hg : Gl X "range") (hm : X.mg "range" = none) (ha : SA X C [a] fr) (hs : starEach [a] X.env = [(false, eval a X.env)] := by rfl) : SI X C tg (.Call (.Name "range" p) [a] [] pos) (iR1 fr) := by
  refine PI.imp (pi_range1 (tg := tg) hg hm ha hs) fun s' H R h => ?_
  refine tG.bind h fun m1 S1 s H1 x v z s1 l1 r1 w1 => ?_
  split at w1
  · rename_i j
    split at w1
    · rename_i hj
      obtain ⟨v1, vr, rfl, h1, h2⟩ := r1.uncons
      unfold RV at h1
      rw [h2.nil_inv, h1]
      exact ⟨j, rfl, hj.1, hj.2, w1.ok s1 jv_rng⟩
    · exact False.elim w1
  · exact False.elim w1
theorem si_range2 (hg : Gl X "range") (hm : X.mg "range" = none) (ha : SA X C [a, b] fr) (hs : starEach [a, b] X.env = [(false, eval a X.env), (false, eval b X.env)] := by rfl) (hs2 : starEach [b] X.env = [(false, eval b X.env)] := by rfl) : SI X C tg (.Call (.Name "range" p) [a, b] [] pos) (iR2 fr) := by
  refine PI.imp (pi_range2 (tg := tg) hg hm ha hs hs2) fun s' H R h => ?_
  refine tG.bind h fun m1 S1 s H1 x v z s1 l1 r1 w1 => ?_
  split at w1
  · rename_i i j
    split at w1
    · rename_i hj
      obtain ⟨v1, vr, rfl, h1, h2⟩ := r1.uncons
      obtain ⟨v2, vr2, rfl, h3, h4⟩ := h2.uncons
      unfold RV at h1 h3
      rw [h4.nil_inv, h1, h3]
      exact ⟨i, j, rfl, ⟨hj.1.1, hj.1.2, hj.2.1, hj.2.2⟩, w1.ok s1 jv_rng⟩
    · exact False.elim w1
  · exact False.elim w1
/-! ### while -/
def sWhile (n : Nat) (c : Tst) (b : Stm) : Stm := whileN c b n
theorem ss_while {n : Nat} {c : Expr} {ft : Tst} {fb : Stm} {body : List Stmt} (hp : PassesOwn (model X.prog X.w) X.A X.env X.xe) (hc : ST X C c ft) (hb : SB X C body fb) : SS X C (.While c body [] pos) (sWhile n ft fb) := by
  refine PS.imp (ps_while hp hc hb) fun D s' H h => ?_
  obtain ⟨m, S, s, z, sim, sl, w⟩ := h
  refine ⟨fun k t H => ∃ m S s, C.Z t ∧ Sim X.K X.mg m S H ∧ RSl X.K X.mg m H s t ∧ WS X.K X.mg (whileN ft fb k s S) m H D C, ⟨n, m, S, s, z, sim, sl, w⟩, ?_⟩
  rintro k t H1 ⟨m1, S1, s1, z1, sm1, l1, w1⟩
  cases k with
  | zero => exact False.elim w1
  | succ k =>
    unfold whileN at w1
    refine ⟨m1, S1, s1, z1, sm1, l1, w1.onE z1 l1 fun q S2 m2 H2 v e2 sm2 r w2 => ?_⟩
    cases r
    cases q with
    | false => rw [if_neg Bool.false_ne_true]; rw [if_neg Bool.false_ne_true] at w2; exact w2.nx z1 sm2 (l1.mono e2)
    | true =>
      rw [if_pos rfl]
      rw [if_pos rfl] at w2
      refine ⟨fun t H => ∃ m S s, C.Z t ∧ Sim X.K X.mg m S H ∧ RSl X.K X.mg m H s t ∧ WS X.K X.mg (whileN ft fb k s S) m H D C, fun t' H' hN => ⟨k, Nat.lt_succ_self _, hN⟩, m2, S2, s1, z1, sm2, l1.mono e2, ?_⟩
      cases hf : fb s1 S2 with
      | nx s3 S3 => rw [hf] at w2; exact fun m3 H3 t e z s l => ⟨m3, S3, s3, z, s, l, w2.shift e⟩
      | ct s3 S3 => rw [hf] at w2; exact fun m3 H3 t e z s l => ⟨m3, S3, s3, z, s, l, w2.shift e⟩
      | bk s3 S3 => rw [hf] at w2; exact w2
      | rt u S3 => rw [hf] at w2; exact w2
      | ex c d s3 S3 => rw [hf] at w2; exact w2
      | bad => rw [hf] at w2; exact w2
end
/-! ### defs -/
def spM (K : PySem.W.Frag) (mg : Str → Option Value) (n : Nat) (F : Fn) : Sp := fun vs H Q E =>
  ∃ m S ws, Sim K mg m S H ∧ RVs K mg m H ws vs ∧ ws.length = n ∧ WG K mg (RV K mg) (F ws S) m H Q E
abbrev FnM (P : Program) (w : World) (K : PySem.W.Frag) (mg : Str → Option Value) (base : Heap) (k : Nat) (f : Addr) (fd : FuncData) (ps : List Str) (F : Fn) : Prop := FnOk P w K mg base (L2.CX P w) k f fd ps (spM K mg ps.length F)
abbrev cE (E : XK) : Cc := ⟨fun _ => True, fun cls d _ H => E cls d H⟩
abbrev cW (W : WX) : Cc := ⟨fun _ => True, W⟩
section
variable {P : Program} {w : World} {K : PySem.W.Frag} {mg : Str → Option Value} {base : Heap}
theorem RSl.begun {m : List Addr} {H : Hp} {N : List Str} {n : Nat} {ws : List W} {vs : List V} (hn : N.length = n) (h : RVs K mg m H ws vs) : RSl K mg m H (ws.map some ++ List.replicate (n - ws.length) none) (start N vs) := by
  unfold L2.start
  refine ⟨by simp [h.length, hn], fun i u hu => ?_⟩
  by_cases hi : i < ws.length
  · rw [List.getElem?_append_left (by simpa using hi), List.getElem?_map] at hu
    cases hw : ws[i]? with
    | none => rw [hw] at hu; cases hu
    | some w' =>
      rw [hw] at hu
      have hu' : some (some w') = some (some u) := hu
      cases hu'
      obtain ⟨v, h1, h2⟩ := h.get hw
      exact ⟨v, by rw [List.getElem?_append_left (by rw [List.length_map, ← h.length]; exact hi), List.getElem?_map, h1]; rfl, h2⟩
  · rw [List.getElem?_append_right (by simpa using hi)] at hu
    have := List.mem_of_getElem? hu
    simp at this
/-- a def keeps its mirror's promise -/
theorem fn_ok {x qual : Str} {st : Stmt} {f : Addr} {fd : FuncData} {N ps : List Str} {k n : Nat} {body : Stm} (F : Fun K x qual st f fd) (Sc : FnScope N ps (defScope st)) (hn : N.length = n)
    (hb : ∀ (cdv : Value) (A : Around) (outer : List Env) (s : Shared) (H : Hp) (E : XK), Room k (A.deeper (envOfC qual (defScope st) s.heap.objs.size f cdv)) →
      Takes (cxOf (L2.CX P w) P w K mg base N qual (defScope st) f cdv A outer s H E) (cE E).Wx →
      PassesOwn (model P w) (cxOf (L2.CX P w) P w K mg base N qual (defScope st) f cdv A outer s H E).A (cxOf (L2.CX P w) P w K mg base N qual (defScope st) f cdv A outer s H E).env (cxOf (L2.CX P w) P w K mg base N qual (defScope st) f cdv A outer s H E).xe →
      SB (cxOf (L2.CX P w) P w K mg base N qual (defScope st) f cdv A outer s H E) (cE E) (defBody st) body) : FnM P w K mg base (k + 1) f fd ps (fnM n body) := by
  refine F.okX Sc (fun vs H Q E h => ?_) (fun cdv A outer s H vs Q E hr h => ?_)
  · obtain ⟨m, S, ws, _, r, e, _⟩ := h
    rw [← r.length, e]
  · obtain ⟨m, S, ws, sim, r, e, wn⟩ := h
    refine ⟨_, hb cdv A outer s H E hr (takes_of rfl rfl rfl rfl) (passes_of rfl), m, S, _, trivial, sim, RSl.begun hn r, ?_⟩
    unfold fnM at wn
    cases hf : body (ws.map some ++ List.replicate (n - ws.length) none) S with
    | nx s2 S2 => rw [hf] at wn; exact fun m' H' t e z sm l => wn m' H' .non e sm (by unfold RV; rfl)
    | rt u S2 => rw [hf] at wn; exact wn
    | ex c d s2 S2 => rw [hf] at wn; exact fun m' H' t cls d' e z sm l r => wn m' H' cls d' e sm r
    | bk s2 S2 => rw [hf] at wn; exact False.elim wn
    | ct s2 S2 => rw [hf] at wn; exact False.elim wn
    | bad => rw [hf] at wn; exact False.elim wn
end
section
variable {X : Cx} {C : Cc} {pos pos' p p2 np : Pos} {a tg iter : Expr} {es : List Expr} {fe : Exp} {fr : Arg}
theorem se_call {F : Fn} {k : Nat} {f : Addr} {fd : FuncData} {ps : List Str} {x : Str} (G : FnM X.prog X.w X.K X.mg X.base k f fd ps F) (hr : Room k X.A) (hg : Gl X x) (hm : X.mg x = some (.ref f)) (hk : PySem.W.keepIn X.K (.ref f) = true) (hb : Binds X.K fd ps []) (tk : Takes X C.Wx)
    (ha : SA X C (a :: es) fr) (hl : (a :: es).length = ps.length := by rfl) (hfr : ∀ s S ws S', fr s S = .ok ws S' → ws.length = (a :: es).length)
    (hdb : (x == ("__debug__" : Str)) = false := by decide) (he : starEach (a :: es) X.env = (false, eval a X.env) :: starEach es X.env := by rfl) (hpl : (backTo pos (starEach es X.env)).any (·.1) = false := by rfl) :
    SE X C (.Call (.Name x p) (a :: es) [] pos) (eCall F fr) := by
  refine PE.imp (pe_callS (E := L2.WE C.Wx) G hr hg hm hk hb (fun σ => passAt tk σ) ha hdb he hpl) fun s' H Q h => ?_
  obtain ⟨m, S, s, z, sim, sl, w⟩ := h
  refine ⟨m, S, s, z, sim, sl, ?_⟩
  unfold eCall bd at w
  cases hf : fr s S with
  | ok ws S1 =>
    rw [hf] at w
    exact fun m' H' vs e sm r => ⟨m', S1, ws, sm, r, by rw [hfr s S ws S1 hf]; exact hl, w.shift e⟩
  | ex c d S1 => rw [hf] at w; exact w
  | bad => rw [hf] at w; exact w
theorem aNil_len : ∀ (s : Sl) (S : Sto) (ws : List W) (S' : Sto), aNil s S = .ok ws S' → ws.length = 0 := by
  intro s S ws S' h
  unfold aNil rt at h
  cases h; rfl
theorem aCons_len {n : Nat} (h : ∀ (s : Sl) (S : Sto) (ws : List W) (S' : Sto), fr s S = .ok ws S' → ws.length = n) : ∀ (s : Sl) (S : Sto) (ws : List W) (S' : Sto), aCons fe fr s S = .ok ws S' → ws.length = n + 1 := by
  intro s S ws S' e
  unfold aCons bd at e
  cases h1 : fe s S with
  | ok x S1 =>
    rw [h1] at e
    simp only at e
    cases h2 : fr s S1 with
    | ok xs S2 =>
      rw [h2] at e
      simp only [rt] at e
      cases e
      simp [h s S1 xs _ h2]
    | ex c d S2 => rw [h2] at e; cases e
    | bad => rw [h2] at e; cases e
  | ex c d S1 => rw [h1] at e; cases e
  | bad => rw [h1] at e; cases e
/-- raise X('..'): an own class over ValueError without an __init__ -/
theorem ss_raise {x msg : Str} {j : Nat} {A : Addr} (hc : X.calm = true) (tk : Takes X C.Wx) (q : PySem.W.excIn X.K A [.type "ValueError", .type "Exception", .type "BaseException", .type "object"] "ValueError.__new__" = true) (gC : X.mg x = some (.ref A))
    (kC : PySem.W.keepIn X.K (.ref A) = true) (h1 : PySem.W.subIn X.K (.ref A) (.type "BaseException") = some true) (h2 : PySem.W.typeIn X.K (.ref A) = some (.type "type")) (hg : Gl X x) (hdb : (x == ("__debug__" : Str)) = false := by decide) :
    SS X C (.Raise (some (.Call (.Name x p) [.Constant (.str msg) j p2] [] pos)) none pos') (sRaise x) := by
  refine PS.imp (ps_raise hc tk (pmk_own PySem.F.excBase_ValueError q gC kC (raises_own h1 h2) hg hdb)) fun D s' H h => ?_
  obtain ⟨m, S, s, z, sim, sl, w⟩ := h
  exact w m H s' _ _ (.refl _ _) z sim sl ⟨⟨A, rfl, gC⟩, trivial⟩
/-! ### try -/
def XTab (K : PySem.W.Frag) (mg : Str → Option Value) (tab : List (Str × Bool)) (c : Value) : Prop := ∀ x b A, lookX tab x = some b → mg x = some (.ref A) → PySem.W.exmOne K (.ref A) c = some b
theorem xtab_nil {K : PySem.W.Frag} {mg : Str → Option Value} {c : Value} : XTab K mg [] c := fun _ _ _ h => nomatch h
theorem xtab_cons {K : PySem.W.Frag} {mg : Str → Option Value} {c : Value} {x : Str} {b : Bool} {A : Addr} {tab : List (Str × Bool)} (g : mg x = some (.ref A)) (e : PySem.W.exmOne K (.ref A) c = some b) (t : XTab K mg tab c) : XTab K mg ((x, b) :: tab) c := fun y b' A' h hy => by
  unfold lookX at h
  split at h
  · rename_i q
    subst q
    cases h
    rw [g] at hy
    cases hy
    exact e
  · exact t y b' A' h hy
theorem PSs.ex {ι : Type} {sts : List Stmt} {t : ι → TS} (h : ∀ i, PSs X sts (t i)) : PSs X sts (fun D s H => ∃ i, t i D s H) := ⟨fun pins s σ H D I ⟨i, q⟩ => (h i).run pins s σ H D I q⟩
theorem sb_bad {sts : List Stmt} : SB X C sts (fun _ _ => RS.bad) := ⟨fun pins s σ H D I h => by
  obtain ⟨m, S, s, z, sim, sl, w⟩ := h
  exact False.elim w⟩
def onNone (d : Option (List (Str × W))) (s : Stm) : Stm := match d with
  | none => s
  | some _ => fun _ _ => .bad
theorem fn_bad {P : Program} {w : World} {K : PySem.W.Frag} {mg : Str → Option Value} {base : Heap} {k : Nat} {f : Addr} {fd : FuncData} {ps : List Str} : FnM P w K mg base k f fd ps (fun _ => bad) := by
  refine ⟨fun vs H Q E h => ?_, fun A outer s H args us vs Q E _ _ _ _ h => ?_⟩
  · obtain ⟨m, S, ws, _, _, _, w⟩ := h
    exact False.elim w
  · obtain ⟨m, S, ws, _, _, _, w⟩ := h
    exact False.elim w
abbrev cS : Cc := ⟨fun _ => True, fun _ _ _ _ => False⟩
theorem ss_try {x : Str} {c : Value} {body suite : List Stmt} {b0 : Stmt} {fb : Stm} {tab : List (Str × Bool)} {su : Str → Option (List (Str × W)) → Stm} (hZ : C.Z = fun _ => True) (hc : Names X x c) (tk : Takes X C.Wx) (ht : XTab X.K X.mg tab c)
    (hb : ∀ (W : WX) (pn : List (Addr × Obj)) (xe : Value → Shared → Prop), Takes (X.tr pn xe) W → PassesOwn (model X.prog X.w) X.A X.env xe → SB (X.tr pn xe) (cW W) body fb)
    (hsu : ∀ (a : Addr) (oe : Obj) (A : Addr) (d : Option Addr) (pn : List (Addr × Obj)) (n : Str) (dd : Option (List (Str × W))), Zc (.ref A) d oe → (∃ vs, oe.data = .fields vs) → lookX tab n = some true → X.mg n = some (.ref A) → SB (X.suite a ((a, oe) :: pn)) cS (b0 :: suite) (su n dd))
    (hs : X.stack = X.env :: X.outer := by rfl) (hf : X.env.frame = some X.env.locals := by rfl) :
    SS X C (.Try body [.ExceptHandler (some (.Name x np)) none (b0 :: suite) pos'] [] [] pos) (sTry fb tab su) := by
  refine PS.imp (ps_try_only (tb := fun W => tS X.K X.mg (cW W) fb)
    (ts := fun a cls d => fun D s' H => ∃ i : Str × Option (List (Str × W)), ((∃ A, cls = .ref A ∧ X.mg i.1 = some (.ref A)) ∧ lookX tab i.1 = some true) ∧ tS X.K X.mg cS (su i.1 i.2) D s' H) hs hf hc tk (fun W pn xe t po => hb W pn xe t po)
    (fun a oe cls d pn hz hfl => ?_)) fun D s' H h => ?_
  · refine PSs.ex fun i => ⟨fun pins s σ H D I ⟨⟨⟨A, h1, h2⟩, h3⟩, q⟩ => ?_⟩
    subst h1
    exact (hsu a oe A d pn i.1 i.2 hz hfl h3 h2).run pins s σ H D I q
  · obtain ⟨m, S, s, z, sim, sl, w⟩ := h
    refine ⟨m, S, s, trivial, sim, sl, ?_⟩
    have hz' : ∀ t, C.Z t := fun t => by rw [hZ]; trivial
    unfold sTry at w
    cases hf : fb s S with
    | nx s2 S2 => rw [hf] at w; exact fun m' H' t e _ sm l => w m' H' t e (hz' t) sm l
    | bk s2 S2 => rw [hf] at w; exact fun m' H' t e _ sm l => w m' H' t e (hz' t) sm l
    | ct s2 S2 => rw [hf] at w; exact fun m' H' t e _ sm l => w m' H' t e (hz' t) sm l
    | rt u S2 => rw [hf] at w; exact w
    | bad => rw [hf] at w; exact w
    | ex cn d s2 S2 =>
      rw [hf] at w
      intro m' H' t cls d' e _ sm l r
      obtain ⟨A, rfl, hA⟩ := r.1
      simp only at w
      cases hl : lookX tab cn with
      | none => rw [hl] at w; exact False.elim w
      | some b =>
        rw [hl] at w
        refine ⟨b, ht cn b A hl hA, fun hb1 a na => ?_, fun hb0 => ?_⟩
        · subst hb1
          refine ⟨(cn, d), ⟨⟨A, rfl, hA⟩, hl⟩, m', S2, s2, trivial, sm, l, ?_⟩
          have w' := w.shift e
          simp only at w'
          cases hsu2 : su cn d s2 S2 with
          | nx s3 S3 => rw [hsu2] at w'; exact fun m3 H3 t3 e3 _ sm3 l3 => w' m3 H3 t3 e3 (hz' _) sm3 l3
          | bk s3 S3 => rw [hsu2] at w'; exact fun m3 H3 t3 e3 _ sm3 l3 => w' m3 H3 t3 e3 (hz' _) sm3 l3
          | ct s3 S3 => rw [hsu2] at w'; exact fun m3 H3 t3 e3 _ sm3 l3 => w' m3 H3 t3 e3 (hz' _) sm3 l3
          | rt u S3 => rw [hsu2] at w'; exact w'
          | bad => rw [hsu2] at w'; exact w'
          | ex c3 d3 s3 S3 => rw [hsu2] at w'; exact False.elim w'
        · subst hb0
          exact w m' H' t _ d' e (hz' _) sm l r
/-- .. as n -/
abbrev cA (i : Nat) (a : Addr) : Cc := ⟨fun t => t[i]? = some (some (.ref a)), fun _ _ _ _ => False⟩
theorem ss_tryAs {i : Nat} {x n : Str} {c : Value} {body suite : List Stmt} {b0 : Stmt} {fb : Stm} {tab : List (Str × Bool)} {su : Str → Option (List (Str × W)) → Stm} (hN : X.N.Nodup) (hZ : C.Z = fun _ => True) (hc : Names X x c) (tk : Takes X C.Wx) (ht : XTab X.K X.mg tab c)
    (hb : ∀ (W : WX) (pn : List (Addr × Obj)) (xe : Value → Shared → Prop), Takes (X.tr pn xe) W → PassesOwn (model X.prog X.w) X.A X.env xe → SB (X.tr pn xe) (cW W) body fb)
    (hsu : ∀ (a : Addr) (oe : Obj) (A : Addr) (d : Option Addr) (pn : List (Addr × Obj)) (n : Str) (dd : Option (List (Str × W))), Zc (.ref A) d oe → (∃ vs, oe.data = .fields vs) → lookX tab n = some true → X.mg n = some (.ref A) → (dd = none → d = none) → SB (X.suite a ((a, oe) :: pn)) (cA i a) (b0 :: suite) (su n dd))
    (hi : X.N[i]? = some n := by rfl) (hln : X.env.kindOf n = some .local := by rfl)
    (hs : X.stack = X.env :: X.outer := by rfl) (hf : X.env.frame = some X.env.locals := by rfl) :
    SS X C (.Try body [.ExceptHandler (some (.Name x np)) (some n) (b0 :: suite) pos'] [] [] pos) (sTryAs i fb tab su) := by
  have base := ps_try_as (X := X) (pos := pos) (pos' := pos') (np := np) (body := body) (b₀ := b0) (suite := suite) (tb := fun W => tS X.K X.mg (cW W) fb)
    (ts := fun a cls d => fun D s' H => ∃ i' : Str × Option (List (Str × W)), (((∃ A, cls = .ref A ∧ X.mg i'.1 = some (.ref A)) ∧ lookX tab i'.1 = some true) ∧ (i'.2 = none → d = none)) ∧ tS X.K X.mg (cA i a) (su i'.1 i'.2) D s' H) hs hf hN hi hln hc tk (fun W pn xe t po => hb W pn xe t po)
    (fun a oe cls d pn hz hfl => ?_)
  · refine PS.imp base fun D s' H h => ?_
    obtain ⟨m, S, s, z, sim, sl, w⟩ := h
    refine ⟨m, S, s, trivial, sim, sl, ?_⟩
    have hz' : ∀ t, C.Z t := fun t => by rw [hZ]; trivial
    unfold sTryAs at w
    cases hf : fb s S with
    | nx s2 S2 => rw [hf] at w; exact fun m' H' t e _ sm l => w m' H' t e (hz' t) sm l
    | bk s2 S2 => rw [hf] at w; exact fun m' H' t e _ sm l => w m' H' t e (hz' t) sm l
    | ct s2 S2 => rw [hf] at w; exact fun m' H' t e _ sm l => w m' H' t e (hz' t) sm l
    | rt u S2 => rw [hf] at w; exact w
    | bad => rw [hf] at w; exact w
    | ex cn d s2 S2 =>
      rw [hf] at w
      intro m' H' t cls d' e _ sm l r
      obtain ⟨A, rfl, hA⟩ := r.1
      simp only at w
      cases hl : lookX tab cn with
      | none => rw [hl] at w; exact False.elim w
      | some b =>
        rw [hl] at w
        refine ⟨b, ht cn b A hl hA, fun hb1 a na => ?_, fun hb0 => ?_⟩
        · subst hb1
          have hd : d = none → d' = none := fun q => by
            subst q
            have r2 := r.2
            cases d' with
            | none => rfl
            | some _ => exact False.elim r2
          have w' := w.shift e
          simp only at w'
          split at w'
          · rename_i hi1
            have hi2 : i < t.length := by rw [← l.1]; exact hi1
            refine ⟨(cn, d), ⟨⟨⟨A, rfl, hA⟩, hl⟩, hd⟩, m', S2, s2.set i none, ?_, sm, l.drop, ?_⟩
            · show (t.set i (some (.ref a)))[i]? = some (some (.ref a))
              rw [List.getElem?_set_self hi2]
            · cases hsu2 : su cn d (s2.set i none) S2 with
              | nx s3 S3 => rw [hsu2] at w'; exact fun m3 H3 t3 e3 _ sm3 l3 => w' m3 H3 _ e3 (hz' _) sm3 l3.drop
              | bk s3 S3 => rw [hsu2] at w'; exact fun m3 H3 t3 e3 _ sm3 l3 => w' m3 H3 _ e3 (hz' _) sm3 l3.drop
              | ct s3 S3 => rw [hsu2] at w'; exact fun m3 H3 t3 e3 _ sm3 l3 => w' m3 H3 _ e3 (hz' _) sm3 l3.drop
              | rt u S3 => rw [hsu2] at w'; exact w'
              | bad => rw [hsu2] at w'; exact w'
              | ex c3 d3 s3 S3 => rw [hsu2] at w'; exact False.elim w'
          · exact False.elim w'
        · subst hb0
          exact w m' H' t _ d' e (hz' _) sm l r
  · refine PSs.ex fun i' => ⟨fun pins s σ H D I ⟨⟨⟨⟨A, h1, h2⟩, h3⟩, h4⟩, q⟩ => ?_⟩
    subst h1
    exact (hsu a oe A d pn i'.1 i'.2 hz hfl h3 h2 h4).run pins s σ H D I q
end
end Fr

namespace Fr
open PySem PySem.Spec PyProof.Rows L2

/-! ### operations by values -/
def getL (S : Sto) : W → Option (List W)
  | .ref n => match S[n]? with
    | some (.lst xs) => some xs
    | _ => none
  | .fl xs => some xs
  | _ => none
def addM (x y : W) : M W := match x, y with
  | .int i, .int j => rt (.int (i + j))
  | .str a, .str b => if a.length + b.length ≤ sizeLine then rt (.str (a ++ b)) else bad
  | .tup a, .tup b => if a.length + b.length ≤ sizeLine then rt (.tup (a ++ b)) else bad
  | .ref l, .ref r => fun S => match S[l]?, S[r]? with
    | some (.lst xs), some (.lst ys) => if xs.length + ys.length ≤ sizeLine then new (.lst (xs ++ ys)) S else .bad
    | _, _ => .bad
  | _, _ => bad
def subM (x y : W) : M W := match x, y with
  | .int i, .int j => rt (.int (i - j))
  | _, _ => bad
def strRep (a : Str) (n : Nat) : Str := ⟨(List.replicate n a.cps).foldl (· ++ ·) #[]⟩
def mulM (x y : W) : M W := match x, y with
  | .int i, .int j => if (-(2 ^ 64) < i ∧ i < 2 ^ 64) ∨ (-(2 ^ 64) < j ∧ j < 2 ^ 64) then rt (.int (i * j)) else bad
  | .str a, .int n => if 2 ≤ n ∧ n ≤ 1000 ∧ 1 ≤ a.length ∧ a.length ≤ 1000 then rt (.str (strRep a n.toNat)) else bad
  | .ref l, .int k => fun S => match S[l]? with
    | some (.lst xs) => if (-(2 ^ 63) ≤ k ∧ k < 2 ^ 63) ∧ xs.length * k.toNat ≤ sizeLine then new (.lst (List.replicate k.toNat xs).flatten) S else .bad
    | _ => .bad
  | _, _ => bad
def modM (x y : W) : M W := match x, y with
  | .int i, .int j => if j ≠ 0 then rt (.int (i.fmod j)) else bad
  | _, _ => bad
def fdivM (x y : W) : M W := match x, y with
  | .int i, .int j => if j ≠ 0 ∧ j.natAbs < 1073741824 then rt (.int (i.fdiv j)) else bad
  | _, _ => bad
def powM (x y : W) : M W := match x, y with
  | .int i, .int j => if 0 ≤ j ∧ j ≤ 1000000 ∧ i.natAbs < 2 ^ 64 then rt (.int (i ^ j.toNat)) else bad
  | _, _ => bad
def shrM (x y : W) : M W := match x, y with
  | .int i, .int j => if 0 ≤ j then rt (.int (i / 2 ^ j.toNat)) else bad
  | _, _ => bad
def bandM (x y : W) : M W := match x, y with
  | .int i, .int j => rt (.int (Builtin.bitAnd i j))
  | _, _ => bad
def negM (x : W) : M W := match x with
  | .int i => rt (.int (-i))
  | _ => bad
def ltM (x y : W) : M W := match x, y with
  | .int i, .int j => rt (.bl (decide (i < j)))
  | _, _ => bad
def leM (x y : W) : M W := match x, y with
  | .int i, .int j => rt (.bl (decide (i ≤ j)))
  | _, _ => bad
def gtM (x y : W) : M W := match x, y with
  | .int i, .int j => rt (.bl (decide (j < i)))
  | _, _ => bad
def geM (x y : W) : M W := match x, y with
  | .int i, .int j => rt (.bl (decide (j ≤ i)))
  | _, _ => bad
/-- scalars -/
def eqW : W → W → Option Bool
  | .non, .non => some true
  | .int i, .int j => some (decide (i = j))
  | .bl i, .bl j => some (decide (i = j))
  | .str i, .str j => some (decide (i = j))
  | .non, .int _ => some false
  | .int _, .non => some false
  | .non, .bl _ => some false
  | .bl _, .non => some false
  | .non, .str _ => some false
  | .str _, .non => some false
  | .int _, .str _ => some false
  | .str _, .int _ => some false
  | .bl _, .str _ => some false
  | .str _, .bl _ => some false
  | _, _ => none
def allD (f : W → Option PyData) : List W → Option (List PyData)
  | [] => some []
  | w :: ws => match f w, allD f ws with
    | some d, some ds => some (d :: ds)
    | _, _ => none
/-- a value as plain data, n deep -/
def toD (S : Sto) : Nat → W → Option PyData
  | 0, _ => none
  | n + 1, w => match w with
    | .non => some .none
    | .bl b => some (.bool b)
    | .int i => some (.int i)
    | .str x => some (.str x)
    | .tup xs => (allD (toD S n) xs).map .tuple
    | .fl xs => (allD (toD S n) xs).map .list
    | .ref k => match S[k]? with
      | some (.lst xs) => (allD (toD S n) xs).map .list
      | _ => none
    | _ => none
def eqM (x y : W) : M W := match eqW x y with
  | some b => rt (.bl b)
  | none => fun S => match toD S 40 x, toD S 40 y with
    | some d, some e => if (SeqAt.shaped d && SeqAt.shaped e) = true then .ok (.bl (PyData.eqv d e)) S else .bad
    | _, _ => .bad
def neM (x y : W) : M W := match eqW x y with
  | some b => rt (.bl !b)
  | none => fun S => match toD S 40 x, toD S 40 y with
    | some d, some e => if (SeqAt.shaped d && SeqAt.shaped e) = true then .ok (.bl !(PyData.eqv d e)) S else .bad
    | _, _ => .bad
def isM (x y : W) : M W := match x, y with
  | .non, .non => rt (.bl true)
  | _, .non => rt (.bl false)
  | _, _ => bad
def isNotM (x y : W) : M W := match x, y with
  | .non, .non => rt (.bl false)
  | _, .non => rt (.bl true)
  | _, _ => bad
def subS (i j : Str) : Bool := !(Builtin.Str.occurrences j i 0 j.length 1).isEmpty
def flatW : W → Bool
  | .non => true
  | .bl _ => true
  | .int _ => true
  | .str _ => true
  | _ => false
def eqF : W → W → Bool
  | .non, .non => true
  | .bl i, .bl j => i == j
  | .int i, .int j => i == j
  | .str i, .str j => i == j
  | .bl i, .int j => (if i then 1 else 0) == j
  | .int j, .bl i => j == (if i then 1 else 0)
  | _, _ => false
def inM (x y : W) : M W := match x, y with
  | .str i, .str j => rt (.bl (subS i j))
  | _, _ => bad
def notInM (x y : W) : M W := match x, y with
  | .str i, .str j => rt (.bl !(subS i j))
  | _, _ => bad
/-- subscripts -/
def ixM (x y : W) : M W := match x, y with
  | .tup xs, .int i => match atI xs i with
    | some w => rt w
    | none => bad
  | .fl xs, .int i => match atI xs i with
    | some w => rt w
    | none => bad
  | .str z, .int i => if z.length ≤ sizeLine then (match atI z.cps.toList i with
    | some c => rt (chr1 c)
    | none => bad) else bad
  | .ref n, .int i => fun S => match S[n]? with
    | some (.lst xs) => match atI xs i with
      | some w => .ok w S
      | none => .bad
    | _ => .bad
  | _, _ => bad
def cutW (xs : List W) (lo hi : Option Int) : List W := (xs.drop (HT.sIx xs.length 0 lo)).take (HT.sIx xs.length xs.length hi - HT.sIx xs.length 0 lo)
def slM (x : W) (lo hi : Option Int) : M W := match x with
  | .str z => if z.length ≤ sizeLine then rt (.str (cutS z lo hi)) else bad
  | .tup xs => rt (.tup (cutW xs lo hi))
  | .fl xs => new (.lst (cutW xs lo hi))
  | .ref n => fun S => match S[n]? with
    | some (.lst xs) => new (.lst (cutW xs lo hi)) S
    | _ => .bad
  | _ => bad
/-! built-ins -/
def lenM (xs : List W) : M W := match xs with
  | [.str z] => if z.length ≤ sizeLine then rt (.int z.length) else bad
  | [.tup ys] => rt (.int ys.length)
  | [.fl ys] => rt (.int ys.length)
  | [.ref n] => fun S => match S[n]? with
    | some (.lst ys) => .ok (.int ys.length) S
    | _ => .bad
  | _ => bad
def intM (xs : List W) : M W := match xs with
  | [.int i] => rt (.int i)
  | [.bl b] => rt (.int (if b then 1 else 0))
  | [.str a] => match PySem.intText? a with
    | some n => if a.length ≤ 640 then rt (.int n) else bad
    | none => bad
  | _ => bad
def tyN (S : Sto) : W → Option String
  | .non => some "NoneType"
  | .bl _ => some "bool"
  | .int _ => some "int"
  | .str _ => some "str"
  | .tup _ => some "tuple"
  | .fl _ => some "list"
  | .ref n => match S[n]? with
    | some (.lst _) => some "list"
    | some (.dK _) => some "dict"
    | some (.dT _) => some "dict"
    | _ => none
  | _ => none
def isiM (xs : List W) : M W := match xs with
  | [x, .ty n] => fun S => match tyN S x with
    | some t => match kitB t n with
      | some b => .ok (.bl b) S
      | none => .bad
    | none => .bad
  | _ => bad
/-! methods -/
def tyM (T : String) (x : W) (S : Sto) : Bool := match x with
  | .str _ => T == "str"
  | .int _ => T == "int"
  | .fl _ => T == "list"
  | .ref n => match S[n]? with
    | some (.lst _) => T == "list"
    | some (.dK _) => T == "dict"
    | some (.dT _) => T == "dict"
    | _ => false
  | _ => false
def eM (T : String) (f : W → List W → M W) (o : Exp) (a : Arg) : Exp := fun s => bd (o s) fun x S => if tyM T x S = true then bd (a s) (f x) S else .bad
def appendM (x : W) (ys : List W) : M W := match x, ys with
  | .ref n, [y] => fun S => match S[n]? with
    | some (.lst xs) => if xs.length < sizeLine then .ok .non (S.set n (.lst (xs ++ [y]))) else .bad
    | _ => .bad
  | _, _ => bad
def popM (x : W) (ys : List W) : M W := match x, ys with
  | .ref n, [] => fun S => match S[n]? with
    | some (.lst xs) => match xs[xs.length - 1]? with
      | some y => .ok y (S.set n (.lst xs.dropLast))
      | none => .bad
    | _ => .bad
  | _, _ => bad
def reverseM (x : W) (ys : List W) : M W := match x, ys with
  | .ref n, [] => fun S => match S[n]? with
    | some (.lst xs) => .ok .non (S.set n (.lst xs.reverse))
    | _ => .bad
  | _, _ => bad
def splitM (x : W) (ys : List W) : M W := match x, ys with
  | .str a, [.str b] => if (b.length == 0) = false ∧ a.length + 2 ≤ sizeLine then new (.lst ((Txt.split a b).map .str)) else bad
  | _, _ => bad
def strsOf : List W → Option (List Str)
  | [] => some []
  | .str a :: ws => (strsOf ws).map (a :: ·)
  | _ => none
def itemsOf (S : Sto) : W → Option (List W)
  | .tup xs => some xs
  | w => getL S w
def joinM (x : W) (ys : List W) : M W := match x, ys with
  | .str a, [y] => fun S => match itemsOf S y with
    | some ws => match strsOf ws with
      | some zs => if (zs.map (·.length)).sum + zs.length * a.length ≤ 16777216 then .ok (.str (Txt.join a zs)) S else .bad
      | none => .bad
    | none => .bad
  | _, _ => bad
def indexSM (x : W) (ys : List W) : M W := match x, ys with
  | .str a, [.str b] => match Txt.index0 a b with
    | some k => rt (.int k)
    | none => bad
  | _, _ => bad
def startsM (x : W) (ys : List W) : M W := match x, ys with
  | .str a, [.str b] => rt (.bl (Txt.startswith a b))
  | _, _ => bad
def endsM (x : W) (ys : List W) : M W := match x, ys with
  | .str a, [.str b] => rt (.bl (Txt.endswith a b))
  | _, _ => bad

/-! ### they keep to the layer's rules -/
section
variable {K : PySem.W.Frag} {mg : Str → Option Value} {m : List Addr} {H : Hp} {S : Sto}
theorem getL_ok (s : Sim K mg m S H) {w : W} {v : V} {xs : List W} (r : RV K mg m H w v) (h : getL S w = some xs) : ∃ a vs, v = .ref a ∧ SqL K H a vs ∧ RVs K mg m H xs vs := by
  cases w with
  | ref n =>
    unfold getL at h
    simp only at h
    split at h
    · rename_i ys hn
      cases h
      obtain ⟨a, h1, vs, h2, h3⟩ := s.at hn
      unfold RV at r
      obtain ⟨a', h4, rfl⟩ := r
      rw [h1] at h4; cases h4
      exact ⟨a, vs, rfl, SqL.of h2, h3⟩
    · cases h
  | fl ys =>
    unfold getL at h
    cases h
    unfold RV at r
    obtain ⟨p, vs, rfl, h1, h2⟩ := r
    exact ⟨p, vs, rfl, h1.sq, h2⟩
  | _ => cases h
theorem lst_ok (s : Sim K mg m S H) {n : Nat} {v : V} {xs : List W} (r : RV K mg m H (.ref n) v) (h : S[n]? = some (.lst xs)) : ∃ a vs, m[n]? = some a ∧ v = .ref a ∧ H a = some (.lst vs) ∧ RVs K mg m H xs vs := by
  obtain ⟨a, h1, vs, h2, h3⟩ := s.at h
  unfold RV at r
  obtain ⟨a', h4, rfl⟩ := r
  rw [h1] at h4; cases h4
  exact ⟨a, vs, h1, rfl, h2, h3⟩
theorem rv_int {i : Int} {v : V} : RV K mg m H (.int i) v ↔ v = .int i := by unfold RV; exact Iff.rfl
theorem rv_str {i : Str} {v : V} : RV K mg m H (.str i) v ↔ v = .str i := by unfold RV; exact Iff.rfl
theorem rv_bl {i : Bool} {v : V} : RV K mg m H (.bl i) v ↔ v = .bl i := by unfold RV; exact Iff.rfl
theorem rv_non {v : V} : RV K mg m H .non v ↔ v = .non := by unfold RV; exact Iff.rfl
theorem rv_tup {xs : List W} {v : V} : RV K mg m H (.tup xs) v ↔ ∃ p vs, v = .ref p ∧ SqT K H p vs ∧ RVs K mg m H xs vs := by unfold RV; exact Iff.rfl
/-- an object changes -/
theorem WG.set {Q : VK} {E : XK} {n : Nat} {a : Addr} {vs vs' : List V} {xs' : List W} {w : W} {v : V} (g : WG K mg (RV K mg) (.ok w (S.set n (.lst xs'))) m H Q E) (s : Sim K mg m S H) (hm : m[n]? = some a) (hp : H a = some (.lst vs)) (r : RVs K mg m H xs' vs') (rw' : RV K mg m H w v) : Q v (upd H a (.lst vs')) := by
  have e : Ext m H m (upd H a (.lst vs')) := Ext.chg hp (fun _ z => nomatch z) (fun _ _ z => nomatch z)
  exact g m _ v e (s.chg hm hp (fun _ z => nomatch z) (fun _ _ z => nomatch z) ⟨vs', upd_same, r.mono e⟩) (rw'.mono e)
end
theorem foldl_rep_size (A : Array Nat) : ∀ (n : Nat) (acc : Array Nat), ((List.replicate n A).foldl (· ++ ·) acc).size = acc.size + n * A.size
  | 0, acc => by simp
  | n + 1, acc => by
    rw [List.replicate_succ, List.foldl_cons, foldl_rep_size A n, Array.size_append, Nat.succ_mul]
    omega
theorem strRep_length (a : Str) (n : Nat) : (strRep a n).length = n * a.length := by
  unfold strRep Str.length
  rw [foldl_rep_size]
  simp
theorem op_mulS {X : Cx} : OpR X (binaryOp .Mult) (fun x y H Q => ∃ a n, x = .str a ∧ y = .int n ∧ (2 ≤ n ∧ n ≤ 1000 ∧ 1 ≤ a.length ∧ a.length ≤ 1000) ∧ Q (.str (strRep a n.toNat)) H) := by
  intro pins s σ H x y v u Q I rx ry h
  obtain ⟨a, n, rfl, rfl, ⟨h1, h2, h3, h4⟩, q⟩ := h
  obtain ⟨t, rfl⟩ := rx
  obtain ⟨t', rfl⟩ := ry
  have e1 : (n == 1 || a.length == 0) = false := by
    have : n ≠ 1 := by omega
    have : a.length ≠ 0 := by omega
    simp [*]
  refine P.mul_str ?_ (fun _ _ => ?_) (fun _ _ => ?_) ?_
  · rw [decide_eq_false (by omega), decide_eq_false (by omega)]; rfl
  · intro hh
    have hn : (0 : Int) < n := by omega
    have h5 : ((2 : Int) ^ 63 - 1) / n ≥ 1000 := by
      refine Int.le_ediv_of_mul_le hn ?_
      have : (1000 : Int) * n ≤ 1000 * 1000 := by omega
      omega
    omega
  · have : a.length * n.toNat ≤ 1000 * 1000 := Nat.mul_le_mul h4 (by omega)
    have hs : sizeLine = 16777216 := sizeLine_eq
    unfold PySem.Builtin.Str.tooLong
    rw [hs]
    first | (simp only [decide_eq_false_iff_not]; omega) | (simp; omega)
  · rw [if_neg (by omega), e1, if_neg Bool.false_ne_true]
    refine ⟨?_, ⟨.str _, H, I.tok _, ⟨_, rfl⟩, q⟩⟩
    have hl := strRep_length a n.toNat
    have hs : sizeLine = 16777216 := sizeLine_eq
    have : n.toNat * a.length ≤ 1000 * 1000 := Nat.mul_le_mul (by omega) h4
    show (strRep a n.toNat).length ≤ sizeLine
    omega
end Fr

namespace Fr
open PySem PySem.Spec PyProof.Rows L2
section
variable {X : Cx}
def rAdd4 (K : PySem.W.Frag) : R2 := fun x y H Q => rI0 (fun i j => .int (i + j)) x y H Q ∨ (∃ i j, x = .str i ∧ y = .str j ∧ i.length + j.length ≤ sizeLine ∧ Q (.str (i ++ j)) H) ∨ rCatA K x y H Q ∨ rCat x y H Q
theorem op_add4 : OpR X (binaryOp .Add) (rAdd4 X.K) := op_add.or (op_add_str.or (op_catA.or op_cat))
theorem o_add : O2 X (rAdd4 X.K) addM := by
  intro x y S m H v u Q E sim r1 r2 w
  unfold addM at w
  split at w
  · exact .inl ⟨_, _, rv_int.1 r1, rv_int.1 r2, w.ok sim (rv_int.2 rfl)⟩
  · split at w
    · rename_i hl
      exact .inr (.inl ⟨_, _, rv_str.1 r1, rv_str.1 r2, hl, w.ok sim (rv_str.2 rfl)⟩)
    · exact False.elim w
  · split at w
    · rename_i a b hl
      obtain ⟨p, vs, rfl, h1, h2⟩ := rv_tup.1 r1
      obtain ⟨q, us, rfl, h3, h4⟩ := rv_tup.1 r2
      refine .inr (.inr (.inl ⟨p, q, vs, us, rfl, rfl, h1, h3, by rw [← h2.length, ← h4.length]; exact hl, fun e => ?_, fun _ e => ?_, fun _ _ k hk => ?_⟩))
      · refine w.ok sim (rv_tup.2 ⟨q, us, rfl, h3, ?_⟩)
        have h5 := h2.append h4
        rw [e] at h5; exact h5
      · refine w.ok sim (rv_tup.2 ⟨p, vs, rfl, h1, ?_⟩)
        have h5 := h2.append h4
        rw [e, List.append_nil] at h5; exact h5
      · exact w m _ _ (Ext.plain hk) (sim.plain hk) (rv_tup.2 ⟨k, _, rfl, .inl (.inl upd_same), (h2.append h4).mono (Ext.plain hk)⟩)
    · exact False.elim w
  · try simp only at w
    split at w
    · rename_i l r xs ys h1 h2
      split at w
      · rename_i hl
        obtain ⟨a, vs, _, rfl, h3, h4⟩ := lst_ok sim r1 h1
        obtain ⟨b, us, _, rfl, h5, h6⟩ := lst_ok sim r2 h2
        refine .inr (.inr (.inr ⟨a, b, vs, us, rfl, rfl, h3, h5, by rw [← h4.length, ← h6.length]; exact hl, fun p hp => ?_⟩))
        exact w.new sim hp ⟨_, upd_same, (h4.append h6).mono (Ext.new hp)⟩
      · exact False.elim w
    · exact False.elim w
  · exact False.elim w
theorem o_sub : O2 X (rI0 fun i j => .int (i - j)) subM := by
  intro x y S m H v u Q E sim r1 r2 w
  unfold subM at w
  split at w
  · exact ⟨_, _, rv_int.1 r1, rv_int.1 r2, w.ok sim (rv_int.2 rfl)⟩
  · exact False.elim w
def rMul3 : R2 := fun x y H Q => rI CMul (fun i j => .int (i * j)) x y H Q ∨ (∃ a n, x = .str a ∧ y = .int n ∧ (2 ≤ n ∧ n ≤ 1000 ∧ 1 ≤ a.length ∧ a.length ≤ 1000) ∧ Q (.str (strRep a n.toNat)) H) ∨ rRep x y H Q
theorem op_mul3 : OpR X (binaryOp .Mult) rMul3 := op_mul.or (op_mulS.or op_rep)
theorem o_mul : O2 X rMul3 mulM := by
  intro x y S m H v u Q E sim r1 r2 w
  unfold mulM at w
  split at w
  · split at w
    · rename_i h; exact .inl ⟨_, _, rv_int.1 r1, rv_int.1 r2, h, w.ok sim (rv_int.2 rfl)⟩
    · exact False.elim w
  · split at w
    · rename_i h; exact .inr (.inl ⟨_, _, rv_str.1 r1, rv_int.1 r2, h, w.ok sim (rv_str.2 rfl)⟩)
    · exact False.elim w
  · try simp only at w
    split at w
    · rename_i l r xs h1
      split at w
      · rename_i hl
        obtain ⟨a, vs, _, rfl, h3, h4⟩ := lst_ok sim r1 h1
        exact .inr (.inr ⟨a, _, vs, rfl, rv_int.1 r2, h3, hl.1.1, hl.1.2, by rw [← h4.length]; exact hl.2, fun p hp => w.new sim hp ⟨_, upd_same, (h4.rep _).mono (Ext.new hp)⟩⟩)
      · exact False.elim w
    · exact False.elim w
  · exact False.elim w
theorem o_mod : O2 X (rI (fun _ j => j ≠ 0) fun i j => .int (i.fmod j)) modM := by
  intro x y S m H v u Q E sim r1 r2 w
  unfold modM at w
  split at w
  · split at w
    · rename_i h; exact ⟨_, _, rv_int.1 r1, rv_int.1 r2, h, w.ok sim (rv_int.2 rfl)⟩
    · exact False.elim w
  · exact False.elim w
theorem o_fdiv : O2 X (rI CDivN fun i j => .int (i.fdiv j)) fdivM := by
  intro x y S m H v u Q E sim r1 r2 w
  unfold fdivM at w
  split at w
  · split at w
    · rename_i h; exact ⟨_, _, rv_int.1 r1, rv_int.1 r2, h, w.ok sim (rv_int.2 rfl)⟩
    · exact False.elim w
  · exact False.elim w
theorem o_pow : O2 X (rI CPow fun i j => .int (i ^ j.toNat)) powM := by
  intro x y S m H v u Q E sim r1 r2 w
  unfold powM at w
  split at w
  · split at w
    · rename_i h; exact ⟨_, _, rv_int.1 r1, rv_int.1 r2, h, w.ok sim (rv_int.2 rfl)⟩
    · exact False.elim w
  · exact False.elim w
theorem o_shr : O2 X (rI (fun _ j => 0 ≤ j) fun i j => .int (i / 2 ^ j.toNat)) shrM := by
  intro x y S m H v u Q E sim r1 r2 w
  unfold shrM at w
  split at w
  · split at w
    · rename_i h; exact ⟨_, _, rv_int.1 r1, rv_int.1 r2, h, w.ok sim (rv_int.2 rfl)⟩
    · exact False.elim w
  · exact False.elim w
theorem o_band : O2 X (rI0 fun i j => .int (Builtin.bitAnd i j)) bandM := by
  intro x y S m H v u Q E sim r1 r2 w
  unfold bandM at w
  split at w
  · exact ⟨_, _, rv_int.1 r1, rv_int.1 r2, w.ok sim (rv_int.2 rfl)⟩
  · exact False.elim w
theorem o_neg : O1 X (rU fun i => .int (-i)) negM := by
  intro x S m H v Q E sim r1 w
  unfold negM at w
  split at w
  · exact ⟨_, rv_int.1 r1, w.ok sim (rv_int.2 rfl)⟩
  · exact False.elim w
theorem o_lt : O2 X (rI0 fun i j => .bl (decide (i < j))) ltM := by
  intro x y S m H v u Q E sim r1 r2 w
  unfold ltM at w
  split at w
  · exact ⟨_, _, rv_int.1 r1, rv_int.1 r2, w.ok sim (rv_bl.2 rfl)⟩
  · exact False.elim w
theorem o_le : O2 X (rI0 fun i j => .bl (decide (i ≤ j))) leM := by
  intro x y S m H v u Q E sim r1 r2 w
  unfold leM at w
  split at w
  · exact ⟨_, _, rv_int.1 r1, rv_int.1 r2, w.ok sim (rv_bl.2 rfl)⟩
  · exact False.elim w
theorem o_gt : O2 X (rI0 fun i j => .bl (decide (j < i))) gtM := by
  intro x y S m H v u Q E sim r1 r2 w
  unfold gtM at w
  split at w
  · exact ⟨_, _, rv_int.1 r1, rv_int.1 r2, w.ok sim (rv_bl.2 rfl)⟩
  · exact False.elim w
theorem o_ge : O2 X (rI0 fun i j => .bl (decide (j ≤ i))) geM := by
  intro x y S m H v u Q E sim r1 r2 w
  unfold geM at w
  split at w
  · exact ⟨_, _, rv_int.1 r1, rv_int.1 r2, w.ok sim (rv_bl.2 rfl)⟩
  · exact False.elim w
/-! == -/
theorem eqW_ok {K : PySem.W.Frag} {mg : Str → Option Value} {m : List Addr} {H : Hp} {x y : W} {v u : V} {b : Bool} (r1 : RV K mg m H x v) (r2 : RV K mg m H y u) (h : eqW x y = some b) : scal v u = true ∧ b = decide (v = u) := by
  cases x <;> cases y <;> simp only [eqW] at h <;> first | (cases h; done) | skip
  all_goals (try simp only [rv_int, rv_str, rv_bl, rv_non] at r1 r2)
  all_goals (subst r1; subst r2; cases h; refine ⟨rfl, ?_⟩; first | rfl | simp)
theorem allD_ok {K : PySem.W.Frag} {mg : Str → Option Value} {m : List Addr} {H : Hp} {f : W → Option PyData} (hf : ∀ w v d, RV K mg m H w v → f w = some d → Dp K H v d) : ∀ {ws : List W} {vs : List V} {ds : List PyData}, RVs K mg m H ws vs → allD f ws = some ds → DpAll K H vs ds
  | [], _, _, r, h => by rw [r.nil_inv]; cases h; exact .nil
  | w :: ws, _, _, r, h => by
    obtain ⟨v, vr, rfl, r1, r2⟩ := r.uncons
    unfold allD at h
    split at h
    · rename_i d ds h1 h2
      cases h
      exact .cons (hf _ _ _ r1 h1) (allD_ok hf r2 h2)
    · cases h
theorem toD_ok {K : PySem.W.Frag} {mg : Str → Option Value} {m : List Addr} {H : Hp} {S : Sto} (s : Sim K mg m S H) : ∀ (n : Nat) (w : W) (v : V) (d : PyData), RV K mg m H w v → toD S n w = some d → Dp K H v d
  | 0, _, _, _, _, h => by cases h
  | n + 1, w, v, d, r, h => by
    unfold toD at h
    have ih := toD_ok s n
    cases w with
    | non => cases h; rw [rv_non.1 r]; exact .non
    | bl b => cases h; rw [rv_bl.1 r]; exact .bl b
    | int i => cases h; rw [rv_int.1 r]; exact .int i
    | str x => cases h; rw [rv_str.1 r]; exact .str x
    | tup xs =>
      obtain ⟨p, vs, rfl, h1, h2⟩ := rv_tup.1 r
      simp only at h
      cases ha : allD (toD S n) xs with
      | none => rw [ha] at h; cases h
      | some ds => rw [ha] at h; cases h; exact .tup h1 (allD_ok ih h2 ha)
    | fl xs =>
      unfold RV at r
      obtain ⟨p, vs, rfl, h1, h2⟩ := r
      simp only at h
      cases ha : allD (toD S n) xs with
      | none => rw [ha] at h; cases h
      | some ds => rw [ha] at h; cases h; exact .lst h1.sq (allD_ok ih h2 ha)
    | ref k =>
      simp only at h
      split at h
      · rename_i xs hk
        obtain ⟨a, vs, _, rfl, h1, h2⟩ := lst_ok s r hk
        cases ha : allD (toD S n) xs with
        | none => rw [ha] at h; cases h
        | some ds => rw [ha] at h; cases h; exact .lst (SqL.of h1) (allD_ok ih h2 ha)
      · cases h
    | _ => cases h
def rEq2 (K : PySem.W.Frag) : R2 := fun x y H Q => rEq x y H Q ∨ rEqD K x y H Q
def rNe2 (K : PySem.W.Frag) : R2 := fun x y H Q => rNe x y H Q ∨ rNeD K x y H Q
theorem op_eq2 (hu : X.A.units + 64 < cLine) : OpR X (compareOp .Eq) (rEq2 X.K) := op_eq.or (op_eqD hu)
theorem op_ne2 (hu : X.A.units + 64 < cLine) : OpR X (compareOp .NotEq) (rNe2 X.K) := op_ne.or (op_neD hu)
theorem o_eq : O2 X (rEq2 X.K) eqM := by
  intro x y S m H v u Q E sim r1 r2 w
  unfold eqM at w
  cases hb : eqW x y with
  | some b =>
    rw [hb] at w
    obtain ⟨h1, h2⟩ := eqW_ok r1 r2 hb
    exact .inl ⟨h1, w.ok sim (rv_bl.2 (by rw [h2]))⟩
  | none =>
    rw [hb] at w
    try simp only at w
    split at w
    · rename_i d e hd he
      split at w
      · rename_i hs
        simp only [Bool.and_eq_true] at hs
        exact .inr ⟨d, e, toD_ok sim _ _ _ _ r1 hd, toD_ok sim _ _ _ _ r2 he, hs.1, hs.2, w.ok sim (rv_bl.2 rfl)⟩
      · exact False.elim w
    · exact False.elim w
theorem o_ne : O2 X (rNe2 X.K) neM := by
  intro x y S m H v u Q E sim r1 r2 w
  unfold neM at w
  cases hb : eqW x y with
  | some b =>
    rw [hb] at w
    obtain ⟨h1, h2⟩ := eqW_ok r1 r2 hb
    exact .inl ⟨h1, w.ok sim (rv_bl.2 (by rw [h2]))⟩
  | none =>
    rw [hb] at w
    try simp only at w
    split at w
    · rename_i d e hd he
      split at w
      · rename_i hs
        simp only [Bool.and_eq_true] at hs
        exact .inr ⟨d, e, toD_ok sim _ _ _ _ r1 hd, toD_ok sim _ _ _ _ r2 he, hs.1, hs.2, w.ok sim (rv_bl.2 rfl)⟩
      · exact False.elim w
    · exact False.elim w
theorem rv_ne_non {K : PySem.W.Frag} {mg : Str → Option Value} {m : List Addr} {H : Hp} {x : W} {v : V} (r : RV K mg m H x v) (h : x ≠ .non) : v ≠ .non := by
  intro e
  subst e
  cases x with
  | non => exact h rfl
  | bl b => cases rv_bl.1 r
  | int b => cases rv_int.1 r
  | str b => cases rv_str.1 r
  | tup xs => obtain ⟨p, vs, e, _⟩ := rv_tup.1 r; cases e
  | fl xs => unfold RV at r; obtain ⟨p, vs, e, _⟩ := r; cases e
  | ref n => unfold RV at r; obtain ⟨a, _, e⟩ := r; cases e
  | gl n => unfold RV at r; obtain ⟨a, _, e⟩ := r; cases e
  | ty n => unfold RV at r; cases r
theorem o_is : O2 X (fun x y H Q => y = .non ∧ Q (.bl (decide (x = .non))) H) isM := by
  intro x y S m H v u Q E sim r1 r2 w
  unfold isM at w
  split at w
  · exact ⟨rv_non.1 r2, w.ok sim (rv_bl.2 (by rw [rv_non.1 r1]; rfl))⟩
  · rename_i h
    exact ⟨rv_non.1 r2, w.ok sim (rv_bl.2 (by rw [decide_eq_false (rv_ne_non r1 h)]))⟩
  · exact False.elim w
theorem o_isNot : O2 X (fun x y H Q => y = .non ∧ Q (.bl (!decide (x = .non))) H) isNotM := by
  intro x y S m H v u Q E sim r1 r2 w
  unfold isNotM at w
  split at w
  · exact ⟨rv_non.1 r2, w.ok sim (rv_bl.2 (by rw [rv_non.1 r1]; rfl))⟩
  · rename_i h
    exact ⟨rv_non.1 r2, w.ok sim (rv_bl.2 (by rw [decide_eq_false (rv_ne_non r1 h)]; rfl))⟩
  · exact False.elim w
theorem o_in : O2 X (fun x y H Q => ∃ i j, x = .str i ∧ y = .str j ∧ Q (.bl (!(Builtin.Str.occurrences j i 0 j.length 1).isEmpty)) H) inM := by
  intro x y S m H v u Q E sim r1 r2 w
  unfold inM at w
  split at w
  · exact ⟨_, _, rv_str.1 r1, rv_str.1 r2, w.ok sim (rv_bl.2 rfl)⟩
  · exact False.elim w
theorem o_notIn : O2 X (fun x y H Q => ∃ i j, x = .str i ∧ y = .str j ∧ Q (.bl (!(!(Builtin.Str.occurrences j i 0 j.length 1).isEmpty))) H) notInM := by
  intro x y S m H v u Q E sim r1 r2 w
  unfold notInM at w
  split at w
  · exact ⟨_, _, rv_str.1 r1, rv_str.1 r2, w.ok sim (rv_bl.2 rfl)⟩
  · exact False.elim w
/-! subscripts and slices -/
theorem RVs.atI {K : PySem.W.Frag} {mg : Str → Option Value} {m : List Addr} {H : Hp} {ws : List W} {vs : List V} {i : Int} {w : W} (r : RVs K mg m H ws vs) (h : L2.atI ws i = some w) : ∃ v, L2.atI vs i = some v ∧ RV K mg m H w v := by
  unfold L2.atI at h ⊢
  rw [← r.length]
  cases hi : ixN ws.length i with
  | none => rw [hi] at h; cases h
  | some j => rw [hi] at h; exact r.get h
theorem o_ix : O2 X (rIx X.K) ixM := by
  intro x y S m H v u Q E sim r1 r2 w
  unfold ixM at w
  split at w
  · rename_i xs i
    cases hw : L2.atI xs i with
    | some z0 =>
      rw [hw] at w
      obtain ⟨p, vs, rfl, h1, h2⟩ := rv_tup.1 r1
      obtain ⟨z, h3, h4⟩ := h2.atI hw
      exact .inr (.inl ⟨p, vs, _, z, rfl, rv_int.1 r2, h1, h3, w.ok sim h4⟩)
    | none => rw [hw] at w; exact False.elim w
  · rename_i xs i
    cases hw : L2.atI xs i with
    | some z0 =>
      rw [hw] at w
      unfold RV at r1
      obtain ⟨p, vs, rfl, h1, h2⟩ := r1
      obtain ⟨z, h3, h4⟩ := h2.atI hw
      exact .inl ⟨p, vs, _, z, rfl, rv_int.1 r2, h1.sq, h3, w.ok sim h4⟩
    | none => rw [hw] at w; exact False.elim w
  · rename_i z i
    split at w
    · rename_i hl
      cases hw : L2.atI z.cps.toList i with
      | some z0 =>
        rw [hw] at w
        exact .inr (.inr ⟨_, _, _, rv_str.1 r1, rv_int.1 r2, hl, hw, w.ok sim (by unfold chr1; exact rv_str.2 rfl)⟩)
      | none => rw [hw] at w; exact False.elim w
    · exact False.elim w
  · try simp only at w
    split at w
    · rename_i xs hn
      split at w
      · rename_i hw
        obtain ⟨a, vs, _, rfl, h1, h2⟩ := lst_ok sim r1 hn
        obtain ⟨z, h3, h4⟩ := h2.atI hw
        exact .inl ⟨a, vs, _, z, rfl, rv_int.1 r2, SqL.of h1, h3, w.ok sim h4⟩
      · exact False.elim w
    · exact False.elim w
  · exact False.elim w
variable {C : Cc} {a b : Expr} {es : List Expr} {fa fb : Exp} {fr : Arg} {pos p2 : Pos}
theorem se_ix (ha : SE X C a fa) (hb : SE X C b fb) (hs : PlainIx b := by exact fun _ _ => rfl) : SE X C (.Subscript a b pos) (eOp ixM fa fb) := by
  refine PE.imp (pe_ix ix_seq ha hb hs) fun s' H Q h => ?_
  refine tG.bind h fun m1 S1 s H1 x v z s1 l1 r1 w1 => ?_
  exact ⟨m1, S1, s, z, s1, l1, w1.bind fun y S2 m2 H2 u e2 s2 r2 w2 => o_ix x y S2 m2 H2 v u Q _ s2 (r1.mono e2) r2 w2⟩
abbrev SO (X : Cx) (C : Cc) (e : Option Expr) (f : Sl → M (Option Int)) : Prop := PO X e (tG X.K X.mg eqR C f)
def oNone : Sl → M (Option Int) := fun _ => rt none
def oSome (f : Exp) : Sl → M (Option Int) := fun s => bd (f s) fun x => match x with
  | .int i => rt (some i)
  | _ => bad
theorem PO.imp {e : Option Expr} {t t' : TO} (h : PO X e t) (k : ∀ s H Q, t' s H Q → t s H Q) : PO X e t' := ⟨fun pins s σ H Q I q => h.run pins s σ H Q I (k _ _ _ q)⟩
theorem so_none : SO X C none oNone := by
  refine PO.imp po_none fun s' H Q h => ?_
  obtain ⟨m, S, s, z, sim, sl, w⟩ := h
  exact w.ok sim rfl
theorem so_some (ha : SE X C a fa) : SO X C (some a) (oSome fa) := by
  refine PO.imp (po_some ha) fun s' H Q h => ?_
  refine tG.bind h fun m1 S1 s H1 x v z s1 l1 r1 w1 => ?_
  cases x with
  | int i => exact ⟨i, rv_int.1 r1, w1.ok s1 rfl⟩
  | _ => exact False.elim w1
def eSl (f : Exp) (lo hi : Sl → M (Option Int)) : Exp := fun s => bd (f s) fun x => bd (lo s) fun l => bd (hi s) fun u => slM x l u
theorem RVs.cut {K : PySem.W.Frag} {mg : Str → Option Value} {m : List Addr} {H : Hp} {ws : List W} {vs : List V} (lo hi : Option Int) (r : RVs K mg m H ws vs) : RVs K mg m H (cutW ws lo hi) (cutV vs lo hi) := by
  unfold cutW cutV
  rw [← r.length]
  exact (r.drop _).take _
theorem se_slice {lo hi : Option Expr} {fl fh : Sl → M (Option Int)} (ha : SE X C a fa) (hl : SO X C lo fl) (hh : SO X C hi fh) : SE X C (.Subscript a (.Slice lo hi none p2) pos) (eSl fa fl fh) := by
  refine PE.imp (pe_slice (sl_str.or (sl_list.or sl_tupA)) ha hl hh) fun s' H Q h => ?_
  refine tG.bind h fun m1 S1 s H1 x v z s1 l1 r1 w1 => ?_
  refine ⟨m1, S1, s, z, s1, l1, w1.bind fun y S2 m2 H2 u e2 s2 r2 w2 => ?_⟩
  refine ⟨m2, S2, s, z, s2, l1.mono e2, w2.bind fun y3 S3 m3 H3 u3 e3 s3 r3 w3 => ?_⟩
  cases r2
  cases r3
  have rx := (r1.mono e2).mono e3
  unfold slM at w3
  split at w3
  · split at w3
    · rename_i hz; exact .inl ⟨_, rv_str.1 rx, hz, w3.ok s3 (rv_str.2 rfl)⟩
    · exact False.elim w3
  · obtain ⟨p, vs, rfl, h1, h2⟩ := rv_tup.1 rx
    refine .inr (.inr ⟨p, vs, rfl, h1, fun hw => ?_, fun _ q hq => ?_⟩)
    · refine w3.ok s3 (rv_tup.2 ⟨p, vs, rfl, h1, ?_⟩)
      have h3 := h2.cut y y3
      have e : cutV vs y y3 = vs := by
        unfold cutV
        rw [hw.1, hw.2]
        simp
      rw [e] at h3
      exact h3
    · exact w3 m3 _ _ (Ext.plain hq) (s3.plain hq) (rv_tup.2 ⟨q, _, rfl, .inl (.inl upd_same), (h2.cut y y3).mono (Ext.plain hq)⟩)
  · unfold RV at rx
    obtain ⟨p, vs, rfl, h1, h2⟩ := rx
    exact .inr (.inl ⟨p, vs, rfl, h1.sq, fun q hq => w3.new s3 hq ⟨_, upd_same, (h2.cut y y3).mono (Ext.new hq)⟩⟩)
  · try simp only at w3
    split at w3
    · rename_i xs hn
      obtain ⟨p, vs, _, rfl, h1, h2⟩ := lst_ok s3 rx hn
      exact .inr (.inl ⟨p, vs, rfl, SqL.of h1, fun q hq => w3.new s3 hq ⟨_, upd_same, (h2.cut y y3).mono (Ext.new hq)⟩⟩)
    · exact False.elim w3
  · exact False.elim w3
end
end Fr

namespace Fr
open PySem PySem.Spec PyProof.Rows L2
section
variable {X : Cx}
theorem RVs.one {K : PySem.W.Frag} {mg : Str → Option Value} {m : List Addr} {H : Hp} {w : W} {vs : List V} (r : RVs K mg m H [w] vs) : ∃ v, vs = [v] ∧ RV K mg m H w v := by
  obtain ⟨v, t, rfl, h1, h2⟩ := r.uncons
  rw [h2.nil_inv]
  exact ⟨v, rfl, h1⟩
theorem RVs.two {K : PySem.W.Frag} {mg : Str → Option Value} {m : List Addr} {H : Hp} {w w2 : W} {vs : List V} (r : RVs K mg m H [w, w2] vs) : ∃ v v2, vs = [v, v2] ∧ RV K mg m H w v ∧ RV K mg m H w2 v2 := by
  obtain ⟨v, t, rfl, h1, h2⟩ := r.uncons
  obtain ⟨v2, rfl, h3⟩ := h2.one
  exact ⟨v, v2, rfl, h1, h3⟩
def rLen (K : PySem.W.Frag) : List V → Hp → VK → Prop := fun xs H Q => ∃ x n, xs = [x] ∧ LenV K x H n ∧ Q (.int n) H
theorem cr_len : CallR X (.builtin "len") (rLen X.K) := call_len
theorem o_len : OC X (rLen X.K) lenM := by
  intro x S m H v Q E sim r w
  unfold lenM at w
  split at w
  · split at w
    · rename_i hl
      obtain ⟨v1, rfl, h1⟩ := r.one
      rw [rv_str.1 h1]
      exact ⟨_, _, rfl, ⟨hl, rfl⟩, w.ok sim (rv_int.2 rfl)⟩
    · exact False.elim w
  · obtain ⟨v1, rfl, h1⟩ := r.one
    obtain ⟨p, vs, rfl, h2, h3⟩ := rv_tup.1 h1
    exact ⟨_, _, rfl, .inr ⟨vs, h2, rfl⟩, w.ok sim (rv_int.2 (by rw [h3.length]))⟩
  · obtain ⟨v1, rfl, h1⟩ := r.one
    unfold RV at h1
    obtain ⟨p, vs, rfl, h2, h3⟩ := h1
    exact ⟨_, _, rfl, .inl ⟨vs, h2.sq, rfl⟩, w.ok sim (rv_int.2 (by rw [h3.length]))⟩
  · try simp only at w
    split at w
    · rename_i ys hn
      obtain ⟨v1, rfl, h1⟩ := r.one
      obtain ⟨p, vs, _, rfl, h2, h3⟩ := lst_ok sim h1 hn
      exact ⟨_, _, rfl, .inl ⟨vs, SqL.of h2, rfl⟩, w.ok sim (rv_int.2 (by rw [h3.length]))⟩
    · exact False.elim w
  · exact False.elim w
def rInt3 : List V → Hp → VK → Prop := fun xs H Q => ((∃ i, xs = [.int i] ∧ Q (.int i) H) ∨ ∃ k, xs = [.bl k] ∧ Q (.int (if k then 1 else 0)) H) ∨ ∃ a n, xs = [.str a] ∧ PySem.intText? a = some n ∧ a.length ≤ 640 ∧ Q (.int n) H
theorem cr_int : CallR X (.type "int") rInt3 := call_int1.or call_int_str
theorem o_int : OC X rInt3 intM := by
  intro x S m H v Q E sim r w
  unfold intM at w
  split at w
  · obtain ⟨v1, rfl, h1⟩ := r.one
    rw [rv_int.1 h1]
    exact .inl (.inl ⟨_, rfl, w.ok sim (rv_int.2 rfl)⟩)
  · obtain ⟨v1, rfl, h1⟩ := r.one
    rw [rv_bl.1 h1]
    exact .inl (.inr ⟨_, rfl, w.ok sim (rv_int.2 rfl)⟩)
  · rename_i a
    obtain ⟨v1, rfl, h1⟩ := r.one
    rw [rv_str.1 h1]
    cases hn : PySem.intText? a with
    | none => rw [hn] at w; exact False.elim w
    | some n =>
      rw [hn] at w
      dsimp only at w
      split at w
      · rename_i hl
        exact .inr ⟨a, n, rfl, hn, hl, w.ok sim (rv_int.2 rfl)⟩
      · exact False.elim w
  · exact False.elim w
theorem tyN_ok {K : PySem.W.Frag} {mg : Str → Option Value} {m : List Addr} {H : Hp} {S : Sto} (s : Sim K mg m S H) {w : W} {v : V} {t : String} (r : RV K mg m H w v) (h : tyN S w = some t) : TyX K H v (.type t) := by
  cases w with
  | non => cases h; rw [rv_non.1 r]; exact .base .non
  | bl b => cases h; rw [rv_bl.1 r]; exact .base (.bl b)
  | int b => cases h; rw [rv_int.1 r]; exact .base (.int b)
  | str b => cases h; rw [rv_str.1 r]; exact .base (.str b)
  | tup xs =>
    cases h
    obtain ⟨p, vs, rfl, h1, h2⟩ := rv_tup.1 r
    rcases h1 with (h1 | ⟨o, h1⟩) | ⟨o, its, n, h1, h2, _⟩
    · exact .base (.tup h1)
    · exact .fTuple h1
    · exact .kTuple h1 h2
  | fl xs =>
    cases h
    unfold RV at r
    obtain ⟨p, vs, rfl, h1, h2⟩ := r
    rcases h1 with ⟨o, h1⟩ | ⟨o, its, n, h1, h2, _⟩
    · exact .base (.frz h1)
    · exact .kList h1 h2
  | ref n =>
    unfold tyN at h
    dsimp only at h
    unfold RV at r
    obtain ⟨a, h4, rfl⟩ := r
    split at h
    · rename_i xs hn
      cases h
      obtain ⟨a', h1, vs, h2, h3⟩ := s.at hn
      rw [h4] at h1; cases h1
      exact .base (.lst h2)
    · rename_i xs hn
      cases h
      obtain ⟨a', h1, vs, h2, h3⟩ := s.at hn
      rw [h4] at h1; cases h1
      exact .base (.dK h2)
    · rename_i xs hn
      cases h
      obtain ⟨a', h1, vs, h2, h3⟩ := s.at hn
      rw [h4] at h1; cases h1
      exact .base (.dT h2)
    · cases h
  | _ => cases h
theorem o_isi : OC X (rIsi X.K) isiM := by
  intro x S m H v Q E sim r w
  unfold isiM at w
  split at w
  · rename_i y n
    obtain ⟨v1, v2, rfl, h1, h2⟩ := r.two
    unfold RV at h2
    subst h2
    try dsimp only at w
    cases ht : tyN S y with
    | none => rw [ht] at w; exact False.elim w
    | some t =>
      rw [ht] at w
      dsimp only at w
      cases hk : kitB t n with
      | none => rw [hk] at w; exact False.elim w
      | some b =>
        rw [hk] at w
        exact ⟨v1, .ty n, .type t, .type n, b, rfl, .ty n, tyN_ok sim h1 ht, kit_ty hk, w.ok sim (rv_bl.2 rfl)⟩
  · exact False.elim w
/-! ### methods of built-in types -/
theorem tyM_ok {K : PySem.W.Frag} {mg : Str → Option Value} {m : List Addr} {H : Hp} {S : Sto} (s : Sim K mg m S H) {w : W} {v : V} {T : String} (r : RV K mg m H w v) (h : tyM T w S = true) : tyV K T v H := by
  cases w with
  | str b => rw [rv_str.1 r]; exact beq_iff_eq.mp h
  | int b => rw [rv_int.1 r]; exact beq_iff_eq.mp h
  | fl xs =>
    unfold RV at r
    obtain ⟨p, vs, rfl, h1, h2⟩ := r
    exact .inl ⟨beq_iff_eq.mp h, vs, h1.sq⟩
  | ref n =>
    unfold tyM at h
    dsimp only at h
    unfold RV at r
    obtain ⟨a, h4, rfl⟩ := r
    split at h
    · rename_i xs hn
      obtain ⟨a', h1, vs, h2, h3⟩ := s.at hn
      rw [h4] at h1; cases h1
      exact .inl ⟨beq_iff_eq.mp h, vs, SqL.of h2⟩
    · rename_i xs hn
      obtain ⟨a', h1, vs, h2, h3⟩ := s.at hn
      rw [h4] at h1; cases h1
      exact .inr (.inr (.inl ⟨beq_iff_eq.mp h, .inl ⟨vs, h2⟩⟩))
    · rename_i xs hn
      obtain ⟨a', h1, vs, h2, h3⟩ := s.at hn
      rw [h4] at h1; cases h1
      exact .inr (.inr (.inl ⟨beq_iff_eq.mp h, .inr ⟨vs, h2⟩⟩))
    · cases h
  | _ => cases h
def OM (X : Cx) (r : V → List V → Hp → VK → Prop) (f : W → List W → M W) : Prop := ∀ x xs S m H v vs Q E, Sim X.K X.mg m S H → RV X.K X.mg m H x v → RVs X.K X.mg m H xs vs → WG X.K X.mg (RV X.K X.mg) (f x xs S) m H Q E → r v vs H Q
variable {C : Cc} {a b e o : Expr} {es : List Expr} {fa fb fo : Exp} {fr : Arg} {pos p2 apos cpos : Pos} {name : Str} {T id : String} {r : V → List V → Hp → VK → Prop} {f : W → List W → M W}
theorem se_m0 (hm : MtR X id r) (hf : OM X r f) (pa : PlainAttrs T) (slot : Slot T name id) (hty : typeOf (.builtin id) = pure (.type "method_descriptor")) (ho : SE X C o fo)
    (hbase : attributeBase o name X.env (eval o X.env) = eval o X.env := by rfl) (hline : (apos.endLine == cpos.line) = true := by rfl) : SE X C (.Call (.Attribute o name apos) [] [] cpos) (eM T f fo aNil) := by
  refine PE.imp (pe_bm0 pa slot hty hm ho hbase hline) fun s' H Q h => ?_
  refine tG.bind h fun m1 S1 s H1 x v z s1 l1 r1 w1 => ?_
  split at w1
  · rename_i ht
    exact ⟨tyM_ok s1 r1 ht, hf x [] S1 m1 H1 v [] Q _ s1 r1 .nil w1⟩
  · exact False.elim w1
theorem se_m (hm : MtR X id r) (hf : OM X r f) (pa : PlainAttrs T) (slot : Slot T name id) (hty : typeOf (.builtin id) = pure (.type "method_descriptor")) (ho : SE X C o fo) (ha : SA X C (e :: es) fr)
    (hbase : attributeBase o name X.env (eval o X.env) = eval o X.env := by rfl)
    (hfew : ((backTo cpos (starEach (e :: es) X.env)).all (fun x => !x.1) && (backToKw cpos (keywordEach [] X.env)).all (fun x => x.1.isSome)
      && decide ((e :: es).length + ([] : List Keyword).length + (if ([] : List Keyword).isEmpty then 0 else 1) < 30)) = true := by rfl)
    (hline : (apos.endLine == cpos.line) = true := by rfl) (hs : starEach (e :: es) X.env = (false, eval e X.env) :: starEach es X.env := by rfl) (hplain : (backTo cpos (starEach es X.env)).any (·.1) = false := by rfl) :
    SE X C (.Call (.Attribute o name apos) (e :: es) [] cpos) (eM T f fo fr) := by
  refine PE.imp (pe_bm pa slot hty hm ho ha hbase hfew hline hs hplain) fun s' H Q h => ?_
  refine tG.bind h fun m1 S1 s H1 x v z s1 l1 r1 w1 => ?_
  split at w1
  · rename_i ht
    exact ⟨tyM_ok s1 r1 ht, m1, S1, s, z, s1, l1, w1.bind fun ys S2 m2 H2 vs e2 s2 r2 w2 => hf x ys S2 m2 H2 v vs Q _ s2 (r1.mono e2) r2 w2⟩
  · exact False.elim w1
theorem o_append : OM X rAppend appendM := by
  intro x xs S m H v vs Q E sim r1 r2 w
  unfold appendM at w
  split at w
  · try dsimp only at w
    split at w
    · rename_i ys hn
      split at w
      · rename_i hl
        obtain ⟨p, us, h0, rfl, h2, h3⟩ := lst_ok sim r1 hn
        obtain ⟨v1, rfl, h4⟩ := r2.one
        exact ⟨p, us, v1, rfl, rfl, h2, by rw [← h3.length]; exact hl, w.set sim h0 h2 (h3.append (.cons h4 .nil)) (rv_non.2 rfl)⟩
      · exact False.elim w
    · exact False.elim w
  · exact False.elim w
theorem o_pop : OM X rPop popM := by
  intro x xs S m H v vs Q E sim r1 r2 w
  unfold popM at w
  split at w
  · try dsimp only at w
    split at w
    · rename_i ys hn
      split at w
      · rename_i y hy
        obtain ⟨p, us, h0, rfl, h2, h3⟩ := lst_ok sim r1 hn
        obtain ⟨u, h4, h5⟩ := h3.get hy
        exact ⟨p, us, u, rfl, r2.nil_inv, h2, by rw [← h3.length]; exact h4, w.set sim h0 h2 h3.dropLast h5⟩
      · exact False.elim w
    · exact False.elim w
  · exact False.elim w
theorem o_reverse : OM X rReverse reverseM := by
  intro x xs S m H v vs Q E sim r1 r2 w
  unfold reverseM at w
  split at w
  · try dsimp only at w
    split at w
    · rename_i ys hn
      obtain ⟨p, us, h0, rfl, h2, h3⟩ := lst_ok sim r1 hn
      exact ⟨p, us, rfl, r2.nil_inv, h2, w.set sim h0 h2 h3.reverse (rv_non.2 rfl)⟩
    · exact False.elim w
  · exact False.elim w
def rSplit : V → List V → Hp → VK → Prop := fun x xs H Q => ∃ a b, x = .str a ∧ xs = [.str b] ∧ (b.length == 0) = false ∧ a.length + 2 ≤ sizeLine ∧ rNewStrs (Txt.split a b) H Q
theorem m_split : MtR X "str.split" rSplit := mt_split
theorem o_split : OM X rSplit splitM := by
  intro x xs S m H v vs Q E sim r1 r2 w
  unfold splitM at w
  split at w
  · split at w
    · rename_i hc
      obtain ⟨v1, rfl, h4⟩ := r2.one
      refine ⟨_, _, rv_str.1 r1, by rw [rv_str.1 h4], hc.1, hc.2, fun p hp => ?_⟩
      exact w.new sim hp ⟨_, upd_same, RVs.strs⟩
    · exact False.elim w
  · exact False.elim w
theorem strsOf_ok {K : PySem.W.Frag} {mg : Str → Option Value} {m : List Addr} {H : Hp} : ∀ {ws : List W} {vs : List V} {zs : List Str}, RVs K mg m H ws vs → strsOf ws = some zs → vs = zs.map V.str
  | [], _, _, r, h => by cases h; exact r.nil_inv
  | w :: ws, _, _, r, h => by
    obtain ⟨v, vr, rfl, r1, r2⟩ := r.uncons
    cases w with
    | str a =>
      unfold strsOf at h
      cases hs : strsOf ws with
      | none => rw [hs] at h; cases h
      | some ys =>
        rw [hs] at h
        cases h
        rw [rv_str.1 r1, strsOf_ok r2 hs]
        rfl
    | _ => cases h
theorem itemsOf_ok {K : PySem.W.Frag} {mg : Str → Option Value} {m : List Addr} {H : Hp} {S : Sto} (s : Sim K mg m S H) {w : W} {v : V} {xs : List W} (r : RV K mg m H w v) (h : itemsOf S w = some xs) : ∃ a vs, v = .ref a ∧ (SqL K H a vs ∨ SqT K H a vs) ∧ RVs K mg m H xs vs := by
  cases w with
  | tup ys =>
    unfold itemsOf at h
    cases h
    obtain ⟨p, vs, rfl, h1, h2⟩ := rv_tup.1 r
    exact ⟨p, vs, rfl, .inr h1, h2⟩
  | _ =>
    all_goals
      unfold itemsOf at h
      obtain ⟨p, vs, rfl, h1, h2⟩ := getL_ok s r h
      exact ⟨p, vs, rfl, .inl h1, h2⟩
def rJoin (K : PySem.W.Frag) : V → List V → Hp → VK → Prop := fun x xs H Q => ∃ a p, ∃ ys : List Str, x = .str a ∧ xs = [.ref p] ∧ (SqL K H p (ys.map V.str) ∨ SqT K H p (ys.map V.str)) ∧ (ys.map (·.length)).sum + ys.length * a.length ≤ 16777216 ∧ Q (.str (Txt.join a ys)) H
theorem m_join : MtR X "str.join" (rJoin X.K) := mt_join
theorem o_join : OM X (rJoin X.K) joinM := by
  intro x xs S m H v vs Q E sim r1 r2 w
  unfold joinM at w
  split at w
  · try dsimp only at w
    split at w
    · rename_i ws hi
      split at w
      · rename_i zs hz
        split at w
        · rename_i hl
          obtain ⟨v1, rfl, h4⟩ := r2.one
          obtain ⟨p, us, rfl, h5, h6⟩ := itemsOf_ok sim h4 hi
          have e := strsOf_ok h6 hz
          subst e
          exact ⟨_, p, zs, rv_str.1 r1, rfl, h5, hl, w.ok sim (rv_str.2 rfl)⟩
        · exact False.elim w
      · exact False.elim w
    · exact False.elim w
  · exact False.elim w
def rStarts : V → List V → Hp → VK → Prop := fun x xs H Q => ∃ a b, x = .str a ∧ xs = [.str b] ∧ Q (.bl (Txt.startswith a b)) H
def rEnds : V → List V → Hp → VK → Prop := fun x xs H Q => ∃ a b, x = .str a ∧ xs = [.str b] ∧ Q (.bl (Txt.endswith a b)) H
theorem m_starts : MtR X "str.startswith" rStarts := mt_startswith
theorem m_ends : MtR X "str.endswith" rEnds := mt_endswith
theorem o_starts : OM X rStarts startsM := by
  intro x xs S m H v vs Q E sim r1 r2 w
  unfold startsM at w
  split at w
  · obtain ⟨v1, rfl, h4⟩ := r2.one
    exact ⟨_, _, rv_str.1 r1, by rw [rv_str.1 h4], w.ok sim (rv_bl.2 rfl)⟩
  · exact False.elim w
theorem o_ends : OM X rEnds endsM := by
  intro x xs S m H v vs Q E sim r1 r2 w
  unfold endsM at w
  split at w
  · obtain ⟨v1, rfl, h4⟩ := r2.one
    exact ⟨_, _, rv_str.1 r1, by rw [rv_str.1 h4], w.ok sim (rv_bl.2 rfl)⟩
  · exact False.elim w
/-- s.index(t), t stands in s -/
theorem se_indexS (hc : X.calm = true) (tk : Takes X C.Wx) (ho : SE X C o fo) (ha : SA X C (e :: es) fr)
    (hbase : attributeBase o "index" X.env (eval o X.env) = eval o X.env := by rfl)
    (hfew : ((backTo cpos (starEach (e :: es) X.env)).all (fun x => !x.1) && (backToKw cpos (keywordEach [] X.env)).all (fun x => x.1.isSome)
      && decide ((e :: es).length + ([] : List Keyword).length + (if ([] : List Keyword).isEmpty then 0 else 1) < 30)) = true := by rfl)
    (hline : (apos.endLine == cpos.line) = true := by rfl) (hs : starEach (e :: es) X.env = (false, eval e X.env) :: starEach es X.env := by rfl) (hplain : (backTo cpos (starEach es X.env)).any (·.1) = false := by rfl) :
    SE X C (.Call (.Attribute o "index" apos) (e :: es) [] cpos) (eM "str" indexSM fo fr) := by
  refine PE.imp (pe_bmS PySem.F.plainAttrs_str PySem.F.slot_str_index PySem.F.type_str_index (mt_indexX hc tk) ho ha hbase hfew hline hs hplain) fun s' H Q h => ?_
  refine tG.bind h fun m1 S1 s H1 x v z s1 l1 r1 w1 => ?_
  split at w1
  · rename_i ht
    refine ⟨tyM_ok s1 r1 ht, m1, S1, s, z, s1, l1, w1.bind fun ys S2 m2 H2 vs e2 s2 r2 w2 => ?_⟩
    unfold indexSM at w2
    split at w2
    · rename_i a b
      obtain ⟨v1, rfl, h4⟩ := r2.one
      refine ⟨a, b, rv_str.1 (r1.mono e2), by rw [rv_str.1 h4], fun k hk => ?_, fun hk => ?_⟩
      · rw [hk] at w2
        exact w2.ok s2 (rv_int.2 rfl)
      · rw [hk] at w2
        exact False.elim w2
    · exact False.elim w2
  · exact False.elim w1
/-! ### isinstance(e, X) of the exception at hand -/
/-- the exception's class is c; tab says of which classes it is -/
def eIsX (tab : List (Str × Bool)) (c : Str) : Exp := fun _ => match lookX tab c with
  | some b => rt (.bl b)
  | none => bad
/-- tab's answers are those of the class that stands as x -/
def KTab (K : PySem.W.Frag) (mg : Str → Option Value) (tab : List (Str × Bool)) (cv : Value) : Prop := ∀ n b A, lookX tab n = some b → mg n = some (.ref A) → ExcC K A ∧ PySem.W.kitOne K (.ref A) cv = some b
theorem ktab_nil {K : PySem.W.Frag} {mg : Str → Option Value} {c : Value} : KTab K mg [] c := fun _ _ _ h => nomatch h
theorem ktab_cons {K : PySem.W.Frag} {mg : Str → Option Value} {c : Value} {x : Str} {b : Bool} {A : Addr} {tab : List (Str × Bool)} (g : mg x = some (.ref A)) (ec : ExcC K A) (e : PySem.W.kitOne K (.ref A) c = some b) (t : KTab K mg tab c) : KTab K mg ((x, b) :: tab) c := fun y b' A' h hy => by
  unfold lookX at h
  split at h
  · rename_i q
    subst q
    cases h
    rw [g] at hy
    cases hy
    exact ⟨ec, e⟩
  · exact t y b' A' h hy
theorem se_isX {i : Nat} {n : Str} {q A : Addr} {oe : Obj} {pn : List (Addr × Obj)} {c : V} {cv : Value} {tab : List (Str × Bool)} {c0 : Str} {p1 p3 : Pos} (hz : Zc (.ref A) none oe) (hf : ∃ vs, oe.data = .fields vs) (hA : X.mg c0 = some (.ref A)) (ht : KTab X.K X.mg tab cv)
    (hcx : PE (X.suite q ((q, oe) :: pn)) b (tC c)) (hcv : ∀ u, RelV c u → u = cv) (hg : Gl (X.suite q ((q, oe) :: pn)) "isinstance") (hm : X.mg "isinstance" = none)
    (hN : X.N[i]? = some n := by rfl) (hv : Vis X.env.scope n := by first | exact Or.inl rfl | exact Or.inr (Or.inl rfl) | exact Or.inr (Or.inr rfl))
    (hd : (n == ("__debug__" : Str)) = false := by decide) (hcd : (n == ("__classdict__" : Str)) = false := by decide)
    (hs1 : starEach [.Name n p1, b] X.env = (false, eval (.Name n p1) X.env) :: starEach [b] X.env := by rfl) (hs2 : starEach [b] X.env = (false, eval b X.env) :: starEach [] X.env := by rfl) (hpl : (backTo pos (starEach [b] X.env)).any (·.1) = false := by rfl) :
    SE (X.suite q ((q, oe) :: pn)) (cA i q) (.Call (.Name "isinstance" p3) [.Name n p1, b] [] pos) (eIsX tab c0) := by
  have hva : PE (X.suite q ((q, oe) :: pn)) (.Name n p1) (tVar i) := pe_var hN hv hd hcd
  cases hl : lookX tab c0 with
  | none =>
    refine ⟨fun pins sh σ H Q I h => ?_⟩
    obtain ⟨m, S, s, z, sim, sl, w⟩ := h
    unfold eIsX at w
    rw [hl] at w
    exact False.elim w
  | some r =>
    obtain ⟨hE, hk⟩ := ht c0 r A hl hA
    refine PE.imp (pe_callB (call_isE (X := X) hE hz hf) hg hm (by decide +kernel) (pa_cons hva (pa_cons hcx pa_nil hs2) hs1) (by decide) (by decide) hs1 hpl) fun s' H Q h => ?_
    obtain ⟨m, S, s, z, sim, sl, w⟩ := h
    unfold eIsX at w
    rw [hl] at w
    exact ⟨.ref q, z, c, cv, r, rfl, hcv, hk, w.ok sim (rv_bl.2 rfl)⟩
/-- a module's constant, by a fact -/
theorem se_const {x : Str} {w : W} {v : V} (h : ∃ u, X.mg x = some u ∧ RelV v u) (hg : Gl X x) (hr : ∀ m H, RV X.K X.mg m H w v) (hd : (x == ("__debug__" : Str)) = false := by decide) : SE X C (.Name x pos) (eC w) := by
  obtain ⟨u, h1, h2⟩ := h
  exact se_glob hg h1 h2 hr hd
/-! ### facts of classes -/
theorem kitCls_ref {K : PySem.W.Frag} {t : Value} {A : Addr} {r : Bool} (h1 : PySem.W.hasDictIn K A = true) (h2 : PySem.W.typeIn K (.ref A) = some (.type "type")) (h3 : PySem.W.subIn K t (.ref A) = some r) : PySem.W.kitCls K t (.ref A) = some r := by
  obtain ⟨cd, hc, _⟩ := PySem.W.any_some h1
  have e2 : ((PySem.W.clsIn K A).isSome && PySem.W.typeIn K (.ref A) == some (.type "type")) = true := by rw [hc, h2] <;> rfl
  show (if ((PySem.W.clsIn K A).isSome && PySem.W.typeIn K (.ref A) == some (.type "type")) = true then PySem.W.subIn K t (.ref A) else none) = some r
  rw [if_pos e2]
  exact h3
theorem kitCls_ty {K : PySem.W.Frag} {t : Value} {T : String} {r : Bool} (h1 : PySem.W.kitMeta T = true) (h3 : PySem.W.subIn K t (.type T) = some r) : PySem.W.kitCls K t (.type T) = some r := by
  show (if PySem.W.kitMeta T = true then PySem.W.subIn K t (.type T) else none) = some r
  rw [if_pos h1]
  exact h3
theorem kit_sub {K : PySem.W.Frag} {t c : Value} {r : Bool} (h : PySem.W.kitCls K t c = some r) (hb : (t == c) = false ∨ r = true) : PySem.W.kitOne K t c = some r := by
  unfold PySem.W.kitOne
  split
  · rename_i e
    rcases hb with z | z
    · rw [e] at z; cases z
    · rw [z]
  · exact h
theorem exm_kit {K : PySem.W.Frag} {t c : Value} {r : Bool} (h1 : PySem.W.subIn K c (.type "BaseException") = some true) (h : PySem.W.kitCls K t c = some r) : PySem.W.exmOne K t c = some r := by
  unfold PySem.W.exmOne
  rw [h1]
  exact h
/-! ### the end -/
def spLaw (K : PySem.W.Frag) : Sp := fun vs H Q _ => ∃ (a : Addr) (ns : List Int), vs = [.ref a] ∧ SqL K H a (ns.map V.int) ∧ ns.length ≤ 63 ∧ Only H ∧ ∀ H', Q (.bl true) H'
theorem law_end {P : Program} {w : World} {K : PySem.W.Frag} {mg : Str → Option Value} {base : Heap} {k : Nat} {f : Addr} {fd : FuncData} {x : Str} {F : Fn} (G : FnM P w K mg base k f fd [x] F) (h : ∀ ns : List Int, ns.length ≤ 63 → ∃ S, F [.fl (ns.map .int)] [] = .ok (.bl true) S) : FnOk P w K mg base (L2.CX P w) k f fd [x] (spLaw K) := by
  refine FnOk.imp G fun vs H Q E q => ?_
  obtain ⟨a, ns, rfl, hs, hl, ho, hq⟩ := q
  obtain ⟨S, e⟩ := h ns hl
  refine ⟨[], [], [.fl (ns.map .int)], ⟨rfl, List.nodup_nil, fun i o a h => by simp at h⟩, .cons ?_ .nil, rfl, ?_⟩
  · unfold RV
    refine ⟨a, _, rfl, ?_, RVs.ints⟩
    rcases hs with (h1 | ⟨o, h1⟩) | h1
    · rcases ho a with z | ⟨o, xs, z⟩
      · rw [h1] at z; cases z
      · rw [h1] at z; cases z
    · exact .inl ⟨o, h1⟩
    · exact .inr h1
  · rw [e]
    intro m' H' v _ _ r
    rw [rv_bl.1 r]
    exact hq H'
theorem no_exc {P : Program} {w : World} {H : Hp} {s : Shared} {e : Value} {s' : Shared} (h : L2.CX P w [] H s (fun _ _ _ => False) e s') : False := by
  obtain ⟨_, _, _, _, _, _, _, _, _, _, _, _, z⟩ := h
  exact z.elim
end
end Fr

/-! Fr: how a mirror is reckoned: equations for simp -/
namespace Fr
open PySem
def seqK (r : RS) (b : Stm) : RS := match r with
  | .nx s S => b s S
  | r => r
def loopK (r : RS) (k : Stm) : RS := match r with
  | .nx s S => k s S
  | .ct s S => k s S
  | .bk s S => .nx s S
  | r => r
def bdK {α β : Type} (r : Rs α) (k : α → M β) : Rs β := match r with
  | .ok a S => k a S
  | .ex c d S => .ex c d S
  | .bad => .bad
def fnK (r : RS) : Rs W := match r with
  | .rt w S => .ok w S
  | .nx _ S => .ok .non S
  | .ex c d _ S => .ex c d S
  | _ => .bad
section
variable {α β : Type} {c : Prop} [Decidable c]
theorem bd_eq (f : M α) (k : α → M β) (S : Sto) : bd f k S = bdK (f S) k := rfl
theorem bdK_ok (a : α) (S : Sto) (k : α → M β) : bdK (.ok a S) k = k a S := rfl
theorem bdK_ex (x : Str) (d : Option (List (Str × W))) (S : Sto) (k : α → M β) : bdK (.ex x d S) k = .ex x d S := rfl
theorem bdK_bad (k : α → M β) : bdK .bad k = .bad := rfl
theorem bdK_ite (x y : Rs α) (k : α → M β) : bdK (if c then x else y) k = if c then bdK x k else bdK y k := by split <;> rfl
theorem rt_eq (a : α) (S : Sto) : rt a S = .ok a S := rfl
theorem bad_eq (S : Sto) : (bad : M α) S = .bad := rfl
theorem app_ite (f g : M α) (S : Sto) : (if c then f else g) S = if c then f S else g S := by split <;> rfl
theorem onE_ok (a : α) (S : Sto) (s : Sl) (k : α → Sto → RS) : onE (.ok a S) s k = k a S := rfl
theorem onE_ex (x : Str) (d : Option (List (Str × W))) (S : Sto) (s : Sl) (k : α → Sto → RS) : onE (.ex x d S) s k = .ex x d s S := rfl
theorem onE_bad (s : Sl) (k : α → Sto → RS) : onE .bad s k = .bad := rfl
theorem onE_ite (x y : Rs α) (s : Sl) (k : α → Sto → RS) : onE (if c then x else y) s k = if c then onE x s k else onE y s k := by split <;> rfl
theorem seq_eq (a b : Stm) (s : Sl) (S : Sto) : sSeq a b s S = seqK (a s S) b := by unfold sSeq seqK; cases a s S <;> rfl
theorem seqK_nx (s : Sl) (S : Sto) (b : Stm) : seqK (.nx s S) b = b s S := rfl
theorem seqK_rt (w : W) (S : Sto) (b : Stm) : seqK (.rt w S) b = .rt w S := rfl
theorem seqK_bk (s : Sl) (S : Sto) (b : Stm) : seqK (.bk s S) b = .bk s S := rfl
theorem seqK_ct (s : Sl) (S : Sto) (b : Stm) : seqK (.ct s S) b = .ct s S := rfl
theorem seqK_ex (x : Str) (d : Option (List (Str × W))) (s : Sl) (S : Sto) (b : Stm) : seqK (.ex x d s S) b = .ex x d s S := rfl
theorem seqK_bad (b : Stm) : seqK .bad b = .bad := rfl
theorem seqK_ite (x y : RS) (b : Stm) : seqK (if c then x else y) b = if c then seqK x b else seqK y b := by split <;> rfl
theorem loopK_nx (s : Sl) (S : Sto) (b : Stm) : loopK (.nx s S) b = b s S := rfl
theorem loopK_ct (s : Sl) (S : Sto) (b : Stm) : loopK (.ct s S) b = b s S := rfl
theorem loopK_bk (s : Sl) (S : Sto) (b : Stm) : loopK (.bk s S) b = .nx s S := rfl
theorem loopK_rt (w : W) (S : Sto) (b : Stm) : loopK (.rt w S) b = .rt w S := rfl
theorem loopK_ex (x : Str) (d : Option (List (Str × W))) (s : Sl) (S : Sto) (b : Stm) : loopK (.ex x d s S) b = .ex x d s S := rfl
theorem loopK_bad (b : Stm) : loopK .bad b = .bad := rfl
theorem loopK_ite (x y : RS) (b : Stm) : loopK (if c then x else y) b = if c then loopK x b else loopK y b := by split <;> rfl
theorem fn_eq (n : Nat) (b : Stm) (ws : List W) (S : Sto) : fnM n b ws S = fnK (b (ws.map some ++ List.replicate (n - ws.length) none) S) := rfl
theorem fnK_rt (w : W) (S : Sto) : fnK (.rt w S) = .ok w S := rfl
theorem fnK_nx (s : Sl) (S : Sto) : fnK (.nx s S) = .ok .non S := rfl
theorem fnK_ex (x : Str) (d : Option (List (Str × W))) (s : Sl) (S : Sto) : fnK (.ex x d s S) = .ex x d S := rfl
theorem fnK_ite (x y : RS) : fnK (if c then x else y) = if c then fnK x else fnK y := by split <;> rfl
end
/-! expressions -/
theorem eVar_0 (w : W) (s : Sl) (S : Sto) : eVar 0 (some w :: s) S = .ok w S := rfl
theorem eVar_s (i : Nat) (o : Option W) (s : Sl) (S : Sto) : eVar (i + 1) (o :: s) S = eVar i s S := rfl
theorem eC_eq (w : W) (s : Sl) (S : Sto) : eC w s S = .ok w S := rfl
theorem eOp_eq (o : W → W → M W) (a b : Exp) (s : Sl) (S : Sto) : eOp o a b s S = bdK (a s S) (fun x => bd (b s) (o x)) := rfl
theorem eUn_eq (o : W → M W) (a : Exp) (s : Sl) (S : Sto) : eUn o a s S = bdK (a s S) o := rfl
def boK (k : Bool → M W) (x : W) : M W := match x with
  | .bl b => k b
  | _ => bad
def tbK (x : W) : M Bool := match x with
  | .bl b => rt b
  | _ => bad
theorem eAnd_eq (a b : Exp) (s : Sl) (S : Sto) : eAnd a b s S = bdK (a s S) (boK fun k => if k = true then b s else rt (.bl false)) := by
  unfold eAnd bd bdK
  cases a s S with
  | ok x S' => cases x with
    | bl k => cases k <;> rfl
    | _ => rfl
  | _ => rfl
theorem eOr_eq (a b : Exp) (s : Sl) (S : Sto) : eOr a b s S = bdK (a s S) (boK fun k => if k = true then rt (.bl true) else b s) := by
  unfold eOr bd bdK
  cases a s S with
  | ok x S' => cases x with
    | bl k => cases k <;> rfl
    | _ => rfl
  | _ => rfl
theorem eNot_eq (a : Exp) (s : Sl) (S : Sto) : eNot a s S = bdK (a s S) (boK fun k => rt (.bl !k)) := by
  unfold eNot bd bdK
  cases a s S with
  | ok x S' => cases x with
    | bl k => cases k <;> rfl
    | _ => rfl
  | _ => rfl
theorem boK_bl (k : Bool → M W) (b : Bool) (S : Sto) : boK k (.bl b) S = k b S := rfl
theorem eIf_eq (c : Tst) (a b : Exp) (s : Sl) (S : Sto) : eIf c a b s S = bdK (c s S) (fun k => if k = true then a s else b s) := rfl
theorem eChain_eq (o o' : W → W → M W) (a b c : Exp) (s : Sl) (S : Sto) : eChain o o' a b c s S = bdK (a s S) (fun x => bd (b s) fun y => bd (o x y) (boK fun k => if k = true then bd (c s) (o' y) else rt (.bl false))) := by
  unfold eChain bd bdK
  cases a s S with
  | ok x S1 =>
    simp only
    cases b s S1 with
    | ok y S2 =>
      simp only
      cases o x y S2 with
      | ok z S3 => cases z with
        | bl k => cases k <;> rfl
        | _ => rfl
      | _ => rfl
    | _ => rfl
  | _ => rfl
theorem tB_eq (a : Exp) (s : Sl) (S : Sto) : tB a s S = bdK (a s S) tbK := by
  unfold tB bd bdK
  cases a s S with
  | ok x S' => cases x <;> rfl
  | _ => rfl
theorem tbK_bl (b : Bool) (S : Sto) : tbK (.bl b) S = .ok b S := rfl
theorem tAnd_eq (a b : Tst) (s : Sl) (S : Sto) : tAnd a b s S = bdK (a s S) (fun k => if k = true then b s else rt false) := rfl
theorem tOr_eq (a b : Tst) (s : Sl) (S : Sto) : tOr a b s S = bdK (a s S) (fun k => if k = true then rt true else b s) := rfl
theorem tNot_eq (a : Tst) (s : Sl) (S : Sto) : tNot a s S = bdK (a s S) (fun k => rt !k) := rfl
theorem aNil_eq (s : Sl) (S : Sto) : aNil s S = .ok [] S := rfl
theorem aCons_eq (a : Exp) (r : Arg) (s : Sl) (S : Sto) : aCons a r s S = bdK (a s S) (fun x => bd (r s) fun xs => rt (x :: xs)) := rfl
theorem eTup_eq (a : Arg) (s : Sl) (S : Sto) : eTup a s S = bdK (a s S) (fun xs => if xs.length ≤ sizeLine then rt (.tup xs) else bad) := rfl
theorem eLst_eq (a : Arg) (s : Sl) (S : Sto) : eLst a s S = bdK (a s S) (fun xs => if xs.length ≤ sizeLine then new (.lst xs) else bad) := rfl
theorem new_eq (o : Ob) (S : Sto) : new o S = .ok (.ref S.length) (S ++ [o]) := rfl
theorem eB_eq (f : List W → M W) (a : Arg) (s : Sl) (S : Sto) : eB f a s S = bdK (a s S) f := rfl
theorem eCall_eq (f : Fn) (a : Arg) (s : Sl) (S : Sto) : eCall f a s S = bdK (a s S) f := rfl
theorem eM_eq (T : String) (f : W → List W → M W) (o : Exp) (a : Arg) (s : Sl) (S : Sto) : eM T f o a s S = bdK (o s S) (fun x S => if tyM T x S = true then bdK (a s S) (f x) else .bad) := rfl
theorem eSl_eq (f : Exp) (lo hi : Sl → M (Option Int)) (s : Sl) (S : Sto) : eSl f lo hi s S = bdK (f s S) (fun x => bd (lo s) fun l => bd (hi s) fun u => slM x l u) := rfl
theorem oNone_eq (s : Sl) (S : Sto) : oNone s S = .ok none S := rfl
def intK (x : W) : M (Option Int) := match x with
  | .int i => rt (some i)
  | _ => bad
theorem oSome_eq (f : Exp) (s : Sl) (S : Sto) : oSome f s S = bdK (f s S) intK := by
  unfold oSome bd bdK
  cases f s S with
  | ok x S' => cases x <;> rfl
  | _ => rfl
theorem intK_int (i : Int) (S : Sto) : intK (.int i) S = .ok (some i) S := rfl
/-! statements -/
theorem sNil_eq (s : Sl) (S : Sto) : sNil s S = .nx s S := rfl
theorem sExpr_eq (e : Exp) (s : Sl) (S : Sto) : sExpr e s S = onE (e s S) s (fun _ S' => .nx s S') := rfl
theorem sRet_eq (e : Exp) (s : Sl) (S : Sto) : sRet e s S = onE (e s S) s (fun w S' => .rt w S') := rfl
theorem sRetN_eq (s : Sl) (S : Sto) : sRetN s S = .rt .non S := rfl
theorem sIf_eq (c : Tst) (a b : Stm) (s : Sl) (S : Sto) : sIf c a b s S = onE (c s S) s (fun k S' => if k = true then a s S' else b s S') := rfl
theorem sAsg_eq (i : Nat) (e : Exp) (s : Sl) (S : Sto) : sAsg i e s S = onE (e s S) s (fun w S' => .nx (s.set i (some w)) S') := rfl
theorem sRaise_eq (c : Str) (s : Sl) (S : Sto) : sRaise c s S = .ex c none s S := rfl
theorem sBreak_eq (s : Sl) (S : Sto) : sBreak s S = .bk s S := rfl
theorem sCont_eq (s : Sl) (S : Sto) : sCont s S = .ct s S := rfl
def srcK (g : Tgt) (b : Stm) (s : Sl) (src : Src) (S : Sto) : RS := match src with
  | .vals xs => forV g b xs s S
  | .live n => match S[n]? with
    | some (.lst ys) => forL g b n ys.length ys.length s S
    | _ => .bad
theorem sFor_eq (it : Sl → M Src) (g : Tgt) (b : Stm) (s : Sl) (S : Sto) : sFor it g b s S = onE (it s S) s (srcK g b s) := rfl
theorem srcK_vals (g : Tgt) (b : Stm) (s : Sl) (xs : List W) (S : Sto) : srcK g b s (.vals xs) S = forV g b xs s S := rfl
theorem srcK_live (g : Tgt) (b : Stm) (s : Sl) (n : Nat) (ys : List W) (S : Sto) (h : S[n]? = some (.lst ys)) : srcK g b s (.live n) S = forL g b n ys.length ys.length s S := by
  unfold srcK
  simp only [h]
theorem iE_eq (f : Exp) (s : Sl) (S : Sto) : iE f s S = bdK (f s S) srcOf := rfl
theorem srcOf_tup (xs : List W) (S : Sto) : srcOf (.tup xs) S = .ok (.vals xs) S := rfl
theorem srcOf_fl (xs : List W) (S : Sto) : srcOf (.fl xs) S = .ok (.vals xs) S := rfl
theorem srcOf_str (x : Str) (S : Sto) : srcOf (.str x) S = .ok (.vals (x.cps.toList.map chr1)) S := rfl
theorem srcOf_ref (n : Nat) (ys : List W) (S : Sto) (h : S[n]? = some (.lst ys)) : srcOf (.ref n) S = .ok (.live n) S := by
  unfold srcOf
  simp only [h]
theorem iR1_int (f : Arg) (s : Sl) (S S' : Sto) (j : Int) (h : f s S = .ok [.int j] S') (h1 : -(2 ^ 62) ≤ j ∧ j < 2 ^ 62) : iR1 f s S = .ok (.vals (rng 0 j.toNat)) S' := by
  unfold iR1 bd
  rw [h]
  simp only [if_pos h1]
  rfl
theorem iR2_int (f : Arg) (s : Sl) (S S' : Sto) (i j : Int) (h : f s S = .ok [.int i, .int j] S') (h1 : (-(2 ^ 62) ≤ i ∧ i < 2 ^ 62) ∧ -(2 ^ 62) ≤ j ∧ j < 2 ^ 62) : iR2 f s S = .ok (.vals (rng i (j - i).toNat)) S' := by
  unfold iR2 bd
  rw [h]
  simp only [if_pos h1]
  rfl
theorem forV_nil (g : Tgt) (b : Stm) (s : Sl) (S : Sto) : forV g b [] s S = .nx s S := rfl
theorem forV_gN (i : Nat) (b : Stm) (x : W) (xs : List W) (s : Sl) (S : Sto) : forV (gN i) b (x :: xs) s S = loopK (b (s.set i (some x)) S) (forV (gN i) b xs) := by
  unfold forV gN loopK
  simp only <;> (cases b (s.set i (some x)) S <;> rfl)
theorem forL_gN (i a n : Nat) (b : Stm) (k : Nat) (x : W) (ys : List W) (s : Sl) (S : Sto) (h : S[a]? = some (.lst ys)) (hn : ys.length = n) (hx : ys[n - (k + 1)]? = some x) :
    forL (gN i) b a n (k + 1) s S = loopK (b (s.set i (some x)) S) (forL (gN i) b a n k) := by
  unfold forL gN loopK
  simp only [h, hn, if_true, hx] <;> (cases b (s.set i (some x)) S <;> rfl)
theorem forL_0 (i a n : Nat) (g : Tgt) (b : Stm) (ys : List W) (s : Sl) (S : Sto) (h : S[a]? = some (.lst ys)) (hn : ys.length = n) : forL g b a n 0 s S = .nx s S := by
  unfold forL
  simp only [h, hn, if_true]
/-! operations -/
theorem addM_int (i j : Int) (S : Sto) : addM (.int i) (.int j) S = .ok (.int (i + j)) S := rfl
theorem addM_str (a b : Str) (S : Sto) : addM (.str a) (.str b) S = if a.length + b.length ≤ sizeLine then .ok (.str (a ++ b)) S else .bad := by unfold addM; simp only <;> (split <;> rfl)
theorem addM_tup (a b : List W) (S : Sto) : addM (.tup a) (.tup b) S = if a.length + b.length ≤ sizeLine then .ok (.tup (a ++ b)) S else .bad := by unfold addM; simp only <;> (split <;> rfl)
theorem subM_int (i j : Int) (S : Sto) : subM (.int i) (.int j) S = .ok (.int (i - j)) S := rfl
theorem mulM_int (i j : Int) (S : Sto) : mulM (.int i) (.int j) S = if (-(2 ^ 64) < i ∧ i < 2 ^ 64) ∨ (-(2 ^ 64) < j ∧ j < 2 ^ 64) then .ok (.int (i * j)) S else .bad := by unfold mulM; simp only <;> (split <;> rfl)
theorem mulM_str (a : Str) (n : Int) (S : Sto) : mulM (.str a) (.int n) S = if 2 ≤ n ∧ n ≤ 1000 ∧ 1 ≤ a.length ∧ a.length ≤ 1000 then .ok (.str (strRep a n.toNat)) S else .bad := by unfold mulM; simp only <;> (split <;> rfl)
theorem modM_int (i j : Int) (S : Sto) : modM (.int i) (.int j) S = if j ≠ 0 then .ok (.int (i.fmod j)) S else .bad := by unfold modM; simp only <;> (split <;> rfl)
theorem fdivM_int (i j : Int) (S : Sto) : fdivM (.int i) (.int j) S = if j ≠ 0 ∧ j.natAbs < 1073741824 then .ok (.int (i.fdiv j)) S else .bad := by unfold fdivM; simp only <;> (split <;> rfl)
theorem powM_int (i j : Int) (S : Sto) : powM (.int i) (.int j) S = if 0 ≤ j ∧ j ≤ 1000000 ∧ i.natAbs < 2 ^ 64 then .ok (.int (i ^ j.toNat)) S else .bad := by unfold powM; simp only <;> (split <;> rfl)
theorem negM_int (i : Int) (S : Sto) : negM (.int i) S = .ok (.int (-i)) S := rfl
theorem ltM_int (i j : Int) (S : Sto) : ltM (.int i) (.int j) S = .ok (.bl (decide (i < j))) S := rfl
theorem leM_int (i j : Int) (S : Sto) : leM (.int i) (.int j) S = .ok (.bl (decide (i ≤ j))) S := rfl
theorem gtM_int (i j : Int) (S : Sto) : gtM (.int i) (.int j) S = .ok (.bl (decide (j < i))) S := rfl
theorem geM_int (i j : Int) (S : Sto) : geM (.int i) (.int j) S = .ok (.bl (decide (j ≤ i))) S := rfl
theorem eqM_int (i j : Int) (S : Sto) : eqM (.int i) (.int j) S = .ok (.bl (decide (i = j))) S := rfl
theorem eqM_str (i j : Str) (S : Sto) : eqM (.str i) (.str j) S = .ok (.bl (decide (i = j))) S := rfl
theorem eqM_bl (i j : Bool) (S : Sto) : eqM (.bl i) (.bl j) S = .ok (.bl (decide (i = j))) S := rfl
theorem neM_int (i j : Int) (S : Sto) : neM (.int i) (.int j) S = .ok (.bl !(decide (i = j))) S := rfl
theorem neM_str (i j : Str) (S : Sto) : neM (.str i) (.str j) S = .ok (.bl !(decide (i = j))) S := rfl
theorem neM_bl (i j : Bool) (S : Sto) : neM (.bl i) (.bl j) S = .ok (.bl !(decide (i = j))) S := rfl
theorem isM_non (S : Sto) : isM .non .non S = .ok (.bl true) S := rfl
theorem isM_int (i : Int) (S : Sto) : isM (.int i) .non S = .ok (.bl false) S := rfl
theorem isM_str (i : Str) (S : Sto) : isM (.str i) .non S = .ok (.bl false) S := rfl
theorem isM_bl (i : Bool) (S : Sto) : isM (.bl i) .non S = .ok (.bl false) S := rfl
theorem isM_tup (i : List W) (S : Sto) : isM (.tup i) .non S = .ok (.bl false) S := rfl
theorem isM_ref (i : Nat) (S : Sto) : isM (.ref i) .non S = .ok (.bl false) S := rfl
theorem inM_str (i j : Str) (S : Sto) : inM (.str i) (.str j) S = .ok (.bl (subS i j)) S := rfl
theorem notInM_str (i j : Str) (S : Sto) : notInM (.str i) (.str j) S = .ok (.bl !(subS i j)) S := rfl
theorem lenM_str (z : Str) (S : Sto) : lenM [.str z] S = if z.length ≤ sizeLine then .ok (.int z.length) S else .bad := by unfold lenM; simp only <;> (split <;> rfl)
theorem lenM_tup (z : List W) (S : Sto) : lenM [.tup z] S = .ok (.int z.length) S := rfl
theorem lenM_fl (z : List W) (S : Sto) : lenM [.fl z] S = .ok (.int z.length) S := rfl
theorem lenM_ref (n : Nat) (ys : List W) (S : Sto) (h : S[n]? = some (.lst ys)) : lenM [.ref n] S = .ok (.int ys.length) S := by unfold lenM; simp only [h]
theorem intM_int (i : Int) (S : Sto) : intM [.int i] S = .ok (.int i) S := rfl
theorem appendM_ref (n : Nat) (xs : List W) (y : W) (S : Sto) (h : S[n]? = some (.lst xs)) (hl : xs.length < sizeLine) : appendM (.ref n) [y] S = .ok .non (S.set n (.lst (xs ++ [y]))) := by unfold appendM; simp only [h, hl, if_true]
theorem popM_ref (n : Nat) (xs : List W) (y : W) (S : Sto) (h : S[n]? = some (.lst (xs ++ [y]))) : popM (.ref n) [] S = .ok y (S.set n (.lst xs)) := by
  unfold popM
  simp only [h, List.length_append, List.length_cons, List.length_nil]
  rw [List.getElem?_append_right (by omega)]
  simp
theorem reverseM_ref (n : Nat) (xs : List W) (S : Sto) (h : S[n]? = some (.lst xs)) : reverseM (.ref n) [] S = .ok .non (S.set n (.lst xs.reverse)) := by unfold reverseM; simp only [h]
theorem tyM_ref (n : Nat) (xs : List W) (S : Sto) (h : S[n]? = some (.lst xs)) : tyM "list" (.ref n) S = true := by unfold tyM; simp only [h]; rfl
theorem tyM_str (x : Str) (S : Sto) : tyM "str" (.str x) S = true := rfl
theorem ixM_tup (xs : List W) (i : Int) (w : W) (S : Sto) (h : L2.atI xs i = some w) : ixM (.tup xs) (.int i) S = .ok w S := by unfold ixM; simp only [h]; rfl
theorem ixM_str (x : Str) (i : Int) (c : Nat) (S : Sto) (hl : x.length ≤ sizeLine) (h : L2.atI x.cps.toList i = some c) : ixM (.str x) (.int i) S = .ok (chr1 c) S := by unfold ixM; simp only [h, hl, if_true]; rfl
theorem ixM_ref (n : Nat) (xs : List W) (i : Int) (w : W) (S : Sto) (hn : S[n]? = some (.lst xs)) (h : L2.atI xs i = some w) : ixM (.ref n) (.int i) S = .ok w S := by unfold ixM; simp only [hn, h]
theorem slM_str (z : Str) (lo hi : Option Int) (S : Sto) : slM (.str z) lo hi S = if z.length ≤ sizeLine then .ok (.str (L2.cutS z lo hi)) S else .bad := by unfold slM; simp only <;> (split <;> rfl)
theorem isiM_eq (x : W) (n t : String) (r : Bool) (S : Sto) (h : tyN S x = some t) (hk : L2.kitB t n = some r) : isiM [x, .ty n] S = .ok (.bl r) S := by unfold isiM; simp only [h, hk]
/-! isinstance -/
def resK (o : Option Bool) (S : Sto) : Rs W := match o with
  | some b => .ok (.bl b) S
  | none => .bad
theorem resK_some (b : Bool) (S : Sto) : resK (some b) S = .ok (.bl b) S := rfl
theorem kb_NoneType_bool : L2.kitB "NoneType" "bool" = some false := by decide +kernel
theorem kb_NoneType_int : L2.kitB "NoneType" "int" = some false := by decide +kernel
theorem kb_NoneType_str : L2.kitB "NoneType" "str" = some false := by decide +kernel
theorem kb_NoneType_tuple : L2.kitB "NoneType" "tuple" = some false := by decide +kernel
theorem kb_NoneType_list : L2.kitB "NoneType" "list" = some false := by decide +kernel
theorem kb_NoneType_dict : L2.kitB "NoneType" "dict" = some false := by decide +kernel
theorem kb_bool_bool : L2.kitB "bool" "bool" = some true := by decide +kernel
theorem kb_bool_int : L2.kitB "bool" "int" = some true := by decide +kernel
theorem kb_bool_str : L2.kitB "bool" "str" = some false := by decide +kernel
theorem kb_bool_tuple : L2.kitB "bool" "tuple" = some false := by decide +kernel
theorem kb_bool_list : L2.kitB "bool" "list" = some false := by decide +kernel
theorem kb_bool_dict : L2.kitB "bool" "dict" = some false := by decide +kernel
theorem kb_int_bool : L2.kitB "int" "bool" = some false := by decide +kernel
theorem kb_int_int : L2.kitB "int" "int" = some true := by decide +kernel
theorem kb_int_str : L2.kitB "int" "str" = some false := by decide +kernel
theorem kb_int_tuple : L2.kitB "int" "tuple" = some false := by decide +kernel
theorem kb_int_list : L2.kitB "int" "list" = some false := by decide +kernel
theorem kb_int_dict : L2.kitB "int" "dict" = some false := by decide +kernel
theorem kb_str_bool : L2.kitB "str" "bool" = some false := by decide +kernel
theorem kb_str_int : L2.kitB "str" "int" = some false := by decide +kernel
theorem kb_str_str : L2.kitB "str" "str" = some true := by decide +kernel
theorem kb_str_tuple : L2.kitB "str" "tuple" = some false := by decide +kernel
theorem kb_str_list : L2.kitB "str" "list" = some false := by decide +kernel
theorem kb_str_dict : L2.kitB "str" "dict" = some false := by decide +kernel
theorem kb_tuple_bool : L2.kitB "tuple" "bool" = some false := by decide +kernel
theorem kb_tuple_int : L2.kitB "tuple" "int" = some false := by decide +kernel
theorem kb_tuple_str : L2.kitB "tuple" "str" = some false := by decide +kernel
theorem kb_tuple_tuple : L2.kitB "tuple" "tuple" = some true := by decide +kernel
theorem kb_tuple_list : L2.kitB "tuple" "list" = some false := by decide +kernel
theorem kb_tuple_dict : L2.kitB "tuple" "dict" = some false := by decide +kernel
theorem kb_list_bool : L2.kitB "list" "bool" = some false := by decide +kernel
theorem kb_list_int : L2.kitB "list" "int" = some false := by decide +kernel
theorem kb_list_str : L2.kitB "list" "str" = some false := by decide +kernel
theorem kb_list_tuple : L2.kitB "list" "tuple" = some false := by decide +kernel
theorem kb_list_list : L2.kitB "list" "list" = some true := by decide +kernel
theorem kb_list_dict : L2.kitB "list" "dict" = some false := by decide +kernel
theorem kb_dict_bool : L2.kitB "dict" "bool" = some false := by decide +kernel
theorem kb_dict_int : L2.kitB "dict" "int" = some false := by decide +kernel
theorem kb_dict_str : L2.kitB "dict" "str" = some false := by decide +kernel
theorem kb_dict_tuple : L2.kitB "dict" "tuple" = some false := by decide +kernel
theorem kb_dict_list : L2.kitB "dict" "list" = some false := by decide +kernel
theorem kb_dict_dict : L2.kitB "dict" "dict" = some true := by decide +kernel
theorem isiM_non (n : String) (S : Sto) : isiM [.non, .ty n] S = resK (L2.kitB "NoneType" n) S := by unfold isiM resK; simp only [tyN] <;> (split <;> simp_all)
theorem isiM_bl (b : Bool) (n : String) (S : Sto) : isiM [.bl b, .ty n] S = resK (L2.kitB "bool" n) S := by unfold isiM resK; simp only [tyN] <;> (split <;> simp_all)
theorem isiM_int (b : Int) (n : String) (S : Sto) : isiM [.int b, .ty n] S = resK (L2.kitB "int" n) S := by unfold isiM resK; simp only [tyN] <;> (split <;> simp_all)
theorem isiM_str (b : Str) (n : String) (S : Sto) : isiM [.str b, .ty n] S = resK (L2.kitB "str" n) S := by unfold isiM resK; simp only [tyN] <;> (split <;> simp_all)
theorem isiM_tup (b : List W) (n : String) (S : Sto) : isiM [.tup b, .ty n] S = resK (L2.kitB "tuple" n) S := by unfold isiM resK; simp only [tyN] <;> (split <;> simp_all)
theorem isiM_ref (k : Nat) (xs : List W) (n : String) (S : Sto) (h : S[k]? = some (.lst xs)) : isiM [.ref k, .ty n] S = resK (L2.kitB "list" n) S := by unfold isiM resK; simp only [tyN, h] <;> (split <;> simp_all)
/-! ### the store -/
def obL {α : Type} (o : Option Ob) (k : List W → Rs α) : Rs α := match o with
  | some (.lst xs) => k xs
  | _ => .bad
def obS (o : Option Ob) (k : List W → RS) : RS := match o with
  | some (.lst xs) => k xs
  | _ => .bad
def optK {α β : Type} (o : Option α) (k : α → Rs β) : Rs β := match o with
  | some x => k x
  | none => .bad
def isLst (o : Option Ob) : Bool := match o with
  | some (.lst _) => true
  | _ => false
theorem obL_lst {α : Type} (xs : List W) (k : List W → Rs α) : obL (some (.lst xs)) k = k xs := rfl
theorem obS_lst (xs : List W) (k : List W → RS) : obS (some (.lst xs)) k = k xs := rfl
theorem optK_some {α β : Type} (x : α) (k : α → Rs β) : optK (some x) k = k x := rfl
theorem isLst_lst (xs : List W) : isLst (some (.lst xs)) = true := rfl
theorem appendM_eq (n : Nat) (y : W) (S : Sto) : appendM (.ref n) [y] S = obL S[n]? fun xs => if xs.length < sizeLine then .ok .non (S.set n (.lst (xs ++ [y]))) else .bad := by
  unfold appendM obL; simp only <;> (cases S[n]? with
  | none => rfl
  | some o => cases o <;> rfl)
theorem popM_eq (n : Nat) (S : Sto) : popM (.ref n) [] S = obL S[n]? fun xs => optK xs[xs.length - 1]? fun y => .ok y (S.set n (.lst xs.dropLast)) := by
  unfold popM obL optK; simp only <;> (cases S[n]? with
  | none => rfl
  | some o => cases o with
    | lst xs => simp only; cases xs[xs.length - 1]? <;> rfl
    | _ => rfl)
theorem reverseM_eq (n : Nat) (S : Sto) : reverseM (.ref n) [] S = obL S[n]? fun xs => .ok .non (S.set n (.lst xs.reverse)) := by
  unfold reverseM obL; simp only <;> (cases S[n]? with
  | none => rfl
  | some o => cases o <;> rfl)
theorem lenM_refE (n : Nat) (S : Sto) : lenM [.ref n] S = obL S[n]? fun ys => .ok (.int ys.length) S := by
  unfold lenM obL; simp only <;> (cases S[n]? with
  | none => rfl
  | some o => cases o <;> rfl)
theorem ixM_refE (n : Nat) (i : Int) (S : Sto) : ixM (.ref n) (.int i) S = obL S[n]? fun xs => optK (L2.atI xs i) fun w => .ok w S := by
  unfold ixM obL optK; simp only <;> (cases S[n]? with
  | none => rfl
  | some o => cases o with
    | lst xs => simp only; cases L2.atI xs i <;> rfl
    | _ => rfl)
theorem ixM_tupE (xs : List W) (i : Int) (S : Sto) : ixM (.tup xs) (.int i) S = optK (L2.atI xs i) fun w => .ok w S := by
  unfold ixM optK; simp only <;> (cases L2.atI xs i <;> rfl)
theorem ixM_flE (xs : List W) (i : Int) (S : Sto) : ixM (.fl xs) (.int i) S = optK (L2.atI xs i) fun w => .ok w S := by
  unfold ixM optK; simp only <;> (cases L2.atI xs i <;> rfl)
theorem ixM_strE (x : Str) (i : Int) (S : Sto) : ixM (.str x) (.int i) S = if x.length ≤ sizeLine then optK (L2.atI x.cps.toList i) fun c => .ok (chr1 c) S else .bad := by
  unfold ixM optK; simp only
  by_cases h : x.length ≤ sizeLine
  · rw [if_pos h, if_pos h]; cases L2.atI x.cps.toList i <;> rfl
  · rw [if_neg h, if_neg h]; rfl
theorem srcOf_refE (n : Nat) (S : Sto) : srcOf (.ref n) S = obL S[n]? fun _ => .ok (.live n) S := by
  unfold srcOf obL; simp only <;> (cases S[n]? with
  | none => rfl
  | some o => cases o <;> rfl)
theorem srcK_liveE (g : Tgt) (b : Stm) (s : Sl) (n : Nat) (S : Sto) : srcK g b s (.live n) S = obS S[n]? fun ys => forL g b n ys.length ys.length s S := by
  unfold srcK obS; simp only
theorem tyM_refE (n : Nat) (S : Sto) : tyM "list" (.ref n) S = isLst S[n]? := by
  unfold tyM isLst; simp only <;> (cases S[n]? with
  | none => rfl
  | some o => cases o <;> rfl)
theorem isiM_refE (k : Nat) (n : String) (S : Sto) (xs : List W) (h : S[k]? = some (.lst xs)) : isiM [.ref k, .ty n] S = resK (L2.kitB "list" n) S := isiM_ref k xs n S h
theorem get_last (S : Sto) (o : Ob) : (S ++ [o])[S.length]? = some o := by simp
theorem set_last (S : Sto) (o o' : Ob) : (S ++ [o]).set S.length o' = S ++ [o'] := by simp [List.set_append]
theorem get_old {S : Sto} {n : Nat} {o : Ob} (r : Sto) (h : S[n]? = some o) : (S ++ r)[n]? = some o := by
  rw [List.getElem?_append_left (List.getElem?_eq_some_iff.mp h).1]; exact h
theorem set_get {S : Sto} {n : Nat} {o o' : Ob} (h : S[n]? = some o) : (S.set n o')[n]? = some o' := List.getElem?_set_self (List.getElem?_eq_some_iff.mp h).1
/-! tries -/
def tryK (r : RS) (tab : List (Str × Bool)) (su : Str → Option (List (Str × W)) → Stm) : RS := match r with
  | .ex c d s1 S1 => match lookX tab c with
    | some true => noEx (su c d s1 S1)
    | some false => .ex c d s1 S1
    | none => .bad
  | r => r
theorem sTry_eq (b : Stm) (tab : List (Str × Bool)) (su : Str → Option (List (Str × W)) → Stm) (s : Sl) (S : Sto) : sTry b tab su s S = tryK (b s S) tab su := by
  unfold sTry tryK; first | rfl | (cases b s S <;> rfl)
theorem tryK_nx (s : Sl) (S : Sto) (tab : List (Str × Bool)) (su : Str → Option (List (Str × W)) → Stm) : tryK (.nx s S) tab su = .nx s S := rfl
theorem tryK_rt (w : W) (S : Sto) (tab : List (Str × Bool)) (su : Str → Option (List (Str × W)) → Stm) : tryK (.rt w S) tab su = .rt w S := rfl
theorem tryK_yes (c : Str) (d : Option (List (Str × W))) (s : Sl) (S : Sto) (tab : List (Str × Bool)) (su : Str → Option (List (Str × W)) → Stm) (h : lookX tab c = some true) : tryK (.ex c d s S) tab su = noEx (su c d s S) := by
  unfold tryK; simp only [h]
theorem tryK_no (c : Str) (d : Option (List (Str × W))) (s : Sl) (S : Sto) (tab : List (Str × Bool)) (su : Str → Option (List (Str × W)) → Stm) (h : lookX tab c = some false) : tryK (.ex c d s S) tab su = .ex c d s S := by
  unfold tryK; simp only [h]
theorem noEx_nx (s : Sl) (S : Sto) : noEx (.nx s S) = .nx s S := rfl
theorem noEx_rt (w : W) (S : Sto) : noEx (.rt w S) = .rt w S := rfl
def tryAsK (i : Nat) (r : RS) (tab : List (Str × Bool)) (su : Str → Option (List (Str × W)) → Stm) : RS := match r with
  | .ex c d s1 S1 => match lookX tab c with
    | some true => if i < s1.length then dropS i (noEx (su c d (s1.set i none) S1)) else .bad
    | some false => .ex c d s1 S1
    | none => .bad
  | r => r
theorem sTryAs_eq (i : Nat) (b : Stm) (tab : List (Str × Bool)) (su : Str → Option (List (Str × W)) → Stm) (s : Sl) (S : Sto) : sTryAs i b tab su s S = tryAsK i (b s S) tab su := by
  unfold sTryAs tryAsK; first | rfl | (cases b s S <;> rfl)
theorem tryAsK_nx (i : Nat) (s : Sl) (S : Sto) (tab : List (Str × Bool)) (su : Str → Option (List (Str × W)) → Stm) : tryAsK i (.nx s S) tab su = .nx s S := rfl
theorem tryAsK_rt (i : Nat) (w : W) (S : Sto) (tab : List (Str × Bool)) (su : Str → Option (List (Str × W)) → Stm) : tryAsK i (.rt w S) tab su = .rt w S := rfl
theorem tryAsK_yes (i : Nat) (c : Str) (d : Option (List (Str × W))) (s : Sl) (S : Sto) (tab : List (Str × Bool)) (su : Str → Option (List (Str × W)) → Stm) (h : lookX tab c = some true) : tryAsK i (.ex c d s S) tab su = if i < s.length then dropS i (noEx (su c d (s.set i none) S)) else .bad := by
  unfold tryAsK; simp only [h]
theorem dropS_nx (i : Nat) (s : Sl) (S : Sto) : dropS i (.nx s S) = .nx (s.set i none) S := rfl
theorem dropS_rt (i : Nat) (w : W) (S : Sto) : dropS i (.rt w S) = .rt w S := rfl
theorem onNone_none (s : Stm) : onNone none s = s := rfl
theorem eIsX_eq (tab : List (Str × Bool)) (c : Str) (b : Bool) (s : Sl) (S : Sto) (h : lookX tab c = some b) : eIsX tab c s S = .ok (.bl b) S := by unfold eIsX; simp only [h]; rfl
theorem chr1_eq (c : Nat) : chr1 c = .str ⟨#[c]⟩ := rfl
theorem subS_one (c : Nat) (z : Str) : subS ⟨#[c]⟩ z = decide (c ∈ z.cps.toList) := PySem.StrLaws.found_one z c
def rngK (xs : List W) : M Src := match xs with
  | [.int j] => if -(2 ^ 62) ≤ j ∧ j < 2 ^ 62 then rt (.vals (rng 0 j.toNat)) else bad
  | _ => bad
def rngK2 (xs : List W) : M Src := match xs with
  | [.int i, .int j] => if (-(2 ^ 62) ≤ i ∧ i < 2 ^ 62) ∧ -(2 ^ 62) ≤ j ∧ j < 2 ^ 62 then rt (.vals (rng i (j - i).toNat)) else bad
  | _ => bad
theorem iR1_eq (f : Arg) (s : Sl) (S : Sto) : iR1 f s S = bdK (f s S) rngK := rfl
theorem iR2_eq (f : Arg) (s : Sl) (S : Sto) : iR2 f s S = bdK (f s S) rngK2 := rfl
theorem rngK_1 (j : Int) (S : Sto) : rngK [.int j] S = if -(2 ^ 62) ≤ j ∧ j < 2 ^ 62 then .ok (.vals (rng 0 j.toNat)) S else .bad := by unfold rngK; simp only <;> (split <;> rfl)
theorem rngK2_2 (i j : Int) (S : Sto) : rngK2 [.int i, .int j] S = if (-(2 ^ 62) ≤ i ∧ i < 2 ^ 62) ∧ -(2 ^ 62) ≤ j ∧ j < 2 ^ 62 then .ok (.vals (rng i (j - i).toNat)) S else .bad := by unfold rngK2; simp only <;> (split <;> rfl)
theorem indexSM_eq (a b : Str) (S : Sto) : indexSM (.str a) [.str b] S = optK (Txt.index0 a b) fun k => .ok (.int k) S := by
  unfold indexSM optK; simp only <;> (cases Txt.index0 a b <;> rfl)
theorem startsM_str (a b : Str) (S : Sto) : startsM (.str a) [.str b] S = .ok (.bl (Txt.startswith a b)) S := rfl
theorem endsM_str (a b : Str) (S : Sto) : endsM (.str a) [.str b] S = .ok (.bl (Txt.endswith a b)) S := rfl
theorem splitM_str (a b : Str) (S : Sto) : splitM (.str a) [.str b] S = if (b.length == 0) = false ∧ a.length + 2 ≤ sizeLine then .ok (.ref S.length) (S ++ [.lst ((Txt.split a b).map .str)]) else .bad := by
  unfold splitM; simp only <;> (split <;> rfl)
theorem strsOf_map : ∀ zs : List Str, strsOf (zs.map .str) = some zs
  | [] => rfl
  | z :: zs => by simp only [List.map_cons, strsOf, strsOf_map zs]; rfl
theorem joinM_ref (a : Str) (n : Nat) (zs : List Str) (S : Sto) (h : S[n]? = some (.lst (zs.map .str))) : joinM (.str a) [.ref n] S = if (zs.map (·.length)).sum + zs.length * a.length ≤ 16777216 then .ok (.str (Txt.join a zs)) S else .bad := by
  unfold joinM itemsOf getL; simp only [h, strsOf_map]
end Fr

/-! Fr: what the laws' own helpers do: the draws -/
namespace Fr
open PySem
local macro_rules | `(tactic| walk_at "ev") => `(tactic| simp only [bd_eq, bdK_ok, bdK_ex, bdK_bad, bdK_ite, rt_eq, bad_eq, app_ite, onE_ok, onE_ex, onE_bad, onE_ite, seq_eq, seqK_nx, seqK_rt, seqK_bk, seqK_ct, seqK_ex, seqK_bad, seqK_ite, loopK_nx, loopK_ct, loopK_bk, loopK_rt, loopK_ex, loopK_bad, loopK_ite, fn_eq, fnK_rt, fnK_nx, fnK_ex, fnK_ite, eVar_0, eVar_s, eC_eq, eOp_eq, eUn_eq, eAnd_eq, eOr_eq, eNot_eq, boK_bl, eIf_eq, eChain_eq, tB_eq, tbK_bl, tAnd_eq, tOr_eq, tNot_eq, aNil_eq, aCons_eq, eTup_eq, eLst_eq, new_eq, eB_eq, eCall_eq, eM_eq, eSl_eq, oNone_eq, oSome_eq, intK_int, sNil_eq, sExpr_eq, sRet_eq, sRetN_eq, sIf_eq, sAsg_eq, sRaise_eq, sBreak_eq, sCont_eq, sFor_eq, srcK_vals, iE_eq, srcOf_tup, srcOf_fl, srcOf_str, forV_nil, addM_int, addM_str, addM_tup, subM_int, mulM_int, mulM_str, modM_int, fdivM_int, powM_int, negM_int, ltM_int, leM_int, gtM_int, geM_int, eqM_int, eqM_str, eqM_bl, neM_int, neM_str, neM_bl, isM_non, isM_int, isM_str, isM_bl, isM_tup, isM_ref, inM_str, notInM_str, lenM_str, lenM_tup, lenM_fl, intM_int, tyM_str, slM_str, isiM_non, isiM_bl, isiM_int, isiM_str, isiM_tup, resK_some, obL_lst, obS_lst, optK_some, isLst_lst, appendM_eq, popM_eq, reverseM_eq, lenM_refE, ixM_refE, ixM_tupE, ixM_flE, ixM_strE, srcOf_refE, srcK_liveE, tyM_refE, get_last, set_last, sTry_eq, tryK_nx, tryK_rt, noEx_nx, noEx_rt, sTryAs_eq, tryAsK_nx, tryAsK_rt, dropS_nx, dropS_rt, onNone_none, kb_NoneType_bool, kb_NoneType_int, kb_NoneType_str, kb_NoneType_tuple, kb_NoneType_list, kb_NoneType_dict, kb_bool_bool, kb_bool_int, kb_bool_str, kb_bool_tuple, kb_bool_list, kb_bool_dict, kb_int_bool, kb_int_int, kb_int_str, kb_int_tuple, kb_int_list, kb_int_dict, kb_str_bool, kb_str_int, kb_str_str, kb_str_tuple, kb_str_list, kb_str_dict, kb_tuple_bool, kb_tuple_int, kb_tuple_str, kb_tuple_tuple, kb_tuple_list, kb_tuple_dict, kb_list_bool, kb_list_int, kb_list_str, kb_list_tuple, kb_list_list, kb_list_dict, kb_dict_bool, kb_dict_int, kb_dict_str, kb_dict_tuple, kb_dict_list, kb_dict_dict, List.map_cons, List.map_nil, List.cons_append, List.nil_append, List.length_cons, List.length_nil, Nat.reduceAdd, Nat.reduceSub, List.replicate, List.set_cons_zero, List.set_cons_succ, Bool.false_eq_true, Bool.not_true, Bool.not_false, if_true, if_false, reduceIte, decide_eq_true_eq, Bool.not_eq_true', decide_eq_false_iff_not, not_true_eq_false, not_false_eq_true, ite_not, decide_true, decide_false, eq_self_iff_true, iR1_eq, iR2_eq, rngK_1, rngK2_2, chr1_eq, subS_one, and_self, true_and, and_true, false_and, and_false, or_true, true_or, or_self, false_or, or_false, ne_eq])
local macro_rules | `(tactic| walk_at "evh") => `(tactic| simp only [bd_eq, bdK_ok, bdK_ex, bdK_bad, bdK_ite, rt_eq, bad_eq, app_ite, onE_ok, onE_ex, onE_bad, onE_ite, seq_eq, seqK_nx, seqK_rt, seqK_bk, seqK_ct, seqK_ex, seqK_bad, seqK_ite, loopK_nx, loopK_ct, loopK_bk, loopK_rt, loopK_ex, loopK_bad, loopK_ite, fn_eq, fnK_rt, fnK_nx, fnK_ex, fnK_ite, eVar_0, eVar_s, eC_eq, eOp_eq, eUn_eq, eAnd_eq, eOr_eq, eNot_eq, boK_bl, eIf_eq, eChain_eq, tB_eq, tbK_bl, tAnd_eq, tOr_eq, tNot_eq, aNil_eq, aCons_eq, eTup_eq, eLst_eq, new_eq, eB_eq, eCall_eq, eM_eq, eSl_eq, oNone_eq, oSome_eq, intK_int, sNil_eq, sExpr_eq, sRet_eq, sRetN_eq, sIf_eq, sAsg_eq, sRaise_eq, sBreak_eq, sCont_eq, sFor_eq, srcK_vals, iE_eq, srcOf_tup, srcOf_fl, srcOf_str, forV_nil, addM_int, addM_str, addM_tup, subM_int, mulM_int, mulM_str, modM_int, fdivM_int, powM_int, negM_int, ltM_int, leM_int, gtM_int, geM_int, eqM_int, eqM_str, eqM_bl, neM_int, neM_str, neM_bl, isM_non, isM_int, isM_str, isM_bl, isM_tup, isM_ref, inM_str, notInM_str, lenM_str, lenM_tup, lenM_fl, intM_int, tyM_str, slM_str, isiM_non, isiM_bl, isiM_int, isiM_str, isiM_tup, resK_some, obL_lst, obS_lst, optK_some, isLst_lst, appendM_eq, popM_eq, reverseM_eq, lenM_refE, ixM_refE, ixM_tupE, ixM_flE, ixM_strE, srcOf_refE, srcK_liveE, tyM_refE, get_last, set_last, sTry_eq, tryK_nx, tryK_rt, noEx_nx, noEx_rt, sTryAs_eq, tryAsK_nx, tryAsK_rt, dropS_nx, dropS_rt, onNone_none, kb_NoneType_bool, kb_NoneType_int, kb_NoneType_str, kb_NoneType_tuple, kb_NoneType_list, kb_NoneType_dict, kb_bool_bool, kb_bool_int, kb_bool_str, kb_bool_tuple, kb_bool_list, kb_bool_dict, kb_int_bool, kb_int_int, kb_int_str, kb_int_tuple, kb_int_list, kb_int_dict, kb_str_bool, kb_str_int, kb_str_str, kb_str_tuple, kb_str_list, kb_str_dict, kb_tuple_bool, kb_tuple_int, kb_tuple_str, kb_tuple_tuple, kb_tuple_list, kb_tuple_dict, kb_list_bool, kb_list_int, kb_list_str, kb_list_tuple, kb_list_list, kb_list_dict, kb_dict_bool, kb_dict_int, kb_dict_str, kb_dict_tuple, kb_dict_list, kb_dict_dict, List.map_cons, List.map_nil, List.cons_append, List.nil_append, List.length_cons, List.length_nil, Nat.reduceAdd, Nat.reduceSub, List.replicate, List.set_cons_zero, List.set_cons_succ, Bool.false_eq_true, Bool.not_true, Bool.not_false, if_true, if_false, reduceIte, decide_eq_true_eq, Bool.not_eq_true', decide_eq_false_iff_not, not_true_eq_false, not_false_eq_true, ite_not, decide_true, decide_false, eq_self_iff_true, iR1_eq, iR2_eq, rngK_1, rngK2_2, chr1_eq, subS_one, and_self, true_and, and_true, false_and, and_false, or_true, true_or, or_self, false_or, or_false, ne_eq, *])

def bDrawsIn : Stm := (sIf (tB (eOp gtM (eVar 3) (eC (.int 0)))) (sSeq (sExpr (eM "list" appendM (eVar 1) (aCons (eOp modM (eB intM (aCons (eVar 3) aNil)) (eC (.int 1000))) aNil)))
  (sAsg 3 (eOp fdivM (eVar 3) (eC (.int 1000))))) sNil)
def bDrawsIn2 : Stm := (sSeq (sAsg 3 (eOp modM (eB intM (aCons (eOp mulM (eVar 3) (eC (.int 69621))) aNil)) (eC (.int 2147483629))))
  (sExpr (eM "list" appendM (eVar 1) (aCons (eOp modM (eB intM (aCons (eOp fdivM (eVar 3) (eC (.int 7))) aNil)) (eC (.int 1000))) aNil))))
def bDrawsTurn : Stm := (sSeq (sAsg 3 (eB intM (aCons (eVar 2) aNil)))
  (sIf (tB (eChain leM ltM (eC (.int 0)) (eVar 3) (eC (.int 1000)))) (sExpr (eM "list" appendM (eVar 1) (aCons (eVar 3) aNil))) (sIf (tB (eOp geM (eVar 3) (eOp powM (eC (.int 10)) (eC (.int 18))))) (sFor (iR1 (aCons (eC (.int 60)) aNil)) (gN 4) bDrawsIn) (sSeq (sAsg 3 (eOp modM (eB intM (aCons (eOp mulM (eVar 3) (eC (.int 48271))) aNil)) (eC (.int 2147483647))))
  (sFor (iR1 (aCons (eC (.int 4)) aNil)) (gN 4) bDrawsIn2)))))
def bDraws : Stm :=
  (sSeq (sAsg 1 (eLst aNil))
  (sSeq (sFor (iE (eVar 0)) (gN 2) bDrawsTurn)
  (sSeq (sExpr (eM "list" reverseM (eVar 1) aNil))
  (sRet (eVar 1)))))
def bDraw : Stm :=
  (sSeq (sIf (tB (eOp eqM (eB lenM (aCons (eVar 0) aNil)) (eC (.int 0)))) (sRet (eC (.int 0))) sNil)
  (sRet (eOp modM (eB intM (aCons (eM "list" popM (eVar 0) aNil) aNil)) (eVar 1))))
def mDraw : Fn := fnM 2 bDraw
def bPick : Stm :=
  (sRet (eOp ixM (eVar 1) (eCall mDraw (aCons (eVar 0) (aCons (eB lenM (aCons (eVar 1) aNil)) aNil)))))
def mPick : Fn := fnM 2 bPick
abbrev oI (zs : List Int) : Ob := .lst (zs.map W.int)
theorem oI_app (zs : List Int) (z : Int) : zs.map W.int ++ [W.int z] = (zs ++ [z]).map W.int := by simp
theorem big : (2 : Nat) ^ 24 = 16777216 := by decide
theorem sizeLine_n : sizeLine = 16777216 := sizeLine_eq
/-- the loop of 60 -/
theorem drawsIn_run (S : Sto) (f v : W) : ∀ (xs : List W) (r : Int) (c : Option W) (zs : List Int), zs.length + xs.length < 16777216 →
    ∃ r' c' zs', zs'.length ≤ zs.length + xs.length ∧ forV (gN 4) bDrawsIn xs [some f, some (.ref S.length), some v, some (.int r), c] (S ++ [oI zs]) = .nx [some f, some (.ref S.length), some v, some (.int r'), c'] (S ++ [oI zs'])
  | [], r, c, zs, h => ⟨r, c, zs, by simp, rfl⟩
  | x :: xs, r, c, zs, h => by
    rw [forV_gN]
    by_cases hr : 0 < r
    · have e : bDrawsIn [some f, some (.ref S.length), some v, some (.int r), some x] (S ++ [oI zs]) = .nx [some f, some (.ref S.length), some v, some (.int (r.fdiv 1000)), some x] (S ++ [oI (zs ++ [r.fmod 1000])]) := by
        unfold bDrawsIn
        have hl : (zs.map W.int).length < sizeLine := by rw [List.length_map, sizeLine_n]; simp at h; omega
        walk_at "evh"
        simp
      obtain ⟨r', c', zs', h1, h2⟩ := drawsIn_run S f v xs (r.fdiv 1000) (some x) (zs ++ [r.fmod 1000]) (by simp at h ⊢; omega)
      refine ⟨r', c', zs', by simp at h1 ⊢; omega, ?_⟩
      show loopK (bDrawsIn [some f, some (.ref S.length), some v, some (.int r), some x] (S ++ [oI zs])) _ = _
      rw [e]
      exact h2
    · have e : bDrawsIn [some f, some (.ref S.length), some v, some (.int r), some x] (S ++ [oI zs]) = .nx [some f, some (.ref S.length), some v, some (.int r), some x] (S ++ [oI zs]) := by
        unfold bDrawsIn
        walk_at "evh"
      obtain ⟨r', c', zs', h1, h2⟩ := drawsIn_run S f v xs r (some x) zs (by simp at h ⊢; omega)
      refine ⟨r', c', zs', by simp; omega, ?_⟩
      show loopK (bDrawsIn [some f, some (.ref S.length), some v, some (.int r), some x] (S ++ [oI zs])) _ = _
      rw [e]
      exact h2
theorem drawsIn2_run (S : Sto) (f v : W) : ∀ (xs : List W) (r : Int) (c : Option W) (zs : List Int), zs.length + xs.length < 16777216 →
    ∃ r' c' zs', zs'.length ≤ zs.length + xs.length ∧ forV (gN 4) bDrawsIn2 xs [some f, some (.ref S.length), some v, some (.int r), c] (S ++ [oI zs]) = .nx [some f, some (.ref S.length), some v, some (.int r'), c'] (S ++ [oI zs'])
  | [], r, c, zs, h => ⟨r, c, zs, by simp, rfl⟩
  | x :: xs, r, c, zs, h => by
    rw [forV_gN]
    have e : ∃ r1 z, bDrawsIn2 [some f, some (.ref S.length), some v, some (.int r), some x] (S ++ [oI zs]) = .nx [some f, some (.ref S.length), some v, some (.int r1), some x] (S ++ [oI (zs ++ [z])]) := by
      refine ⟨(r * 69621).fmod 2147483629, (((r * 69621).fmod 2147483629).fdiv 7).fmod 1000, ?_⟩
      unfold bDrawsIn2
      have hl : (zs.map W.int).length < sizeLine := by rw [List.length_map, sizeLine_n]; simp at h; omega
      have hm : (-(2 ^ 64) < r ∧ r < 2 ^ 64) ∨ ((-(2 ^ 64) : Int) < 69621 ∧ (69621 : Int) < 2 ^ 64) := .inr ⟨by decide, by decide⟩
      walk_at "evh"
      simp
    obtain ⟨r1, z, e⟩ := e
    obtain ⟨r', c', zs', h1, h2⟩ := drawsIn2_run S f v xs r1 (some x) (zs ++ [z]) (by simp at h ⊢; omega)
    refine ⟨r', c', zs', by simp at h1 ⊢; omega, ?_⟩
    show loopK (bDrawsIn2 [some f, some (.ref S.length), some v, some (.int r), some x] (S ++ [oI zs])) _ = _
    rw [e]
    exact h2
theorem rng_len (lo : Int) (n : Nat) : (rng lo n).length = n := by simp [rng]
theorem iR1_60 (s : Sl) (S : Sto) : iR1 (aCons (eC (.int 60)) aNil) s S = .ok (.vals (rng 0 60)) S := iR1_int _ s S S 60 rfl ⟨by decide, by decide⟩
theorem iR1_4 (s : Sl) (S : Sto) : iR1 (aCons (eC (.int 4)) aNil) s S = .ok (.vals (rng 0 4)) S := iR1_int _ s S S 4 rfl ⟨by decide, by decide⟩
theorem drawsTurn_run (S : Sto) (f : W) (v : Int) (b c : Option W) (zs : List Int) (h : zs.length + 60 < 16777216) :
    ∃ b' c' zs', zs'.length ≤ zs.length + 60 ∧ bDrawsTurn [some f, some (.ref S.length), some (.int v), b, c] (S ++ [oI zs]) = .nx [some f, some (.ref S.length), some (.int v), b', c'] (S ++ [oI zs']) := by
  have hl : (zs.map W.int).length < sizeLine := by rw [List.length_map, sizeLine_n]; omega
  unfold bDrawsTurn
  by_cases h1 : 0 ≤ v
  · by_cases h2 : v < 1000
    · refine ⟨some (.int v), c, zs ++ [v], by simp, ?_⟩
      walk_at "evh"
      simp
    · by_cases h3 : (1000000000000000000 : Int) ≤ v
      · obtain ⟨r', c', zs', q1, q2⟩ := drawsIn_run S f (.int v) (rng 0 60) v c zs (by rw [rng_len]; omega)
        refine ⟨some (.int r'), c', zs', by rw [rng_len] at q1; omega, ?_⟩
        have e : ((10 : Int) ^ (18 : Int).toNat ≤ v) := by simpa using h3
        have e2 : (0 : Int) ≤ 18 ∧ (18 : Int) ≤ 1000000 ∧ (10 : Int).natAbs < 2 ^ 64 := by decide
        have i60 : (-(2 ^ 62) : Int) ≤ 60 ∧ (60 : Int) < 2 ^ 62 := by decide
        have j60 : (60 : Int).toNat = 60 := rfl
        walk_at "evh"
      · obtain ⟨r', c', zs', q1, q2⟩ := drawsIn2_run S f (.int v) (rng 0 4) ((v * 48271).fmod 2147483647) c zs (by rw [rng_len]; omega)
        refine ⟨some (.int r'), c', zs', by rw [rng_len] at q1; omega, ?_⟩
        have e : ¬ ((10 : Int) ^ (18 : Int).toNat ≤ v) := by simpa using h3
        have e2 : (0 : Int) ≤ 18 ∧ (18 : Int) ≤ 1000000 ∧ (10 : Int).natAbs < 2 ^ 64 := by decide
        have hm : (-(2 ^ 64) < v ∧ v < 2 ^ 64) ∨ ((-(2 ^ 64) : Int) < 48271 ∧ (48271 : Int) < 2 ^ 64) := .inr ⟨by decide, by decide⟩
        have h7 : (2147483647 : Int) ≠ 0 := by decide
        have i4 : (-(2 ^ 62) : Int) ≤ 4 ∧ (4 : Int) < 2 ^ 62 := by decide
        have j4 : (4 : Int).toNat = 4 := rfl
        walk_at "evh"
  · obtain ⟨r', c', zs', q1, q2⟩ := drawsIn2_run S f (.int v) (rng 0 4) ((v * 48271).fmod 2147483647) c zs (by rw [rng_len]; omega)
    refine ⟨some (.int r'), c', zs', by rw [rng_len] at q1; omega, ?_⟩
    have h3 : ¬ (1000000000000000000 : Int) ≤ v := by omega
    have e : ¬ ((10 : Int) ^ (18 : Int).toNat ≤ v) := by simpa using h3
    have e2 : (0 : Int) ≤ 18 ∧ (18 : Int) ≤ 1000000 ∧ (10 : Int).natAbs < 2 ^ 64 := by decide
    have hm : (-(2 ^ 64) < v ∧ v < 2 ^ 64) ∨ ((-(2 ^ 64) : Int) < 48271 ∧ (48271 : Int) < 2 ^ 64) := .inr ⟨by decide, by decide⟩
    have h7 : (2147483647 : Int) ≠ 0 := by decide
    have i4 : (-(2 ^ 62) : Int) ≤ 4 ∧ (4 : Int) < 2 ^ 62 := by decide
    have j4 : (4 : Int).toNat = 4 := rfl
    walk_at "evh"
theorem drawsLoop_run (S : Sto) (f : W) : ∀ (ns : List Int) (a b c : Option W) (zs : List Int), zs.length + 60 * ns.length < 16777216 →
    ∃ a' b' c' zs', zs'.length ≤ zs.length + 60 * ns.length ∧ forV (gN 2) bDrawsTurn (ns.map W.int) [some f, some (.ref S.length), a, b, c] (S ++ [oI zs]) = .nx [some f, some (.ref S.length), a', b', c'] (S ++ [oI zs'])
  | [], a, b, c, zs, h => ⟨a, b, c, zs, by simp, rfl⟩
  | n :: ns, a, b, c, zs, h => by
    rw [List.map_cons, forV_gN]
    simp only [List.length_cons] at h
    obtain ⟨b1, c1, zs1, h1, e1⟩ := drawsTurn_run S f n b c zs (by omega)
    obtain ⟨a', b', c', zs', h2, e2⟩ := drawsLoop_run S f ns (some (.int n)) b1 c1 zs1 (by omega)
    refine ⟨a', b', c', zs', by simp only [List.length_cons]; omega, ?_⟩
    show loopK (bDrawsTurn [some f, some (.ref S.length), some (.int n), b, c] (S ++ [oI zs])) _ = _
    rw [e1]
    exact e2
/-- the draws: a new list of ints -/
theorem draws_run (ns : List Int) (h : ns.length ≤ 63) (S : Sto) : ∃ zs, fnM 5 bDraws [.fl (ns.map W.int)] S = .ok (.ref S.length) (S ++ [oI zs]) := by
  obtain ⟨a', b', c', zs', h2, e2⟩ := drawsLoop_run S (.fl (ns.map W.int)) ns none none none [] (by simp; omega)
  refine ⟨zs'.reverse, ?_⟩
  unfold bDraws
  have h0 : 0 ≤ sizeLine := Nat.zero_le _
  have e3 : forV (gN 2) bDrawsTurn (ns.map W.int) [some (.fl (ns.map W.int)), some (.ref S.length), none, none, none] (S ++ [.lst []]) = .nx [some (.fl (ns.map W.int)), some (.ref S.length), a', b', c'] (S ++ [oI zs']) := e2
  walk_at "evh"
  simp
theorem set_same {S : Sto} {d : Nat} {o : Ob} (h : S[d]? = some o) : S.set d o = S := by
  apply List.ext_getElem?
  intro i
  by_cases hi : d = i
  · subst hi; rw [set_get h, h]
  · rw [List.getElem?_set_ne hi]
/-- one draw -/
theorem draw_run (S : Sto) (d : Nat) (zs : List Int) (n : Int) (hd : S[d]? = some (oI zs)) (hn : 0 < n) : ∃ v zs', (0 ≤ v ∧ v < n) ∧ mDraw [.ref d, .int n] S = .ok (.int v) (S.set d (oI zs')) := by
  cases hz : zs.reverse with
  | nil =>
    have e : zs = [] := by simpa using hz
    subst e
    refine ⟨0, [], ⟨by omega, hn⟩, ?_⟩
    have e2 : S.set d (oI []) = S := set_same hd
    unfold mDraw bDraw
    have e3 : (([] : List W).length : Int) = 0 := rfl
    walk_at "evh"
    simp
  | cons z r =>
    have e : zs = r.reverse ++ [z] := by
      have := congrArg List.reverse hz
      simpa using this
    subst e
    clear hz
    refine ⟨z.fmod n, r.reverse, ⟨Int.fmod_nonneg_of_pos _ hn, Int.fmod_lt_of_pos _ hn⟩, ?_⟩
    have hn0 : n ≠ 0 := by omega
    have e0 : ¬ (((List.map W.int (r.reverse ++ [z])).length : Int) = 0) := by simp; omega
    have e1 : (List.map W.int (r.reverse ++ [z]))[(List.map W.int (r.reverse ++ [z])).length - 1]? = some (W.int z) := by simp
    have e2 : (List.map W.int (r.reverse ++ [z])).dropLast = r.reverse.map W.int := by simp
    unfold mDraw bDraw
    walk_at "evh"
theorem atI_in {α : Type} {xs : List α} {i : Int} (h0 : 0 ≤ i) (h1 : i < xs.length) : ∃ w, w ∈ xs ∧ L2.atI xs i = some w := by
  have hi : i.toNat < xs.length := by omega
  refine ⟨xs[i.toNat], List.getElem_mem hi, ?_⟩
  have e := L2.atI_nat (xs := xs) (j := i.toNat) (v := xs[i.toNat]) (List.getElem?_eq_getElem hi)
  rwa [Int.toNat_of_nonneg h0] at e
theorem pick_list (S : Sto) (d t : Nat) (zs : List Int) (xs : List W) (hd : S[d]? = some (oI zs)) (ht : S[t]? = some (.lst xs)) (hne : d ≠ t) (h0 : 0 < xs.length) :
    ∃ w zs', w ∈ xs ∧ mPick [.ref d, .ref t] S = .ok w (S.set d (oI zs')) := by
  obtain ⟨v, zs', ⟨h1, h2⟩, e⟩ := draw_run S d zs (xs.length : Int) hd (by omega)
  obtain ⟨w, hw, ea⟩ := atI_in h1 h2
  refine ⟨w, zs', hw, ?_⟩
  have e3 : (S.set d (oI zs'))[t]? = some (.lst xs) := by rw [List.getElem?_set_ne hne]; exact ht
  clear h1 h2
  unfold mPick bPick
  walk_at "evh"
theorem pick_str (S : Sto) (d : Nat) (zs : List Int) (x : Str) (hd : S[d]? = some (oI zs)) (h0 : 0 < x.length) (hl : x.length ≤ sizeLine) :
    ∃ c zs', c ∈ x.cps.toList ∧ mPick [.ref d, .str x] S = .ok (chr1 c) (S.set d (oI zs')) := by
  obtain ⟨v, zs', ⟨h1, h2⟩, e⟩ := draw_run S d zs (x.length : Int) hd (by omega)
  obtain ⟨w, hw, ea⟩ := atI_in (xs := x.cps.toList) h1 (by simpa [Str.length] using h2)
  refine ⟨w, zs', hw, ?_⟩
  clear h1 h2
  unfold mPick bPick
  walk_at "evh"
/-- the draws stand at d; the other old objects are as they were -/
structure Dr (d : Nat) (S S' : Sto) : Prop where
  dr : ∃ zs, S'[d]? = some (oI zs)
  le : S.length ≤ S'.length
  old : ∀ i, i ≠ d → i < S.length → S'[i]? = S[i]?
abbrev HasD (d : Nat) (S : Sto) : Prop := ∃ zs, S[d]? = some (oI zs)
theorem Dr.refl {d : Nat} {S : Sto} (h : HasD d S) : Dr d S S := ⟨h, Nat.le_refl _, fun _ _ _ => rfl⟩
theorem Dr.trans {d : Nat} {S S1 S2 : Sto} (a : Dr d S S1) (b : Dr d S1 S2) : Dr d S S2 :=
  ⟨b.dr, Nat.le_trans a.le b.le, fun i h1 h2 => (b.old i h1 (Nat.lt_of_lt_of_le h2 a.le)).trans (a.old i h1 h2)⟩
theorem HasD.lt {d : Nat} {S : Sto} (h : HasD d S) : d < S.length := let ⟨_, e⟩ := h; (List.getElem?_eq_some_iff.mp e).1
theorem HasD.app {d : Nat} {S : Sto} (h : HasD d S) (r : Sto) : HasD d (S ++ r) := let ⟨zs, e⟩ := h; ⟨zs, get_old r e⟩
theorem Dr.app {d : Nat} {S : Sto} (h : HasD d S) (r : Sto) : Dr d S (S ++ r) := ⟨h.app r, by simp, fun i _ hi => List.getElem?_append_left hi⟩
theorem Dr.set {d : Nat} {S : Sto} (h : HasD d S) (zs : List Int) : Dr d S (S.set d (oI zs)) := by
  obtain ⟨z0, e⟩ := h
  exact ⟨⟨zs, set_get e⟩, by simp, fun i hi _ => List.getElem?_set_ne (Ne.symm hi)⟩
theorem drawD {S : Sto} {d : Nat} {n : Int} (hd : HasD d S) (hn : 0 < n) : ∃ v S', (0 ≤ v ∧ v < n) ∧ Dr d S S' ∧ mDraw [.ref d, .int n] S = .ok (.int v) S' := by
  obtain ⟨zs, e⟩ := id hd
  obtain ⟨v, zs', h1, h2⟩ := draw_run S d zs n e hn
  exact ⟨v, _, h1, Dr.set hd zs', h2⟩
theorem pickLD {S : Sto} {d t : Nat} {xs : List W} (hd : HasD d S) (ht : S[t]? = some (.lst xs)) (hne : d ≠ t) (h0 : 0 < xs.length) : ∃ w S', w ∈ xs ∧ Dr d S S' ∧ mPick [.ref d, .ref t] S = .ok w S' := by
  obtain ⟨zs, e⟩ := id hd
  obtain ⟨w, zs', h1, h2⟩ := pick_list S d t zs xs e ht hne h0
  exact ⟨w, _, h1, Dr.set hd zs', h2⟩
/-- .. out of a list just made -/
theorem pickND {S : Sto} {d : Nat} {xs : List W} (hd : HasD d S) (h0 : 0 < xs.length) : ∃ w S', w ∈ xs ∧ Dr d S S' ∧ mPick [.ref d, .ref S.length] (S ++ [.lst xs]) = .ok w S' := by
  obtain ⟨w, S', h1, h2, h3⟩ := pickLD (t := S.length) (hd.app [.lst xs]) (get_last S _) (Nat.ne_of_lt hd.lt) h0
  exact ⟨w, S', h1, (Dr.app hd _).trans h2, h3⟩
theorem pickSD {S : Sto} {d : Nat} {x : Str} (hd : HasD d S) (h0 : 0 < x.length) (hl : x.length ≤ sizeLine) : ∃ c S', c ∈ x.cps.toList ∧ Dr d S S' ∧ mPick [.ref d, .str x] S = .ok (chr1 c) S' := by
  obtain ⟨zs, e⟩ := id hd
  obtain ⟨c, zs', h1, h2⟩ := pick_str S d zs x e h0 hl
  exact ⟨c, _, h1, Dr.set hd zs', h2⟩
/-- one turn of a loop over a list of the store: the part ahead is pre -/
theorem forL_step (i a n : Nat) (b : Stm) (pre suf : List W) (x : W) (s : Sl) (S : Sto) (h : S[a]? = some (.lst (pre ++ x :: suf))) (hn : (pre ++ x :: suf).length = n) :
    forL (gN i) b a n (suf.length + 1) s S = loopK (b (s.set i (some x)) S) (forL (gN i) b a n suf.length) := by
  refine forL_gN i a n b suf.length x _ s S h hn ?_
  have : n - (suf.length + 1) = pre.length := by rw [← hn]; simp
  rw [this]
  simp
theorem forL_done (g : Tgt) (a n : Nat) (b : Stm) (ys : List W) (s : Sl) (S : Sto) (h : S[a]? = some (.lst ys)) (hn : ys.length = n) : forL g b a n 0 s S = .nx s S := forL_0 0 a n g b ys s S h hn
end Fr

namespace Lw_k00
open PySem PySem.Spec PyProof.Rows L2 Fr
def tab_FormroadsError : List (Str × Bool) := [((Str.ofString "InvalidName"), true), ((Str.ofString "InvalidText"), true)]
def tab_InvalidName : List (Str × Bool) := [((Str.ofString "InvalidName"), true), ((Str.ofString "InvalidText"), false)]
def tab_InvalidText : List (Str × Bool) := [((Str.ofString "InvalidName"), false), ((Str.ofString "InvalidText"), true)]
def tab_ValueError : List (Str × Bool) := [((Str.ofString "InvalidName"), true), ((Str.ofString "InvalidText"), true)]
def b_is_name : Stm :=
  (sSeq (sIf (tOr (tB (eOp eqM (eVar 0) (eC (.str (Str.ofString ""))))) (tB (eOp gtM (eB lenM (aCons (eVar 0) aNil)) (eC (.int 8))))) (sRet (eC (.bl false))) sNil)
  (sSeq (sFor (iE (eVar 0)) (gN 1) (sIf (tB (eOp notInM (eVar 1) (eC (.str (Str.ofString "abcdefghijklmnopqrstuvwxyz"))))) (sRet (eC (.bl false))) sNil))
  (sRet (eC (.bl true)))))
def m_is_name : Fn := fnM 2 b_is_name
def b_check_name : Stm :=
  (sSeq (sIf (tNot (tB (eCall m_is_name (aCons (eVar 0) aNil)))) (sRaise (Str.ofString "InvalidName")) sNil)
  (sRet (eVar 0)))
def m_check_name : Fn := fnM 1 b_check_name
def b_read_number : Stm :=
  (sSeq (sIf (tOr (tB (eOp eqM (eVar 0) (eC (.str (Str.ofString ""))))) (tB (eOp gtM (eB lenM (aCons (eVar 0) aNil)) (eC (.int 6))))) (sRaise (Str.ofString "InvalidText")) sNil)
  (sSeq (sFor (iE (eVar 0)) (gN 1) (sIf (tB (eOp notInM (eVar 1) (eC (.str (Str.ofString "0123456789"))))) (sRaise (Str.ofString "InvalidText")) sNil))
  (sSeq (sIf (tAnd (tB (eOp gtM (eB lenM (aCons (eVar 0) aNil)) (eC (.int 1)))) (tB (eOp eqM (eOp ixM (eVar 0) (eC (.int 0))) (eC (.str (Str.ofString "0")))))) (sRaise (Str.ofString "InvalidText")) sNil)
  (sRet (eB intM (aCons (eVar 0) aNil))))))
def m_read_number : Fn := fnM 2 b_read_number
def b_split_words : Stm :=
  (sSeq (sAsg 1 (eM "str" splitM (eVar 0) (aCons (eC (.str (Str.ofString " "))) aNil)))
  (sSeq (sFor (iE (eVar 1)) (gN 2) (sIf (tB (eOp eqM (eVar 2) (eC (.str (Str.ofString ""))))) (sRaise (Str.ofString "InvalidText")) sNil))
  (sRet (eVar 1))))
def m_split_words : Fn := fnM 3 b_split_words
def b__law_draws : Stm :=
  (sSeq (sAsg 1 (eLst aNil))
  (sSeq (sFor (iE (eVar 0)) (gN 2) (sSeq (sAsg 3 (eB intM (aCons (eVar 2) aNil)))
  (sIf (tB (eChain leM ltM (eC (.int 0)) (eVar 3) (eC (.int 1000)))) (sExpr (eM "list" appendM (eVar 1) (aCons (eVar 3) aNil))) (sIf (tB (eOp geM (eVar 3) (eOp powM (eC (.int 10)) (eC (.int 18))))) (sFor (iR1 (aCons (eC (.int 60)) aNil)) (gN 4) (sIf (tB (eOp gtM (eVar 3) (eC (.int 0)))) (sSeq (sExpr (eM "list" appendM (eVar 1) (aCons (eOp modM (eB intM (aCons (eVar 3) aNil)) (eC (.int 1000))) aNil)))
  (sAsg 3 (eOp fdivM (eVar 3) (eC (.int 1000))))) sNil)) (sSeq (sAsg 3 (eOp modM (eB intM (aCons (eOp mulM (eVar 3) (eC (.int 48271))) aNil)) (eC (.int 2147483647))))
  (sFor (iR1 (aCons (eC (.int 4)) aNil)) (gN 4) (sSeq (sAsg 3 (eOp modM (eB intM (aCons (eOp mulM (eVar 3) (eC (.int 69621))) aNil)) (eC (.int 2147483629))))
  (sExpr (eM "list" appendM (eVar 1) (aCons (eOp modM (eB intM (aCons (eOp fdivM (eVar 3) (eC (.int 7))) aNil)) (eC (.int 1000))) aNil))))))))))
  (sSeq (sExpr (eM "list" reverseM (eVar 1) aNil))
  (sRet (eVar 1)))))
def m__law_draws : Fn := fnM 5 b__law_draws
def b__law_draw : Stm :=
  (sSeq (sIf (tB (eOp eqM (eB lenM (aCons (eVar 0) aNil)) (eC (.int 0)))) (sRet (eC (.int 0))) sNil)
  (sRet (eOp modM (eB intM (aCons (eM "list" popM (eVar 0) aNil) aNil)) (eVar 1))))
def m__law_draw : Fn := fnM 2 b__law_draw
def b__law_pick : Stm :=
  (sRet (eOp ixM (eVar 1) (eCall m__law_draw (aCons (eVar 0) (aCons (eB lenM (aCons (eVar 1) aNil)) aNil)))))
def m__law_pick : Fn := fnM 2 b__law_pick
def b__law_same (j : Nat) (rec : Fn) : Stm :=
  (sSeq (sIf (tOr (tB (eB isiM (aCons (eVar 1) (aCons (eC (.ty "bool")) aNil)))) (tB (eB isiM (aCons (eVar 0) (aCons (eC (.ty "bool")) aNil))))) (sRet (eAnd (eB isiM (aCons (eVar 1) (aCons (eC (.ty "bool")) aNil))) (eAnd (eB isiM (aCons (eVar 0) (aCons (eC (.ty "bool")) aNil))) (eOp eqM (eVar 0) (eVar 1))))) sNil)
  (sSeq (sIf (tOr (tB (eOp isM (eVar 1) (eC .non))) (tB (eOp isM (eVar 0) (eC .non)))) (sRet (eAnd (eOp isM (eVar 1) (eC .non)) (eOp isM (eVar 0) (eC .non)))) sNil)
  (sSeq (sIf (tB (eB isiM (aCons (eVar 1) (aCons (eC (.ty "int")) aNil)))) (sRet (eAnd (eB isiM (aCons (eVar 0) (aCons (eC (.ty "int")) aNil))) (eOp eqM (eVar 0) (eVar 1)))) sNil)
  (sSeq (sIf (tB (eB isiM (aCons (eVar 1) (aCons (eC (.ty "str")) aNil)))) (sRet (eAnd (eB isiM (aCons (eVar 0) (aCons (eC (.ty "str")) aNil))) (eOp eqM (eVar 0) (eVar 1)))) sNil)
  (sSeq (sIf (tAnd (tB (eB isiM (aCons (eVar 1) (aCons (eC (.ty "tuple")) aNil)))) (tNot (tB (eB isiM (aCons (eVar 0) (aCons (eC (.ty "tuple")) aNil)))))) (sRet (eC (.bl false))) sNil)
  (sSeq (sIf (tAnd (tB (eB isiM (aCons (eVar 1) (aCons (eC (.ty "list")) aNil)))) (tNot (tB (eB isiM (aCons (eVar 0) (aCons (eC (.ty "list")) aNil)))))) (sRet (eC (.bl false))) sNil)
  (sSeq (sIf (tB (eOp neM (eB lenM (aCons (eVar 0) aNil)) (eB lenM (aCons (eVar 1) aNil)))) (sRet (eC (.bl false))) sNil)
  (sSeq (sFor (iR1 (aCons (eB lenM (aCons (eVar 1) aNil)) aNil)) (gN 2) (sIf (tNot (tB (eCall rec (aCons (eOp ixM (eVar 0) (eVar 2)) (aCons (eOp ixM (eVar 1) (eVar 2)) aNil))))) (sRet (eC (.bl false))) sNil))
  (sRet (eC (.bl true)))))))))))
def m__law_same : Nat → Fn
  | 0 => fun _ => bad
  | j + 1 => fnM 3 (b__law_same j (m__law_same j))
def b__law_text : Stm :=
  (sSeq (sAsg 1 (eC (.str (Str.ofString "abcdefghijklmnopqrstuvwxyz"))))
  (sSeq (sAsg 2 (eC (.str (Str.ofString " !\"#$&'()*+,-./0123456789:;<=>?@ABCDEFGHIJKLMNOPQRSTUVWXYZ[\\]^_`"))))
  (sSeq (sAsg 2 (eOp addM (eOp addM (eVar 2) (eVar 1)) (eC (.str (Str.ofString "{|}~")))))
  (sSeq (sAsg 3 (eCall m__law_pick (aCons (eVar 0) (aCons (eLst (aCons (eVar 1) (aCons (eOp addM (eC (.str (Str.ofString "0123456789"))) (eOp mulM (eC (.str (Str.ofString "0"))) (eC (.int 5)))) (aCons (eOp addM (eVar 1) (eOp mulM (eC (.str (Str.ofString " "))) (eC (.int 8)))) (aCons (eOp addM (eVar 2) (eOp mulM (eC (.str (Str.ofString " "))) (eC (.int 20)))) aNil))))) aNil))))
  (sSeq (sAsg 4 (eC (.str (Str.ofString ""))))
  (sSeq (sFor (iR1 (aCons (eCall m__law_pick (aCons (eVar 0) (aCons (eLst (aCons (eC (.int 0)) (aCons (eC (.int 1)) (aCons (eC (.int 2)) (aCons (eC (.int 3)) (aCons (eC (.int 4)) (aCons (eC (.int 5)) (aCons (eC (.int 6)) (aCons (eC (.int 7)) (aCons (eC (.int 8)) (aCons (eC (.int 9)) (aCons (eC (.int 10)) (aCons (eC (.int 11)) (aCons (eC (.int 12)) (aCons (eC (.int 6)) (aCons (eC (.int 7)) (aCons (eC (.int 8)) (aCons (eC (.int 9)) aNil)))))))))))))))))) aNil))) aNil)) (gN 5) (sAsg 4 (eOp addM (eVar 4) (eCall m__law_pick (aCons (eVar 0) (aCons (eVar 3) aNil))))))
  (sSeq (sAsg 6 (eCall m__law_draw (aCons (eVar 0) (aCons (eC (.int 4)) aNil))))
  (sSeq (sAsg 7 (eCall m__law_draw (aCons (eVar 0) (aCons (eOp addM (eB lenM (aCons (eVar 4) aNil)) (eC (.int 1))) aNil))))
  (sSeq (sIf (tB (eOp eqM (eVar 6) (eC (.int 2)))) (sAsg 4 (eOp addM (eOp addM (eSl (eVar 4) oNone (oSome (eVar 7))) (eCall m__law_pick (aCons (eVar 0) (aCons (eVar 2) aNil)))) (eSl (eVar 4) (oSome (eVar 7)) oNone))) sNil)
  (sSeq (sIf (tB (eOp eqM (eVar 6) (eC (.int 3)))) (sAsg 4 (eOp addM (eOp addM (eSl (eVar 4) oNone (oSome (eVar 7))) (eCall m__law_pick (aCons (eVar 0) (aCons (eVar 2) aNil)))) (eSl (eVar 4) (oSome (eOp addM (eVar 7) (eC (.int 1)))) oNone))) sNil)
  (sRet (eSl (eVar 4) oNone (oSome (eC (.int 12)))))))))))))))
def m__law_text : Fn := fnM 8 b__law_text
def b__law_is_name : Stm :=
  (sSeq (sFor (iE (eVar 0)) (gN 1) (sIf (tB (eOp notInM (eVar 1) (eC (.str (Str.ofString "abcdefghijklmnopqrstuvwxyz"))))) (sRet (eC (.bl false))) sNil))
  (sRet (eChain leM leM (eC (.int 1)) (eB lenM (aCons (eVar 0) aNil)) (eC (.int 8)))))
def m__law_is_name : Fn := fnM 2 b__law_is_name
def b__law_number : Stm :=
  (sSeq (sAsg 1 (eC (.int 0)))
  (sSeq (sFor (iE (eVar 0)) (gN 2) (sSeq (sIf (tB (eOp notInM (eVar 2) (eC (.str (Str.ofString "0123456789"))))) (sRet (eC .non)) sNil)
  (sAsg 1 (eOp addM (eOp mulM (eVar 1) (eC (.int 10))) (eM "str" indexSM (eC (.str (Str.ofString "0123456789"))) (aCons (eVar 2) aNil))))))
  (sSeq (sIf (tOr (tB (eOp eqM (eVar 0) (eC (.str (Str.ofString ""))))) (tOr (tB (eOp gtM (eB lenM (aCons (eVar 0) aNil)) (eC (.int 6)))) (tAnd (tB (eOp gtM (eB lenM (aCons (eVar 0) aNil)) (eC (.int 1)))) (tB (eOp eqM (eOp ixM (eVar 0) (eC (.int 0))) (eC (.str (Str.ofString "0")))))))) (sRet (eC .non)) sNil)
  (sRet (eVar 1)))))
def m__law_number : Fn := fnM 3 b__law_number
def b__law_checked : Stm :=
  (sTry (sRet (eCall m_check_name (aCons (eVar 0) aNil))) tab_InvalidName (fun c _ => (sRet (eC .non))))
def m__law_checked : Fn := fnM 1 b__law_checked
def b__law_read : Stm :=
  (sTry (sRet (eCall m_read_number (aCons (eVar 0) aNil))) tab_InvalidText (fun c _ => (sRet (eC .non))))
def m__law_read : Fn := fnM 1 b__law_read
def b__law_name_error : Stm :=
  (sSeq (sTryAs 1 (sExpr (eCall m_check_name (aCons (eVar 0) aNil))) tab_FormroadsError (fun c dd => onNone dd (sRet (eAnd (eIsX tab_ValueError c) (eNot (eIsX tab_InvalidText c))))))
  (sRet (eC (.bl false))))
def m__law_name_error : Fn := fnM 2 b__law_name_error
def b__law_number_error : Stm :=
  (sSeq (sTryAs 1 (sExpr (eCall m_read_number (aCons (eVar 0) aNil))) tab_FormroadsError (fun c dd => onNone dd (sRet (eAnd (eIsX tab_ValueError c) (eNot (eIsX tab_InvalidName c))))))
  (sRet (eC (.bl false))))
def m__law_number_error : Fn := fnM 2 b__law_number_error
def b__law_words_error : Stm :=
  (sSeq (sTryAs 1 (sExpr (eCall m_split_words (aCons (eVar 0) aNil))) tab_FormroadsError (fun c dd => onNone dd (sRet (eAnd (eIsX tab_ValueError c) (eNot (eIsX tab_InvalidName c))))))
  (sRet (eC (.bl false))))
def m__law_words_error : Fn := fnM 2 b__law_words_error
def b__law_good_words : Stm :=
  (sSeq (sIf (tOr (tNot (tB (eB isiM (aCons (eVar 0) (aCons (eC (.ty "list")) aNil))))) (tB (eOp eqM (eB lenM (aCons (eVar 0) aNil)) (eC (.int 0))))) (sRet (eC (.bl false))) sNil)
  (sSeq (sFor (iE (eVar 0)) (gN 2) (sIf (tOr (tNot (tB (eB isiM (aCons (eVar 2) (aCons (eC (.ty "str")) aNil))))) (tOr (tB (eOp eqM (eVar 2) (eC (.str (Str.ofString ""))))) (tB (eOp inM (eC (.str (Str.ofString " "))) (eVar 2))))) (sRet (eC (.bl false))) sNil))
  (sRet (eOp eqM (eM "str" joinM (eC (.str (Str.ofString " "))) (aCons (eVar 0) aNil)) (eVar 1)))))
def m__law_good_words : Fn := fnM 3 b__law_good_words
def b_law : Stm :=
  (sSeq (sAsg 1 (eCall m__law_draws (aCons (eVar 0) aNil)))
  (sSeq (sAsg 2 (eCall m__law_text (aCons (eVar 1) aNil)))
  (sSeq (sAsg 3 (eCall m__law_text (aCons (eVar 1) aNil)))
  (sSeq (sFor (iE (eLst (aCons (eVar 2) (aCons (eVar 3) (aCons (eVar 2) aNil))))) (gN 4) (sSeq (sAsg 5 (eCall m__law_is_name (aCons (eVar 4) aNil)))
  (sSeq (sIf (tNot (tB (eCall (m__law_same 3) (aCons (eCall m_is_name (aCons (eVar 4) aNil)) (aCons (eVar 5) aNil))))) (sRet (eC (.bl false))) sNil)
  (sSeq (sIf (tNot (tB (eCall (m__law_same 3) (aCons (eCall m__law_checked (aCons (eVar 4) aNil)) (aCons (eIf (tB (eVar 5)) (eVar 4) (eC .non)) aNil))))) (sRet (eC (.bl false))) sNil)
  (sSeq (sIf (tAnd (tNot (tB (eVar 5))) (tNot (tB (eCall m__law_name_error (aCons (eVar 4) aNil))))) (sRet (eC (.bl false))) sNil)
  (sSeq (sAsg 6 (eCall m__law_number (aCons (eVar 4) aNil)))
  (sSeq (sIf (tNot (tB (eCall (m__law_same 3) (aCons (eCall m__law_read (aCons (eVar 4) aNil)) (aCons (eVar 6) aNil))))) (sRet (eC (.bl false))) sNil)
  (sSeq (sIf (tAnd (tB (eOp isM (eVar 6) (eC .non))) (tNot (tB (eCall m__law_number_error (aCons (eVar 4) aNil))))) (sRet (eC (.bl false))) sNil)
  (sSeq (sAsg 7 (eOr (eOp eqM (eVar 4) (eC (.str (Str.ofString "")))) (eOr (eM "str" startsM (eVar 4) (aCons (eC (.str (Str.ofString " "))) aNil)) (eOr (eM "str" endsM (eVar 4) (aCons (eC (.str (Str.ofString " "))) aNil)) (eOp inM (eC (.str (Str.ofString "  "))) (eVar 4))))))
  (sSeq (sAsg 8 (eC (.bl false)))
  (sSeq (sAsg 9 (eC .non))
  (sSeq (sTry (sAsg 9 (eCall m_split_words (aCons (eVar 4) aNil))) tab_InvalidText (fun c _ => (sAsg 8 (eC (.bl true)))))
  (sSeq (sIf (tB (eOp neM (eVar 8) (eVar 7))) (sRet (eC (.bl false))) sNil)
  (sSeq (sIf (tAnd (tB (eVar 7)) (tNot (tB (eCall m__law_words_error (aCons (eVar 4) aNil))))) (sRet (eC (.bl false))) sNil)
  (sIf (tNot (tB (eVar 7))) (sSeq (sIf (tNot (tB (eCall m__law_good_words (aCons (eVar 9) (aCons (eVar 4) aNil))))) (sRet (eC (.bl false))) sNil)
  (sExpr (eM "list" appendM (eVar 9) (aCons (eVar 4) aNil)))) sNil)))))))))))))))
  (sRet (eC (.bl true)))))))
def m_law : Fn := fnM 10 b_law
end Lw_k00

namespace Lw_k00
open PySem Fr
local macro_rules | `(tactic| walk_at "ev") => `(tactic| simp only [bd_eq, bdK_ok, bdK_ex, bdK_bad, bdK_ite, rt_eq, bad_eq, app_ite, onE_ok, onE_ex, onE_bad, onE_ite, seq_eq, seqK_nx, seqK_rt, seqK_bk, seqK_ct, seqK_ex, seqK_bad, seqK_ite, loopK_nx, loopK_ct, loopK_bk, loopK_rt, loopK_ex, loopK_bad, loopK_ite, fn_eq, fnK_rt, fnK_nx, fnK_ex, fnK_ite, eVar_0, eVar_s, eC_eq, eOp_eq, eUn_eq, eAnd_eq, eOr_eq, eNot_eq, boK_bl, eIf_eq, eChain_eq, tB_eq, tbK_bl, tAnd_eq, tOr_eq, tNot_eq, aNil_eq, aCons_eq, eTup_eq, eLst_eq, new_eq, eB_eq, eCall_eq, eM_eq, eSl_eq, oNone_eq, oSome_eq, intK_int, sNil_eq, sExpr_eq, sRet_eq, sRetN_eq, sIf_eq, sAsg_eq, sRaise_eq, sBreak_eq, sCont_eq, sFor_eq, srcK_vals, iE_eq, srcOf_tup, srcOf_fl, srcOf_str, forV_nil, addM_int, addM_str, addM_tup, subM_int, mulM_int, mulM_str, modM_int, fdivM_int, powM_int, negM_int, ltM_int, leM_int, gtM_int, geM_int, eqM_int, eqM_str, eqM_bl, neM_int, neM_str, neM_bl, isM_non, isM_int, isM_str, isM_bl, isM_tup, isM_ref, inM_str, notInM_str, lenM_str, lenM_tup, lenM_fl, intM_int, tyM_str, slM_str, isiM_non, isiM_bl, isiM_int, isiM_str, isiM_tup, resK_some, obL_lst, obS_lst, optK_some, isLst_lst, appendM_eq, popM_eq, reverseM_eq, lenM_refE, ixM_refE, ixM_tupE, ixM_flE, ixM_strE, srcOf_refE, srcK_liveE, tyM_refE, get_last, set_last, sTry_eq, tryK_nx, tryK_rt, noEx_nx, noEx_rt, sTryAs_eq, tryAsK_nx, tryAsK_rt, dropS_nx, dropS_rt, onNone_none, kb_NoneType_bool, kb_NoneType_int, kb_NoneType_str, kb_NoneType_tuple, kb_NoneType_list, kb_NoneType_dict, kb_bool_bool, kb_bool_int, kb_bool_str, kb_bool_tuple, kb_bool_list, kb_bool_dict, kb_int_bool, kb_int_int, kb_int_str, kb_int_tuple, kb_int_list, kb_int_dict, kb_str_bool, kb_str_int, kb_str_str, kb_str_tuple, kb_str_list, kb_str_dict, kb_tuple_bool, kb_tuple_int, kb_tuple_str, kb_tuple_tuple, kb_tuple_list, kb_tuple_dict, kb_list_bool, kb_list_int, kb_list_str, kb_list_tuple, kb_list_list, kb_list_dict, kb_dict_bool, kb_dict_int, kb_dict_str, kb_dict_tuple, kb_dict_list, kb_dict_dict, List.map_cons, List.map_nil, List.cons_append, List.nil_append, List.length_cons, List.length_nil, Nat.reduceAdd, Nat.reduceSub, List.replicate, List.set_cons_zero, List.set_cons_succ, Bool.false_eq_true, Bool.not_true, Bool.not_false, if_true, if_false, reduceIte, decide_eq_true_eq, Bool.not_eq_true', decide_eq_false_iff_not, not_true_eq_false, not_false_eq_true, ite_not, decide_true, decide_false, eq_self_iff_true, iR1_eq, iR2_eq, rngK_1, rngK2_2, chr1_eq, subS_one, and_self, true_and, and_true, false_and, and_false, or_true, true_or, or_self, false_or, or_false, ne_eq])
local macro_rules | `(tactic| walk_at "evh") => `(tactic| simp only [bd_eq, bdK_ok, bdK_ex, bdK_bad, bdK_ite, rt_eq, bad_eq, app_ite, onE_ok, onE_ex, onE_bad, onE_ite, seq_eq, seqK_nx, seqK_rt, seqK_bk, seqK_ct, seqK_ex, seqK_bad, seqK_ite, loopK_nx, loopK_ct, loopK_bk, loopK_rt, loopK_ex, loopK_bad, loopK_ite, fn_eq, fnK_rt, fnK_nx, fnK_ex, fnK_ite, eVar_0, eVar_s, eC_eq, eOp_eq, eUn_eq, eAnd_eq, eOr_eq, eNot_eq, boK_bl, eIf_eq, eChain_eq, tB_eq, tbK_bl, tAnd_eq, tOr_eq, tNot_eq, aNil_eq, aCons_eq, eTup_eq, eLst_eq, new_eq, eB_eq, eCall_eq, eM_eq, eSl_eq, oNone_eq, oSome_eq, intK_int, sNil_eq, sExpr_eq, sRet_eq, sRetN_eq, sIf_eq, sAsg_eq, sRaise_eq, sBreak_eq, sCont_eq, sFor_eq, srcK_vals, iE_eq, srcOf_tup, srcOf_fl, srcOf_str, forV_nil, addM_int, addM_str, addM_tup, subM_int, mulM_int, mulM_str, modM_int, fdivM_int, powM_int, negM_int, ltM_int, leM_int, gtM_int, geM_int, eqM_int, eqM_str, eqM_bl, neM_int, neM_str, neM_bl, isM_non, isM_int, isM_str, isM_bl, isM_tup, isM_ref, inM_str, notInM_str, lenM_str, lenM_tup, lenM_fl, intM_int, tyM_str, slM_str, isiM_non, isiM_bl, isiM_int, isiM_str, isiM_tup, resK_some, obL_lst, obS_lst, optK_some, isLst_lst, appendM_eq, popM_eq, reverseM_eq, lenM_refE, ixM_refE, ixM_tupE, ixM_flE, ixM_strE, srcOf_refE, srcK_liveE, tyM_refE, get_last, set_last, sTry_eq, tryK_nx, tryK_rt, noEx_nx, noEx_rt, sTryAs_eq, tryAsK_nx, tryAsK_rt, dropS_nx, dropS_rt, onNone_none, kb_NoneType_bool, kb_NoneType_int, kb_NoneType_str, kb_NoneType_tuple, kb_NoneType_list, kb_NoneType_dict, kb_bool_bool, kb_bool_int, kb_bool_str, kb_bool_tuple, kb_bool_list, kb_bool_dict, kb_int_bool, kb_int_int, kb_int_str, kb_int_tuple, kb_int_list, kb_int_dict, kb_str_bool, kb_str_int, kb_str_str, kb_str_tuple, kb_str_list, kb_str_dict, kb_tuple_bool, kb_tuple_int, kb_tuple_str, kb_tuple_tuple, kb_tuple_list, kb_tuple_dict, kb_list_bool, kb_list_int, kb_list_str, kb_list_tuple, kb_list_list, kb_list_dict, kb_dict_bool, kb_dict_int, kb_dict_str, kb_dict_tuple, kb_dict_list, kb_dict_dict, List.map_cons, List.map_nil, List.cons_append, List.nil_append, List.length_cons, List.length_nil, Nat.reduceAdd, Nat.reduceSub, List.replicate, List.set_cons_zero, List.set_cons_succ, Bool.false_eq_true, Bool.not_true, Bool.not_false, if_true, if_false, reduceIte, decide_eq_true_eq, Bool.not_eq_true', decide_eq_false_iff_not, not_true_eq_false, not_false_eq_true, ite_not, decide_true, decide_false, eq_self_iff_true, iR1_eq, iR2_eq, rngK_1, rngK2_2, chr1_eq, subS_one, and_self, true_and, and_true, false_and, and_false, or_true, true_or, or_self, false_or, or_false, ne_eq, *])

theorem e_draws : m__law_draws = fnM 5 bDraws := rfl
theorem e_draw : m__law_draw = mDraw := rfl
theorem e_pick : m__law_pick = mPick := rfl
/-! ### the texts -/
abbrev sL : Str := Str.ofString "abcdefghijklmnopqrstuvwxyz"
theorem sL_len : sL.length = 26 := by decide +kernel
abbrev sG0 : Str := Str.ofString " !\"#$&'()*+,-./0123456789:;<=>?@ABCDEFGHIJKLMNOPQRSTUVWXYZ[\\]^_`"
theorem sG0_len : sG0.length = 64 := by decide +kernel
abbrev sT : Str := Str.ofString "{|}~"
theorem sT_len : sT.length = 4 := by decide +kernel
theorem len_app (a b : Str) : (a ++ b).length = a.length + b.length := by
  rw [TL.len_tl, TL.tl_append, List.length_append, ← TL.len_tl, ← TL.len_tl]
def bTextTurn : Stm := (sAsg 4 (eOp addM (eVar 4) (eCall m__law_pick (aCons (eVar 0) (aCons (eVar 3) aNil)))))
theorem textLoop (d : Nat) (r : Str) (h0 : 0 < r.length) (hl : r.length ≤ sizeLine) (a b : Option W) (e f : Option W) : ∀ (xs : List W) (S : Sto) (x : Str) (k : Option W), HasD d S → x.length + xs.length ≤ 1000 →
    ∃ x' S' k', x'.length = x.length + xs.length ∧ Dr d S S' ∧ forV (gN 5) bTextTurn xs [some (.ref d), a, b, some (.str r), some (.str x), k, e, f] S = .nx [some (.ref d), a, b, some (.str r), some (.str x'), k', e, f] S'
  | [], S, x, k, hd, hx => ⟨x, S, k, by simp, Dr.refl hd, rfl⟩
  | w :: xs, S, x, k, hd, hx => by
    rw [forV_gN]
    obtain ⟨c, S1, _, h1, h2⟩ := pickSD hd h0 hl
    have e1 : bTextTurn [some (.ref d), a, b, some (.str r), some (.str x), some w, e, f] S = .nx [some (.ref d), a, b, some (.str r), some (.str (x ++ ⟨#[c]⟩)), some w, e, f] S1 := by
      unfold bTextTurn
      rw [e_pick]
      have hs : x.length + (⟨#[c]⟩ : Str).length ≤ sizeLine := by
        have : (⟨#[c]⟩ : Str).length = 1 := rfl
        rw [this, sizeLine_n]; omega
      have hc : ∀ S, addM (.str x) (chr1 c) S = .ok (.str (x ++ ⟨#[c]⟩)) S := fun S => by unfold chr1; rw [addM_str, if_pos hs]
      walk_at "evh"
    have hlen : (x ++ (⟨#[c]⟩ : Str)).length = x.length + 1 := by rw [len_app]; rfl
    obtain ⟨x', S', k', q1, q2, q3⟩ := textLoop d r h0 hl a b e f xs S1 (x ++ ⟨#[c]⟩) (some w) h1.dr (by rw [hlen]; simp only [List.length_cons] at hx; omega)
    refine ⟨x', S', k', by rw [q1, hlen]; simp only [List.length_cons]; omega, h1.trans q2, ?_⟩
    show loopK (bTextTurn [some (.ref d), a, b, some (.str r), some (.str x), some w, e, f] S) _ = _
    rw [e1]
    exact q3
theorem cut12 (z : Str) : (L2.cutS z none (some 12)).length ≤ 12 := by
  show (((z.cps.toList.drop (HT.sIx z.length 0 none)).take (HT.sIx z.length z.length (some 12) - HT.sIx z.length 0 none)).toArray).size ≤ 12
  rw [List.size_toArray, List.length_take, HT.sIx_none, show HT.sIx z.length z.length (some 12) = min 12 z.length from HT.sIx_nat z.length z.length 12]
  omega
theorem text_run (d : Nat) (S : Sto) (hd : HasD d S) : ∃ x S', x.length ≤ 12 ∧ Dr d S S' ∧ m__law_text [.ref d] S = .ok (.str x) S' := by
  have hz : sizeLine = 16777216 := sizeLine_n
  have c1 : sG0.length + sL.length ≤ sizeLine := by rw [sG0_len, sL_len, hz]; decide
  have lG : (sG0 ++ sL).length = 90 := by rw [len_app, sG0_len, sL_len]
  have c2 : (sG0 ++ sL).length + sT.length ≤ sizeLine := by rw [lG, sT_len, hz]; decide
  have lS : (sG0 ++ sL ++ sT).length = 94 := by rw [len_app, lG, sT_len]
  have d1 : (2 : Int) ≤ 5 ∧ (5 : Int) ≤ 1000 ∧ 1 ≤ (Str.ofString "0").length ∧ (Str.ofString "0").length ≤ 1000 := by decide +kernel
  have d2 : (2 : Int) ≤ 8 ∧ (8 : Int) ≤ 1000 ∧ 1 ≤ (Str.ofString " ").length ∧ (Str.ofString " ").length ≤ 1000 := by decide +kernel
  have d3 : (2 : Int) ≤ 20 ∧ (20 : Int) ≤ 1000 ∧ 1 ≤ (Str.ofString " ").length ∧ (Str.ofString " ").length ≤ 1000 := by decide +kernel
  have l1 : (strRep (Str.ofString "0") (5 : Int).toNat).length = 5 := by decide +kernel
  have l2 : (strRep (Str.ofString " ") (8 : Int).toNat).length = 8 := by decide +kernel
  have l3 : (strRep (Str.ofString " ") (20 : Int).toNat).length = 20 := by decide +kernel
  have l0 : (Str.ofString "0123456789").length = 10 := by decide +kernel
  have c3 : (Str.ofString "0123456789").length + (strRep (Str.ofString "0") (5 : Int).toNat).length ≤ sizeLine := by rw [l0, l1, hz]; decide
  have c4 : sL.length + (strRep (Str.ofString " ") (8 : Int).toNat).length ≤ sizeLine := by rw [sL_len, l2, hz]; decide
  have c5 : (sG0 ++ sL ++ sT).length + (strRep (Str.ofString " ") (20 : Int).toNat).length ≤ sizeLine := by rw [lS, l3, hz]; decide
  have z4 : 4 ≤ sizeLine := by rw [hz]; decide
  have z17 : 17 ≤ sizeLine := by rw [hz]; decide
  -- the row
  obtain ⟨w, S1, hw, D1, p1⟩ := pickND (xs := [.str sL, .str (Str.ofString "0123456789" ++ strRep (Str.ofString "0") (5 : Int).toNat), .str (sL ++ strRep (Str.ofString " ") (8 : Int).toNat), .str (sG0 ++ sL ++ sT ++ strRep (Str.ofString " ") (20 : Int).toNat)]) hd (by simp)
  obtain ⟨r, rfl, r0, r1⟩ : ∃ r : Str, w = .str r ∧ 0 < r.length ∧ r.length ≤ sizeLine := by
    simp only [List.mem_cons, List.not_mem_nil, or_false] at hw
    rcases hw with rfl | rfl | rfl | rfl
    · exact ⟨_, rfl, by rw [sL_len]; decide, by rw [sL_len, hz]; decide⟩
    · exact ⟨_, rfl, by rw [len_app, l0]; omega, by rw [len_app]; exact c3⟩
    · exact ⟨_, rfl, by rw [len_app, sL_len]; omega, by rw [len_app]; exact c4⟩
    · exact ⟨_, rfl, by rw [len_app, lS]; omega, by rw [len_app]; exact c5⟩
  -- how many
  obtain ⟨w, S2, hw2, D2, p2⟩ := pickND (xs := [.int 0, .int 1, .int 2, .int 3, .int 4, .int 5, .int 6, .int 7, .int 8, .int 9, .int 10, .int 11, .int 12, .int 6, .int 7, .int 8, .int 9]) D1.dr (by simp)
  obtain ⟨j, rfl, j0, j1⟩ : ∃ j : Int, w = .int j ∧ 0 ≤ j ∧ j ≤ 12 := by
    simp only [List.mem_cons, List.not_mem_nil, or_false] at hw2
    rcases hw2 with rfl | rfl | rfl | rfl | rfl | rfl | rfl | rfl | rfl | rfl | rfl | rfl | rfl | rfl | rfl | rfl | rfl <;> exact ⟨_, rfl, by decide, by decide⟩
  have le0 : (Str.ofString "").length = 0 := by decide +kernel
  obtain ⟨x, S3, k3, lx, D3, p3⟩ := textLoop d r r0 r1 (some (.str sL)) (some (.str (sG0 ++ sL ++ sT))) none none (rng 0 j.toNat) S2 (Str.ofString "") none D2.dr (by rw [rng_len]; omega)
  rw [rng_len, le0] at lx
  obtain ⟨way, S4, ⟨w0, w1⟩, D4, p4⟩ := drawD (n := 4) D3.dr (by decide)
  have hxl : x.length ≤ sizeLine := by rw [hz]; omega
  obtain ⟨at', S5, ⟨a0, a1⟩, D5, p5⟩ := drawD (n := (x.length : Int) + 1) D4.dr (by omega)
  have DD : Dr d S S5 := (((D1.trans D2).trans D3).trans D4).trans D5
  unfold bTextTurn at p3
  rw [e_pick] at p3
  have jb : -(2 ^ 62) ≤ j ∧ j < 2 ^ 62 := ⟨by omega, by omega⟩
  obtain ⟨c, S6, _, D6, p6⟩ := pickSD (x := sG0 ++ sL ++ sT) D5.dr (by rw [lS]; decide) (by rw [lS, hz]; decide)
  have q1 := L2.cutS_length x none (some at')
  have q2 := L2.cutS_length x (some at') none
  have q3 := L2.cutS_length x (some (at' + 1)) none
  have s1 : (L2.cutS x none (some at')).length + (⟨#[c]⟩ : Str).length ≤ sizeLine := by rw [hz, show (⟨#[c]⟩ : Str).length = 1 from rfl]; omega
  have s2 : (L2.cutS x none (some at') ++ (⟨#[c]⟩ : Str)).length + (L2.cutS x (some at') none).length ≤ sizeLine := by rw [len_app, hz, show (⟨#[c]⟩ : Str).length = 1 from rfl]; omega
  have s3 : (L2.cutS x none (some at') ++ (⟨#[c]⟩ : Str) ++ L2.cutS x (some at') none).length ≤ sizeLine := by rw [len_app]; exact s2
  have s4 : (L2.cutS x none (some at') ++ (⟨#[c]⟩ : Str)).length + (L2.cutS x (some (at' + 1)) none).length ≤ sizeLine := by rw [len_app, hz, show (⟨#[c]⟩ : Str).length = 1 from rfl]; omega
  have s5 : (L2.cutS x none (some at') ++ (⟨#[c]⟩ : Str) ++ L2.cutS x (some (at' + 1)) none).length ≤ sizeLine := by rw [len_app]; exact s4
  have DE := DD.trans D6
  unfold m__law_text b__law_text
  rw [e_pick, e_draw]
  clear w0 w1 a0 a1 j0 j1 lx q1 q2 q3 hw hw2 D1 D2 D3 D4 D5 D6 hd hz lG lS l1 l2 l3 l0
  by_cases h2 : way = 2
  · refine ⟨_, S6, cut12 (L2.cutS x none (some at') ++ (⟨#[c]⟩ : Str) ++ L2.cutS x (some at') none), DE, ?_⟩
    have n3 : ¬ (way = 3) := by omega
    clear DE DD
    subst h2
    have n4 : ¬ ((2 : Int) = 3) := by decide
    walk_at "evh"
  · by_cases h3 : way = 3
    · refine ⟨_, S6, cut12 (L2.cutS x none (some at') ++ (⟨#[c]⟩ : Str) ++ L2.cutS x (some (at' + 1)) none), DE, ?_⟩
      clear DE DD
      subst h3
      walk_at "evh"
    · refine ⟨_, S5, cut12 x, DD, ?_⟩
      clear DE DD
      walk_at "evh"
end Lw_k00

namespace Lw_k00
open PySem Fr
local macro_rules | `(tactic| walk_at "ev") => `(tactic| simp only [bd_eq, bdK_ok, bdK_ex, bdK_bad, bdK_ite, rt_eq, bad_eq, app_ite, onE_ok, onE_ex, onE_bad, onE_ite, seq_eq, seqK_nx, seqK_rt, seqK_bk, seqK_ct, seqK_ex, seqK_bad, seqK_ite, loopK_nx, loopK_ct, loopK_bk, loopK_rt, loopK_ex, loopK_bad, loopK_ite, fn_eq, fnK_rt, fnK_nx, fnK_ex, fnK_ite, eVar_0, eVar_s, eC_eq, eOp_eq, eUn_eq, eAnd_eq, eOr_eq, eNot_eq, boK_bl, eIf_eq, eChain_eq, tB_eq, tbK_bl, tAnd_eq, tOr_eq, tNot_eq, aNil_eq, aCons_eq, eTup_eq, eLst_eq, new_eq, eB_eq, eCall_eq, eM_eq, eSl_eq, oNone_eq, oSome_eq, intK_int, sNil_eq, sExpr_eq, sRet_eq, sRetN_eq, sIf_eq, sAsg_eq, sRaise_eq, sBreak_eq, sCont_eq, sFor_eq, srcK_vals, iE_eq, srcOf_tup, srcOf_fl, srcOf_str, forV_nil, addM_int, addM_str, addM_tup, subM_int, mulM_int, mulM_str, modM_int, fdivM_int, powM_int, negM_int, ltM_int, leM_int, gtM_int, geM_int, eqM_int, eqM_str, eqM_bl, neM_int, neM_str, neM_bl, isM_non, isM_int, isM_str, isM_bl, isM_tup, isM_ref, inM_str, notInM_str, lenM_str, lenM_tup, lenM_fl, intM_int, tyM_str, slM_str, isiM_non, isiM_bl, isiM_int, isiM_str, isiM_tup, resK_some, obL_lst, obS_lst, optK_some, isLst_lst, appendM_eq, popM_eq, reverseM_eq, lenM_refE, ixM_refE, ixM_tupE, ixM_flE, ixM_strE, srcOf_refE, srcK_liveE, tyM_refE, get_last, set_last, sTry_eq, tryK_nx, tryK_rt, noEx_nx, noEx_rt, sTryAs_eq, tryAsK_nx, tryAsK_rt, dropS_nx, dropS_rt, onNone_none, kb_NoneType_bool, kb_NoneType_int, kb_NoneType_str, kb_NoneType_tuple, kb_NoneType_list, kb_NoneType_dict, kb_bool_bool, kb_bool_int, kb_bool_str, kb_bool_tuple, kb_bool_list, kb_bool_dict, kb_int_bool, kb_int_int, kb_int_str, kb_int_tuple, kb_int_list, kb_int_dict, kb_str_bool, kb_str_int, kb_str_str, kb_str_tuple, kb_str_list, kb_str_dict, kb_tuple_bool, kb_tuple_int, kb_tuple_str, kb_tuple_tuple, kb_tuple_list, kb_tuple_dict, kb_list_bool, kb_list_int, kb_list_str, kb_list_tuple, kb_list_list, kb_list_dict, kb_dict_bool, kb_dict_int, kb_dict_str, kb_dict_tuple, kb_dict_list, kb_dict_dict, List.map_cons, List.map_nil, List.cons_append, List.nil_append, List.length_cons, List.length_nil, Nat.reduceAdd, Nat.reduceSub, List.replicate, List.set_cons_zero, List.set_cons_succ, Bool.false_eq_true, Bool.not_true, Bool.not_false, if_true, if_false, reduceIte, decide_eq_true_eq, Bool.not_eq_true', decide_eq_false_iff_not, not_true_eq_false, not_false_eq_true, ite_not, decide_true, decide_false, eq_self_iff_true, indexSM_eq, startsM_str, endsM_str, splitM_str, iR1_eq, iR2_eq, rngK_1, rngK2_2, chr1_eq, subS_one, and_self, true_and, and_true, false_and, and_false, or_true, true_or, or_self, false_or, or_false, ne_eq])
local macro_rules | `(tactic| walk_at "evh") => `(tactic| simp only [bd_eq, bdK_ok, bdK_ex, bdK_bad, bdK_ite, rt_eq, bad_eq, app_ite, onE_ok, onE_ex, onE_bad, onE_ite, seq_eq, seqK_nx, seqK_rt, seqK_bk, seqK_ct, seqK_ex, seqK_bad, seqK_ite, loopK_nx, loopK_ct, loopK_bk, loopK_rt, loopK_ex, loopK_bad, loopK_ite, fn_eq, fnK_rt, fnK_nx, fnK_ex, fnK_ite, eVar_0, eVar_s, eC_eq, eOp_eq, eUn_eq, eAnd_eq, eOr_eq, eNot_eq, boK_bl, eIf_eq, eChain_eq, tB_eq, tbK_bl, tAnd_eq, tOr_eq, tNot_eq, aNil_eq, aCons_eq, eTup_eq, eLst_eq, new_eq, eB_eq, eCall_eq, eM_eq, eSl_eq, oNone_eq, oSome_eq, intK_int, sNil_eq, sExpr_eq, sRet_eq, sRetN_eq, sIf_eq, sAsg_eq, sRaise_eq, sBreak_eq, sCont_eq, sFor_eq, srcK_vals, iE_eq, srcOf_tup, srcOf_fl, srcOf_str, forV_nil, addM_int, addM_str, addM_tup, subM_int, mulM_int, mulM_str, modM_int, fdivM_int, powM_int, negM_int, ltM_int, leM_int, gtM_int, geM_int, eqM_int, eqM_str, eqM_bl, neM_int, neM_str, neM_bl, isM_non, isM_int, isM_str, isM_bl, isM_tup, isM_ref, inM_str, notInM_str, lenM_str, lenM_tup, lenM_fl, intM_int, tyM_str, slM_str, isiM_non, isiM_bl, isiM_int, isiM_str, isiM_tup, resK_some, obL_lst, obS_lst, optK_some, isLst_lst, appendM_eq, popM_eq, reverseM_eq, lenM_refE, ixM_refE, ixM_tupE, ixM_flE, ixM_strE, srcOf_refE, srcK_liveE, tyM_refE, get_last, set_last, sTry_eq, tryK_nx, tryK_rt, noEx_nx, noEx_rt, sTryAs_eq, tryAsK_nx, tryAsK_rt, dropS_nx, dropS_rt, onNone_none, kb_NoneType_bool, kb_NoneType_int, kb_NoneType_str, kb_NoneType_tuple, kb_NoneType_list, kb_NoneType_dict, kb_bool_bool, kb_bool_int, kb_bool_str, kb_bool_tuple, kb_bool_list, kb_bool_dict, kb_int_bool, kb_int_int, kb_int_str, kb_int_tuple, kb_int_list, kb_int_dict, kb_str_bool, kb_str_int, kb_str_str, kb_str_tuple, kb_str_list, kb_str_dict, kb_tuple_bool, kb_tuple_int, kb_tuple_str, kb_tuple_tuple, kb_tuple_list, kb_tuple_dict, kb_list_bool, kb_list_int, kb_list_str, kb_list_tuple, kb_list_list, kb_list_dict, kb_dict_bool, kb_dict_int, kb_dict_str, kb_dict_tuple, kb_dict_list, kb_dict_dict, List.map_cons, List.map_nil, List.cons_append, List.nil_append, List.length_cons, List.length_nil, Nat.reduceAdd, Nat.reduceSub, List.replicate, List.set_cons_zero, List.set_cons_succ, Bool.false_eq_true, Bool.not_true, Bool.not_false, if_true, if_false, reduceIte, decide_eq_true_eq, Bool.not_eq_true', decide_eq_false_iff_not, not_true_eq_false, not_false_eq_true, ite_not, decide_true, decide_false, eq_self_iff_true, indexSM_eq, startsM_str, endsM_str, splitM_str, iR1_eq, iR2_eq, rngK_1, rngK2_2, chr1_eq, subS_one, and_self, true_and, and_true, false_and, and_false, or_true, true_or, or_self, false_or, or_false, ne_eq, *])

/-! ### names -/
abbrev lets : List Nat := (Str.ofString "abcdefghijklmnopqrstuvwxyz").cps.toList
def isNm (x : Str) : Bool := x.cps.toList.all (fun c => decide (c ∈ lets)) && (decide (1 ≤ x.length) && decide (x.length ≤ 8))
def bLet : Stm := (sIf (tB (eOp notInM (eVar 1) (eC (.str (Str.ofString "abcdefghijklmnopqrstuvwxyz"))))) (sRet (eC (.bl false))) sNil)
theorem letLoop (w : W) (S : Sto) : ∀ (cs : List Nat) (o : Option W), (cs.all (fun c => decide (c ∈ lets)) = true → ∃ o', forV (gN 1) bLet (cs.map chr1) [some w, o] S = .nx [some w, o'] S) ∧
    (cs.all (fun c => decide (c ∈ lets)) = false → forV (gN 1) bLet (cs.map chr1) [some w, o] S = .rt (.bl false) S)
  | [], o => ⟨fun _ => ⟨o, rfl⟩, fun h => by simp at h⟩
  | c :: cs, o => by
    rw [List.map_cons, forV_gN]
    have ih := letLoop w S cs (some (chr1 c))
    by_cases hc : c ∈ lets
    · have e : bLet [some w, some (chr1 c)] S = .nx [some w, some (chr1 c)] S := by
        unfold bLet
        walk_at "evh"
      constructor
      · intro h
        obtain ⟨o', h'⟩ := ih.1 (by simp only [List.all_cons, hc, decide_true, Bool.true_and] at h; exact h)
        exact ⟨o', by show loopK (bLet [some w, some (chr1 c)] S) _ = _; rw [e]; exact h'⟩
      · intro h
        show loopK (bLet [some w, some (chr1 c)] S) _ = _
        rw [e]
        exact ih.2 (by simp only [List.all_cons, hc, decide_true, Bool.true_and] at h; exact h)
    · have e : bLet [some w, some (chr1 c)] S = .rt (.bl false) S := by
        unfold bLet
        walk_at "evh"
      constructor
      · intro h; simp only [List.all_cons, hc, decide_false, Bool.false_and] at h; cases h
      · intro _
        show loopK (bLet [some w, some (chr1 c)] S) _ = _
        rw [e]; rfl
theorem str_nil (x : Str) : x = Str.ofString "" ↔ x.length = 0 := by
  constructor
  · rintro rfl; decide +kernel
  · intro h
    apply TL.ext_tl
    rw [show TL.tl (Str.ofString "") = [] by decide +kernel]
    rw [TL.len_tl] at h
    exact List.length_eq_zero_iff.mp h
theorem is_name_run (x : Str) (S : Sto) (hx : x.length ≤ 12) : m_is_name [.str x] S = .ok (.bl (isNm x)) S := by
  have hl : x.length ≤ sizeLine := by rw [sizeLine_n]; omega
  obtain ⟨l1, l2⟩ := letLoop (.str x) S x.cps.toList none
  unfold m_is_name b_is_name
  by_cases h1 : x = Str.ofString ""
  · have q : isNm x = false := by rw [h1]; decide +kernel
    rw [q]
    clear l1 l2
    walk_at "evh"
  · unfold isNm
    have h0 : ¬ x.length = 0 := fun h => h1 ((str_nil x).mpr h)
    by_cases h8 : (8 : Int) < x.length
    · have : ¬ x.length ≤ 8 := by omega
      walk_at "evh"
      simp [this]
    · have h3 : 1 ≤ x.length := by omega
      have h4 : x.length ≤ 8 := by omega
      cases hall : x.cps.toList.all (fun c => decide (c ∈ lets)) with
      | true =>
        obtain ⟨o', e⟩ := l1 hall
        unfold bLet at e
        clear l1 l2
        walk_at "evh"
        simp
      | false =>
        have e := l2 hall
        unfold bLet at e
        clear l1 l2
        walk_at "evh"
        simp
theorem law_is_name_run (x : Str) (S : Sto) (hx : x.length ≤ 12) : m__law_is_name [.str x] S = .ok (.bl (isNm x)) S := by
  have hl : x.length ≤ sizeLine := by rw [sizeLine_n]; omega
  obtain ⟨l1, l2⟩ := letLoop (.str x) S x.cps.toList none
  unfold m__law_is_name b__law_is_name isNm
  cases hall : x.cps.toList.all (fun c => decide (c ∈ lets)) with
  | true =>
    obtain ⟨o', e⟩ := l1 hall
    unfold bLet at e
    clear l1 l2
    by_cases h3 : (1 : Int) ≤ x.length
    · have h3' : 1 ≤ x.length := by omega
      walk_at "evh"
      simp
      constructor <;> intro h <;> omega
    · have h3' : ¬ 1 ≤ x.length := by omega
      walk_at "evh"
      simp [h3']
  | false =>
    have e := l2 hall
    unfold bLet at e
    clear l1 l2
    walk_at "evh"
    simp
theorem check_name_run (x : Str) (S : Sto) (hx : x.length ≤ 12) : m_check_name [.str x] S = if isNm x = true then .ok (.str x) S else .ex (Str.ofString "InvalidName") none S := by
  have e := is_name_run x S hx
  unfold m_check_name b_check_name
  cases hn : isNm x with
  | true => rw [hn] at e; walk_at "evh"
  | false => rw [hn] at e; walk_at "evh"
theorem checked_run (x : Str) (S : Sto) (hx : x.length ≤ 12) : m__law_checked [.str x] S = .ok (if isNm x = true then .str x else .non) S := by
  have e := check_name_run x S hx
  unfold m__law_checked b__law_checked
  cases hn : isNm x with
  | true => rw [hn] at e; walk_at "evh"
  | false =>
    rw [hn] at e
    have ht := fun s d su => tryK_yes (Str.ofString "InvalidName") d s S tab_InvalidName su (by decide +kernel)
    walk_at "evh"
theorem name_error_run (x : Str) (S : Sto) (hx : x.length ≤ 12) (hn : isNm x = false) : m__law_name_error [.str x] S = .ok (.bl true) S := by
  have e := check_name_run x S hx
  rw [hn] at e
  unfold m__law_name_error b__law_name_error
  have ht := fun i s d su => tryAsK_yes i (Str.ofString "InvalidName") d s S tab_FormroadsError su (by decide +kernel)
  have h1 := fun s S => eIsX_eq tab_ValueError (Str.ofString "InvalidName") true s S (by decide +kernel)
  have h2 := fun s S => eIsX_eq tab_InvalidText (Str.ofString "InvalidName") false s S (by decide +kernel)
  have h3 : (1 : Nat) < 2 := by decide
  walk_at "evh"
end Lw_k00

namespace Lw_k00
open PySem Fr
local macro_rules | `(tactic| walk_at "ev") => `(tactic| simp only [bd_eq, bdK_ok, bdK_ex, bdK_bad, bdK_ite, rt_eq, bad_eq, app_ite, onE_ok, onE_ex, onE_bad, onE_ite, seq_eq, seqK_nx, seqK_rt, seqK_bk, seqK_ct, seqK_ex, seqK_bad, seqK_ite, loopK_nx, loopK_ct, loopK_bk, loopK_rt, loopK_ex, loopK_bad, loopK_ite, fn_eq, fnK_rt, fnK_nx, fnK_ex, fnK_ite, eVar_0, eVar_s, eC_eq, eOp_eq, eUn_eq, eAnd_eq, eOr_eq, eNot_eq, boK_bl, eIf_eq, eChain_eq, tB_eq, tbK_bl, tAnd_eq, tOr_eq, tNot_eq, aNil_eq, aCons_eq, eTup_eq, eLst_eq, new_eq, eB_eq, eCall_eq, eM_eq, eSl_eq, oNone_eq, oSome_eq, intK_int, sNil_eq, sExpr_eq, sRet_eq, sRetN_eq, sIf_eq, sAsg_eq, sRaise_eq, sBreak_eq, sCont_eq, sFor_eq, srcK_vals, iE_eq, srcOf_tup, srcOf_fl, srcOf_str, forV_nil, addM_int, addM_str, addM_tup, subM_int, mulM_int, mulM_str, modM_int, fdivM_int, powM_int, negM_int, ltM_int, leM_int, gtM_int, geM_int, eqM_int, eqM_str, eqM_bl, neM_int, neM_str, neM_bl, isM_non, isM_int, isM_str, isM_bl, isM_tup, isM_ref, inM_str, notInM_str, lenM_str, lenM_tup, lenM_fl, intM_int, tyM_str, slM_str, isiM_non, isiM_bl, isiM_int, isiM_str, isiM_tup, resK_some, obL_lst, obS_lst, optK_some, isLst_lst, appendM_eq, popM_eq, reverseM_eq, lenM_refE, ixM_refE, ixM_tupE, ixM_flE, ixM_strE, srcOf_refE, srcK_liveE, tyM_refE, get_last, set_last, sTry_eq, tryK_nx, tryK_rt, noEx_nx, noEx_rt, sTryAs_eq, tryAsK_nx, tryAsK_rt, dropS_nx, dropS_rt, onNone_none, kb_NoneType_bool, kb_NoneType_int, kb_NoneType_str, kb_NoneType_tuple, kb_NoneType_list, kb_NoneType_dict, kb_bool_bool, kb_bool_int, kb_bool_str, kb_bool_tuple, kb_bool_list, kb_bool_dict, kb_int_bool, kb_int_int, kb_int_str, kb_int_tuple, kb_int_list, kb_int_dict, kb_str_bool, kb_str_int, kb_str_str, kb_str_tuple, kb_str_list, kb_str_dict, kb_tuple_bool, kb_tuple_int, kb_tuple_str, kb_tuple_tuple, kb_tuple_list, kb_tuple_dict, kb_list_bool, kb_list_int, kb_list_str, kb_list_tuple, kb_list_list, kb_list_dict, kb_dict_bool, kb_dict_int, kb_dict_str, kb_dict_tuple, kb_dict_list, kb_dict_dict, List.map_cons, List.map_nil, List.cons_append, List.nil_append, List.length_cons, List.length_nil, Nat.reduceAdd, Nat.reduceSub, List.replicate, List.set_cons_zero, List.set_cons_succ, Bool.false_eq_true, Bool.not_true, Bool.not_false, if_true, if_false, reduceIte, decide_eq_true_eq, Bool.not_eq_true', decide_eq_false_iff_not, not_true_eq_false, not_false_eq_true, ite_not, decide_true, decide_false, eq_self_iff_true, indexSM_eq, startsM_str, endsM_str, splitM_str, iR1_eq, iR2_eq, rngK_1, rngK2_2, chr1_eq, subS_one, and_self, true_and, and_true, false_and, and_false, or_true, true_or, or_self, false_or, or_false, ne_eq])
local macro_rules | `(tactic| walk_at "evh") => `(tactic| simp only [bd_eq, bdK_ok, bdK_ex, bdK_bad, bdK_ite, rt_eq, bad_eq, app_ite, onE_ok, onE_ex, onE_bad, onE_ite, seq_eq, seqK_nx, seqK_rt, seqK_bk, seqK_ct, seqK_ex, seqK_bad, seqK_ite, loopK_nx, loopK_ct, loopK_bk, loopK_rt, loopK_ex, loopK_bad, loopK_ite, fn_eq, fnK_rt, fnK_nx, fnK_ex, fnK_ite, eVar_0, eVar_s, eC_eq, eOp_eq, eUn_eq, eAnd_eq, eOr_eq, eNot_eq, boK_bl, eIf_eq, eChain_eq, tB_eq, tbK_bl, tAnd_eq, tOr_eq, tNot_eq, aNil_eq, aCons_eq, eTup_eq, eLst_eq, new_eq, eB_eq, eCall_eq, eM_eq, eSl_eq, oNone_eq, oSome_eq, intK_int, sNil_eq, sExpr_eq, sRet_eq, sRetN_eq, sIf_eq, sAsg_eq, sRaise_eq, sBreak_eq, sCont_eq, sFor_eq, srcK_vals, iE_eq, srcOf_tup, srcOf_fl, srcOf_str, forV_nil, addM_int, addM_str, addM_tup, subM_int, mulM_int, mulM_str, modM_int, fdivM_int, powM_int, negM_int, ltM_int, leM_int, gtM_int, geM_int, eqM_int, eqM_str, eqM_bl, neM_int, neM_str, neM_bl, isM_non, isM_int, isM_str, isM_bl, isM_tup, isM_ref, inM_str, notInM_str, lenM_str, lenM_tup, lenM_fl, intM_int, tyM_str, slM_str, isiM_non, isiM_bl, isiM_int, isiM_str, isiM_tup, resK_some, obL_lst, obS_lst, optK_some, isLst_lst, appendM_eq, popM_eq, reverseM_eq, lenM_refE, ixM_refE, ixM_tupE, ixM_flE, ixM_strE, srcOf_refE, srcK_liveE, tyM_refE, get_last, set_last, sTry_eq, tryK_nx, tryK_rt, noEx_nx, noEx_rt, sTryAs_eq, tryAsK_nx, tryAsK_rt, dropS_nx, dropS_rt, onNone_none, kb_NoneType_bool, kb_NoneType_int, kb_NoneType_str, kb_NoneType_tuple, kb_NoneType_list, kb_NoneType_dict, kb_bool_bool, kb_bool_int, kb_bool_str, kb_bool_tuple, kb_bool_list, kb_bool_dict, kb_int_bool, kb_int_int, kb_int_str, kb_int_tuple, kb_int_list, kb_int_dict, kb_str_bool, kb_str_int, kb_str_str, kb_str_tuple, kb_str_list, kb_str_dict, kb_tuple_bool, kb_tuple_int, kb_tuple_str, kb_tuple_tuple, kb_tuple_list, kb_tuple_dict, kb_list_bool, kb_list_int, kb_list_str, kb_list_tuple, kb_list_list, kb_list_dict, kb_dict_bool, kb_dict_int, kb_dict_str, kb_dict_tuple, kb_dict_list, kb_dict_dict, List.map_cons, List.map_nil, List.cons_append, List.nil_append, List.length_cons, List.length_nil, Nat.reduceAdd, Nat.reduceSub, List.replicate, List.set_cons_zero, List.set_cons_succ, Bool.false_eq_true, Bool.not_true, Bool.not_false, if_true, if_false, reduceIte, decide_eq_true_eq, Bool.not_eq_true', decide_eq_false_iff_not, not_true_eq_false, not_false_eq_true, ite_not, decide_true, decide_false, eq_self_iff_true, indexSM_eq, startsM_str, endsM_str, splitM_str, iR1_eq, iR2_eq, rngK_1, rngK2_2, chr1_eq, subS_one, and_self, true_and, and_true, false_and, and_false, or_true, true_or, or_self, false_or, or_false, ne_eq, *])

/-! ### numbers -/
abbrev digs : List Nat := (Str.ofString "0123456789").cps.toList
theorem mem_digs (c : Nat) : c ∈ digs ↔ 48 ≤ c ∧ c ≤ 57 := by
  have e : digs = [48, 49, 50, 51, 52, 53, 54, 55, 56, 57] := by decide +kernel
  rw [e]
  simp only [List.mem_cons, List.not_mem_nil, or_false]
  omega
def allD (x : Str) : Bool := x.cps.toList.all (fun c => decide (c ∈ digs))
def nval (cs : List Nat) (a : Int) : Int := cs.foldl (fun (t : Int) (c : Nat) => t * 10 + ((c : Int) - 48)) a
def lead0 (x : Str) : Bool := decide (1 < x.length) && decide (x.cps.toList[0]? = some 48)
def numF (x : Str) : Option Int := if (allD x = true ∧ x.length ≠ 0 ∧ x.length ≤ 6) ∧ lead0 x = false then some (nval x.cps.toList 0) else none
theorem index_dig (c : Nat) (h : c ∈ digs) : Txt.index0 (Str.ofString "0123456789") ⟨#[c]⟩ = some (c - 48) := by
  obtain ⟨h1, h2⟩ := (mem_digs c).mp h
  have : c = 48 ∨ c = 49 ∨ c = 50 ∨ c = 51 ∨ c = 52 ∨ c = 53 ∨ c = 54 ∨ c = 55 ∨ c = 56 ∨ c = 57 := by omega
  rcases this with rfl | rfl | rfl | rfl | rfl | rfl | rfl | rfl | rfl | rfl <;> decide +kernel
def bNum : Stm := (sSeq (sIf (tB (eOp notInM (eVar 2) (eC (.str (Str.ofString "0123456789"))))) (sRet (eC .non)) sNil)
  (sAsg 1 (eOp addM (eOp mulM (eVar 1) (eC (.int 10))) (eM "str" indexSM (eC (.str (Str.ofString "0123456789"))) (aCons (eVar 2) aNil)))))
theorem numLoop (w : W) (S : Sto) : ∀ (cs : List Nat) (a : Int) (o : Option W), (cs.all (fun c => decide (c ∈ digs)) = true → ∃ o', forV (gN 2) bNum (cs.map chr1) [some w, some (.int a), o] S = .nx [some w, some (.int (nval cs a)), o'] S) ∧
    (cs.all (fun c => decide (c ∈ digs)) = false → forV (gN 2) bNum (cs.map chr1) [some w, some (.int a), o] S = .rt .non S)
  | [], a, o => ⟨fun _ => ⟨o, rfl⟩, fun h => by simp at h⟩
  | c :: cs, a, o => by
    rw [List.map_cons, forV_gN]
    have ih := numLoop w S cs (a * 10 + ((c : Int) - 48)) (some (chr1 c))
    by_cases hc : c ∈ digs
    · have e : bNum [some w, some (.int a), some (chr1 c)] S = .nx [some w, some (.int (a * 10 + ((c : Int) - 48))), some (chr1 c)] S := by
        unfold bNum
        have hi := index_dig c hc
        have hm : (-(2 ^ 64) < a ∧ a < 2 ^ 64) ∨ ((-(2 ^ 64) : Int) < 10 ∧ (10 : Int) < 2 ^ 64) := .inr ⟨by decide, by decide⟩
        have hcc : (((c - 48 : Nat)) : Int) = (c : Int) - 48 := by have := (mem_digs c).mp hc; omega
        walk_at "evh"
      constructor
      · intro h
        obtain ⟨o', h'⟩ := ih.1 (by simp only [List.all_cons, hc, decide_true, Bool.true_and] at h; exact h)
        exact ⟨o', by show loopK (bNum [some w, some (.int a), some (chr1 c)] S) _ = _; rw [e]; exact h'⟩
      · intro h
        show loopK (bNum [some w, some (.int a), some (chr1 c)] S) _ = _
        rw [e]
        exact ih.2 (by simp only [List.all_cons, hc, decide_true, Bool.true_and] at h; exact h)
    · have e : bNum [some w, some (.int a), some (chr1 c)] S = .rt .non S := by
        unfold bNum
        walk_at "evh"
      constructor
      · intro h; simp only [List.all_cons, hc, decide_false, Bool.false_and] at h; cases h
      · intro _
        show loopK (bNum [some w, some (.int a), some (chr1 c)] S) _ = _
        rw [e]; rfl
def bDig : Stm := (sIf (tB (eOp notInM (eVar 1) (eC (.str (Str.ofString "0123456789"))))) (sRaise (Str.ofString "InvalidText")) sNil)
theorem digLoop (w : W) (S : Sto) : ∀ (cs : List Nat) (o : Option W), (cs.all (fun c => decide (c ∈ digs)) = true → ∃ o', forV (gN 1) bDig (cs.map chr1) [some w, o] S = .nx [some w, o'] S) ∧
    (cs.all (fun c => decide (c ∈ digs)) = false → ∃ o', forV (gN 1) bDig (cs.map chr1) [some w, o] S = .ex (Str.ofString "InvalidText") none [some w, o'] S)
  | [], o => ⟨fun _ => ⟨o, rfl⟩, fun h => by simp at h⟩
  | c :: cs, o => by
    rw [List.map_cons, forV_gN]
    have ih := digLoop w S cs (some (chr1 c))
    by_cases hc : c ∈ digs
    · have e : bDig [some w, some (chr1 c)] S = .nx [some w, some (chr1 c)] S := by
        unfold bDig
        walk_at "evh"
      constructor
      · intro h
        obtain ⟨o', h'⟩ := ih.1 (by simp only [List.all_cons, hc, decide_true, Bool.true_and] at h; exact h)
        exact ⟨o', by show loopK (bDig [some w, some (chr1 c)] S) _ = _; rw [e]; exact h'⟩
      · intro h
        obtain ⟨o', h'⟩ := ih.2 (by simp only [List.all_cons, hc, decide_true, Bool.true_and] at h; exact h)
        exact ⟨o', by show loopK (bDig [some w, some (chr1 c)] S) _ = _; rw [e]; exact h'⟩
    · have e : bDig [some w, some (chr1 c)] S = .ex (Str.ofString "InvalidText") none [some w, some (chr1 c)] S := by
        unfold bDig
        walk_at "evh"
      constructor
      · intro h; simp only [List.all_cons, hc, decide_false, Bool.false_and] at h; cases h
      · intro _
        exact ⟨some (chr1 c), by show loopK (bDig [some w, some (chr1 c)] S) _ = _; rw [e]; rfl⟩
/-- the first sign -/
theorem first_sign (x : Str) (h : 1 < x.length) : ∃ c, L2.atI x.cps.toList 0 = some c ∧ x.cps.toList[0]? = some c := by
  have h0 : 0 < x.cps.toList.length := by have h2 := TL.len_tl x; have h3 : (TL.tl x).length = x.cps.toList.length := rfl; omega
  have e : x.cps.toList[0]? = some x.cps.toList[0] := List.getElem?_eq_getElem h0
  exact ⟨_, L2.atI_nat (j := 0) e, e⟩
theorem sign_eq (c d : Nat) : ((⟨#[c]⟩ : Str) = ⟨#[d]⟩) ↔ c = d := by
  constructor
  · intro h
    have := congrArg (fun s => s.cps.toList) h
    simpa using this
  · rintro rfl; rfl
theorem s0 : Str.ofString "0" = ⟨#[48]⟩ := by decide +kernel
def wOf (o : Option Int) : W := match o with
  | some n => .int n
  | none => .non
theorem number_run (x : Str) (S : Sto) (hx : x.length ≤ 12) : m__law_number [.str x] S = .ok (wOf (numF x)) S := by
  have hl : x.length ≤ sizeLine := by rw [sizeLine_n]; omega
  obtain ⟨l1, l2⟩ := numLoop (.str x) S x.cps.toList 0 none
  have hz : x = Str.ofString "" ↔ x.length = 0 := str_nil x
  unfold m__law_number b__law_number
  cases ha : x.cps.toList.all (fun c => decide (c ∈ digs)) with
  | false =>
    have e := l2 ha
    unfold bNum at e
    clear l1 l2
    have q : numF x = none := by unfold numF allD; rw [ha]; simp
    rw [q]
    clear hz
    walk_at "evh"
    rfl
  | true =>
    obtain ⟨o', e⟩ := l1 ha
    unfold bNum at e
    clear l1 l2
    by_cases h1 : x = Str.ofString ""
    · have q : numF x = none := by rw [h1]; decide +kernel
      rw [q]
      clear hz
      walk_at "evh"
      rfl
    · have h0 : x.length ≠ 0 := fun h => h1 (hz.mpr h)
      by_cases h6 : (6 : Int) < x.length
      · have q : numF x = none := by unfold numF; rw [if_neg]; rintro ⟨⟨_, _, h⟩, _⟩; omega
        rw [q]
        clear hz
        walk_at "evh"
        rfl
      · by_cases h2 : (1 : Int) < x.length
        · obtain ⟨c, e1, e2⟩ := first_sign x (by omega)
          by_cases hc : c = 48
          · have q : numF x = none := by
              unfold numF lead0
              rw [if_neg]
              rintro ⟨_, h⟩
              rw [e2, hc] at h
              simp at h
              omega
            rw [q]
            subst hc
            clear hz
            have hs := s0
            walk_at "evh"
            rfl
          · have q : numF x = some (nval x.cps.toList 0) := by
              unfold numF lead0 allD
              rw [if_pos]
              refine ⟨⟨ha, h0, by omega⟩, ?_⟩
              rw [e2]
              simp [hc]
            rw [q]
            clear hz
            have hs : ¬ ((⟨#[c]⟩ : Str) = Str.ofString "0") := by rw [s0, sign_eq]; exact hc
            walk_at "evh"
            rfl
        · have q : numF x = some (nval x.cps.toList 0) := by
            unfold numF lead0 allD
            rw [if_pos]
            refine ⟨⟨ha, h0, by omega⟩, ?_⟩
            rw [decide_eq_false (by omega)]
            rfl
          rw [q]
          clear hz
          walk_at "evh"
          rfl
theorem intText_nval (x : Str) (ha : allD x = true) (h0 : x.length ≠ 0) (hx : x.length ≤ 12) : PySem.intText? x = some (nval x.cps.toList 0) := by
  have hd : NumText.AllDigits x.cps.toList := fun c hc => by
    unfold allD at ha
    have := List.all_eq_true.mp ha c hc
    exact (mem_digs c).mp (of_decide_eq_true this)
  have hne : x.cps.toList ≠ [] := fun h => h0 (by rw [TL.len_tl]; show x.cps.toList.length = 0; rw [h]; rfl)
  rw [PySem.intText_digits hd hne (by omega)]
  have e := TL.fold_digits x.cps.toList 0 hd
  unfold nval
  have e' : x.cps.toList.foldl (fun (t : Int) (c : Nat) => t * 10 + ((c : Int) - 48)) 0 = ((x.cps.toList.foldl (fun acc c => acc * 10 + (c - 48)) 0 : Nat) : Int) := e
  rw [e']
  rfl
theorem intM_str (x : Str) (n : Int) (S : Sto) (h : PySem.intText? x = some n) (hl : x.length ≤ 640) : intM [.str x] S = .ok (.int n) S := by
  unfold intM
  simp only [h, hl, if_true]
  rfl
theorem read_number_run (x : Str) (S : Sto) (hx : x.length ≤ 12) : m_read_number [.str x] S = match numF x with
    | some n => .ok (.int n) S
    | none => .ex (Str.ofString "InvalidText") none S := by
  have hl : x.length ≤ sizeLine := by rw [sizeLine_n]; omega
  obtain ⟨l1, l2⟩ := digLoop (.str x) S x.cps.toList none
  have hz : x = Str.ofString "" ↔ x.length = 0 := str_nil x
  unfold m_read_number b_read_number
  by_cases h1 : x = Str.ofString ""
  · have q : numF x = none := by rw [h1]; decide +kernel
    rw [q]
    clear hz l1 l2
    walk_at "evh"
  · have h0 : x.length ≠ 0 := fun h => h1 (hz.mpr h)
    by_cases h6 : (6 : Int) < x.length
    · have q : numF x = none := by unfold numF; rw [if_neg]; rintro ⟨⟨_, _, h⟩, _⟩; omega
      rw [q]
      clear hz l1 l2
      walk_at "evh"
    · cases ha : x.cps.toList.all (fun c => decide (c ∈ digs)) with
      | false =>
        obtain ⟨o', e⟩ := l2 ha
        unfold bDig at e
        clear l1 l2
        have q : numF x = none := by unfold numF allD; rw [ha]; simp
        rw [q]
        clear hz
        walk_at "evh"
      | true =>
        obtain ⟨o', e⟩ := l1 ha
        unfold bDig at e
        clear l1 l2
        have hi := fun S => intM_str x _ S (intText_nval x ha h0 hx) (by omega)
        by_cases h2 : (1 : Int) < x.length
        · obtain ⟨c, e1, e2⟩ := first_sign x (by omega)
          by_cases hc : c = 48
          · have q : numF x = none := by
              unfold numF lead0
              rw [if_neg]
              rintro ⟨_, h⟩
              rw [e2, hc] at h
              simp at h
              omega
            rw [q]
            subst hc
            clear hz hi
            have hs := s0
            walk_at "evh"
          · have q : numF x = some (nval x.cps.toList 0) := by
              unfold numF lead0 allD
              rw [if_pos]
              refine ⟨⟨ha, h0, by omega⟩, ?_⟩
              rw [e2]
              simp [hc]
            rw [q]
            clear hz
            have hs : ¬ ((⟨#[c]⟩ : Str) = Str.ofString "0") := by rw [s0, sign_eq]; exact hc
            walk_at "evh"
        · have q : numF x = some (nval x.cps.toList 0) := by
            unfold numF lead0 allD
            rw [if_pos]
            refine ⟨⟨ha, h0, by omega⟩, ?_⟩
            rw [decide_eq_false (by omega)]
            rfl
          rw [q]
          clear hz
          walk_at "evh"
theorem read_run (x : Str) (S : Sto) (hx : x.length ≤ 12) : m__law_read [.str x] S = .ok (wOf (numF x)) S := by
  have e := read_number_run x S hx
  unfold m__law_read b__law_read
  cases hn : numF x with
  | some n => rw [hn] at e; walk_at "evh"; rfl
  | none =>
    rw [hn] at e
    have ht := fun s d su => tryK_yes (Str.ofString "InvalidText") d s S tab_InvalidText su (by decide +kernel)
    walk_at "evh"
    rfl
theorem number_error_run (x : Str) (S : Sto) (hx : x.length ≤ 12) (hn : numF x = none) : m__law_number_error [.str x] S = .ok (.bl true) S := by
  have e := read_number_run x S hx
  rw [hn] at e
  unfold m__law_number_error b__law_number_error
  have ht := fun i s d su => tryAsK_yes i (Str.ofString "InvalidText") d s S tab_FormroadsError su (by decide +kernel)
  have h1 := fun s S => eIsX_eq tab_ValueError (Str.ofString "InvalidText") true s S (by decide +kernel)
  have h2 := fun s S => eIsX_eq tab_InvalidName (Str.ofString "InvalidText") false s S (by decide +kernel)
  have h3 : (1 : Nat) < 2 := by decide
  walk_at "evh"
end Lw_k00

namespace Lw_k00
open PySem Fr
local macro_rules | `(tactic| walk_at "ev") => `(tactic| simp only [bd_eq, bdK_ok, bdK_ex, bdK_bad, bdK_ite, rt_eq, bad_eq, app_ite, onE_ok, onE_ex, onE_bad, onE_ite, seq_eq, seqK_nx, seqK_rt, seqK_bk, seqK_ct, seqK_ex, seqK_bad, seqK_ite, loopK_nx, loopK_ct, loopK_bk, loopK_rt, loopK_ex, loopK_bad, loopK_ite, fn_eq, fnK_rt, fnK_nx, fnK_ex, fnK_ite, eVar_0, eVar_s, eC_eq, eOp_eq, eUn_eq, eAnd_eq, eOr_eq, eNot_eq, boK_bl, eIf_eq, eChain_eq, tB_eq, tbK_bl, tAnd_eq, tOr_eq, tNot_eq, aNil_eq, aCons_eq, eTup_eq, eLst_eq, new_eq, eB_eq, eCall_eq, eM_eq, eSl_eq, oNone_eq, oSome_eq, intK_int, sNil_eq, sExpr_eq, sRet_eq, sRetN_eq, sIf_eq, sAsg_eq, sRaise_eq, sBreak_eq, sCont_eq, sFor_eq, srcK_vals, iE_eq, srcOf_tup, srcOf_fl, srcOf_str, forV_nil, addM_int, addM_str, addM_tup, subM_int, mulM_int, mulM_str, modM_int, fdivM_int, powM_int, negM_int, ltM_int, leM_int, gtM_int, geM_int, eqM_int, eqM_str, eqM_bl, neM_int, neM_str, neM_bl, isM_non, isM_int, isM_str, isM_bl, isM_tup, isM_ref, inM_str, notInM_str, lenM_str, lenM_tup, lenM_fl, intM_int, tyM_str, slM_str, isiM_non, isiM_bl, isiM_int, isiM_str, isiM_tup, resK_some, obL_lst, obS_lst, optK_some, isLst_lst, appendM_eq, popM_eq, reverseM_eq, lenM_refE, ixM_refE, ixM_tupE, ixM_flE, ixM_strE, srcOf_refE, srcK_liveE, tyM_refE, get_last, set_last, sTry_eq, tryK_nx, tryK_rt, noEx_nx, noEx_rt, sTryAs_eq, tryAsK_nx, tryAsK_rt, dropS_nx, dropS_rt, onNone_none, kb_NoneType_bool, kb_NoneType_int, kb_NoneType_str, kb_NoneType_tuple, kb_NoneType_list, kb_NoneType_dict, kb_bool_bool, kb_bool_int, kb_bool_str, kb_bool_tuple, kb_bool_list, kb_bool_dict, kb_int_bool, kb_int_int, kb_int_str, kb_int_tuple, kb_int_list, kb_int_dict, kb_str_bool, kb_str_int, kb_str_str, kb_str_tuple, kb_str_list, kb_str_dict, kb_tuple_bool, kb_tuple_int, kb_tuple_str, kb_tuple_tuple, kb_tuple_list, kb_tuple_dict, kb_list_bool, kb_list_int, kb_list_str, kb_list_tuple, kb_list_list, kb_list_dict, kb_dict_bool, kb_dict_int, kb_dict_str, kb_dict_tuple, kb_dict_list, kb_dict_dict, List.map_cons, List.map_nil, List.cons_append, List.nil_append, List.length_cons, List.length_nil, Nat.reduceAdd, Nat.reduceSub, List.replicate, List.set_cons_zero, List.set_cons_succ, Bool.false_eq_true, Bool.not_true, Bool.not_false, if_true, if_false, reduceIte, decide_eq_true_eq, Bool.not_eq_true', decide_eq_false_iff_not, not_true_eq_false, not_false_eq_true, ite_not, decide_true, decide_false, eq_self_iff_true, indexSM_eq, startsM_str, endsM_str, splitM_str, iR1_eq, iR2_eq, rngK_1, rngK2_2, chr1_eq, subS_one, and_self, true_and, and_true, false_and, and_false, or_true, true_or, or_self, false_or, or_false, ne_eq])
local macro_rules | `(tactic| walk_at "evh") => `(tactic| simp only [bd_eq, bdK_ok, bdK_ex, bdK_bad, bdK_ite, rt_eq, bad_eq, app_ite, onE_ok, onE_ex, onE_bad, onE_ite, seq_eq, seqK_nx, seqK_rt, seqK_bk, seqK_ct, seqK_ex, seqK_bad, seqK_ite, loopK_nx, loopK_ct, loopK_bk, loopK_rt, loopK_ex, loopK_bad, loopK_ite, fn_eq, fnK_rt, fnK_nx, fnK_ex, fnK_ite, eVar_0, eVar_s, eC_eq, eOp_eq, eUn_eq, eAnd_eq, eOr_eq, eNot_eq, boK_bl, eIf_eq, eChain_eq, tB_eq, tbK_bl, tAnd_eq, tOr_eq, tNot_eq, aNil_eq, aCons_eq, eTup_eq, eLst_eq, new_eq, eB_eq, eCall_eq, eM_eq, eSl_eq, oNone_eq, oSome_eq, intK_int, sNil_eq, sExpr_eq, sRet_eq, sRetN_eq, sIf_eq, sAsg_eq, sRaise_eq, sBreak_eq, sCont_eq, sFor_eq, srcK_vals, iE_eq, srcOf_tup, srcOf_fl, srcOf_str, forV_nil, addM_int, addM_str, addM_tup, subM_int, mulM_int, mulM_str, modM_int, fdivM_int, powM_int, negM_int, ltM_int, leM_int, gtM_int, geM_int, eqM_int, eqM_str, eqM_bl, neM_int, neM_str, neM_bl, isM_non, isM_int, isM_str, isM_bl, isM_tup, isM_ref, inM_str, notInM_str, lenM_str, lenM_tup, lenM_fl, intM_int, tyM_str, slM_str, isiM_non, isiM_bl, isiM_int, isiM_str, isiM_tup, resK_some, obL_lst, obS_lst, optK_some, isLst_lst, appendM_eq, popM_eq, reverseM_eq, lenM_refE, ixM_refE, ixM_tupE, ixM_flE, ixM_strE, srcOf_refE, srcK_liveE, tyM_refE, get_last, set_last, sTry_eq, tryK_nx, tryK_rt, noEx_nx, noEx_rt, sTryAs_eq, tryAsK_nx, tryAsK_rt, dropS_nx, dropS_rt, onNone_none, kb_NoneType_bool, kb_NoneType_int, kb_NoneType_str, kb_NoneType_tuple, kb_NoneType_list, kb_NoneType_dict, kb_bool_bool, kb_bool_int, kb_bool_str, kb_bool_tuple, kb_bool_list, kb_bool_dict, kb_int_bool, kb_int_int, kb_int_str, kb_int_tuple, kb_int_list, kb_int_dict, kb_str_bool, kb_str_int, kb_str_str, kb_str_tuple, kb_str_list, kb_str_dict, kb_tuple_bool, kb_tuple_int, kb_tuple_str, kb_tuple_tuple, kb_tuple_list, kb_tuple_dict, kb_list_bool, kb_list_int, kb_list_str, kb_list_tuple, kb_list_list, kb_list_dict, kb_dict_bool, kb_dict_int, kb_dict_str, kb_dict_tuple, kb_dict_list, kb_dict_dict, List.map_cons, List.map_nil, List.cons_append, List.nil_append, List.length_cons, List.length_nil, Nat.reduceAdd, Nat.reduceSub, List.replicate, List.set_cons_zero, List.set_cons_succ, Bool.false_eq_true, Bool.not_true, Bool.not_false, if_true, if_false, reduceIte, decide_eq_true_eq, Bool.not_eq_true', decide_eq_false_iff_not, not_true_eq_false, not_false_eq_true, ite_not, decide_true, decide_false, eq_self_iff_true, indexSM_eq, startsM_str, endsM_str, splitM_str, iR1_eq, iR2_eq, rngK_1, rngK2_2, chr1_eq, subS_one, and_self, true_and, and_true, false_and, and_false, or_true, true_or, or_self, false_or, or_false, ne_eq, *])

/-! ### words -/
theorem tl_sp : TL.tl (Str.ofString " ") = [32] := by decide +kernel
theorem tl_sp2 : TL.tl (Str.ofString "  ") = [32, 32] := by decide +kernel
theorem pre1 (c : Nat) (r : List Nat) : TL.pre [32] (c :: r) = decide (c = 32) := by
  unfold TL.pre
  simp only [List.length_cons, List.length_nil, List.take_succ_cons, List.take_zero]
  by_cases h : c = 32
  · subst h; rfl
  · rw [decide_eq_false h]; simp [h]
theorem spl_cons (acc r : List Nat) (c : Nat) : TL.spl [32] 0 acc (c :: r) = if c = 32 then acc :: TL.spl [32] 0 [] r else TL.spl [32] 0 (acc ++ [c]) r := by
  by_cases h : c = 32
  · rw [if_pos h]
    exact TL.spl_hit (by rw [pre1, h]; rfl)
  · rw [if_neg h]
    exact TL.spl_miss (by rw [pre1, decide_eq_false h])
/-- a part is empty: p tells whether a space or the beginning stands ahead -/
def B : Bool → List Nat → Bool
  | p, [] => p
  | p, c :: r => if c = 32 then p || B true r else B false r
theorem nil_mem : ∀ (cs acc : List Nat), [] ∈ TL.spl [32] 0 acc cs ↔ B acc.isEmpty cs = true
  | [], acc => by
    rw [TL.spl_nil]
    cases acc <;> simp [B]
  | c :: r, acc => by
    rw [spl_cons]
    unfold B
    by_cases h : c = 32
    · rw [if_pos h, if_pos h, List.mem_cons, nil_mem r []]
      cases acc <;> simp
    · rw [if_neg h, if_neg h, nil_mem r (acc ++ [c])]
      have : (acc ++ [c]).isEmpty = false := by cases acc <;> rfl
      rw [this]
def adj (cs : List Nat) : Prop := ∃ i, (cs.drop i).take 2 = [32, 32]
theorem adj_nil : ¬ adj [] := by rintro ⟨i, h⟩; simp at h
theorem adj_cons (c : Nat) (r : List Nat) : adj (c :: r) ↔ (c = 32 ∧ r.head? = some 32) ∨ adj r := by
  constructor
  · rintro ⟨i, h⟩
    cases i with
    | zero =>
      left
      cases r with
      | nil => simp at h
      | cons d r => simp at h; exact ⟨h.1, by simp [h.2]⟩
    | succ i => right; exact ⟨i, by simpa using h⟩
  · rintro (⟨rfl, h⟩ | ⟨i, h⟩)
    · cases r with
      | nil => simp at h
      | cons d r => simp at h; subst h; exact ⟨0, rfl⟩
    · exact ⟨i + 1, by simpa using h⟩
theorem last_cons (c d : Nat) (r : List Nat) : (c :: d :: r).getLast? = (d :: r).getLast? := List.getLast?_cons_cons
theorem B_iff : ∀ cs : List Nat, (B false cs = true ↔ cs.getLast? = some 32 ∨ adj cs) ∧ (B true cs = true ↔ cs = [] ∨ cs.head? = some 32 ∨ cs.getLast? = some 32 ∨ adj cs)
  | [] => ⟨by simp [B, adj_nil], by simp [B]⟩
  | c :: r => by
    obtain ⟨ih1, ih2⟩ := B_iff r
    by_cases h : c = 32
    · subst h
      constructor
      · unfold B
        rw [if_pos rfl, Bool.false_or, ih2, adj_cons]
        cases r with
        | nil => simp
        | cons d r => rw [last_cons]; simp; exact ⟨fun h => h.elim (fun a => .inr (.inl a)) fun h => h.elim .inl fun a => .inr (.inr a), fun h => h.elim (fun a => .inr (.inl a)) fun h => h.elim .inl fun a => .inr (.inr a)⟩
      · unfold B
        simp
    · have key : (r.getLast? = some 32 ∨ adj r) ↔ ((c :: r).getLast? = some 32 ∨ adj (c :: r)) := by
        rw [adj_cons]
        cases r with
        | nil => simp [h]
        | cons d r => rw [last_cons]; simp [h]
      constructor
      · unfold B
        rw [if_neg h, ih1, key]
      · unfold B
        rw [if_neg h, ih1, key]
        simp [h]
def badF (x : Str) : Bool := decide (x = Str.ofString "") || (Txt.startswith x (Str.ofString " ") || (Txt.endswith x (Str.ofString " ") || subS (Str.ofString "  ") x))
theorem starts_iff (x : Str) : Txt.startswith x (Str.ofString " ") = true ↔ x.cps.toList.head? = some 32 := by
  have h := TL.at_iff (x := x) (y := Str.ofString " ") (by rw [tl_sp]; simp) 0
  rw [tl_sp] at h
  have e : Txt.startswith x (Str.ofString " ") = true ↔ PySem.StrLaws.At x (Str.ofString " ") x.length 0 := by
    unfold Txt.startswith PySem.StrLaws.At
    simp
  rw [e, h, List.drop_zero]
  show TL.pre [32] x.cps.toList = true ↔ _
  cases x.cps.toList with
  | nil => simp [TL.pre]
  | cons c r => rw [pre1]; simp
theorem ends_iff (x : Str) : Txt.endswith x (Str.ofString " ") = true ↔ x.cps.toList.getLast? = some 32 := by
  have hl1 : (Str.ofString " ").length = 1 := by decide +kernel
  have h := TL.at_iff (x := x) (y := Str.ofString " ") (by rw [tl_sp]; simp) (x.length - 1)
  rw [tl_sp] at h
  have hlen : x.length = x.cps.toList.length := TL.len_tl x
  by_cases h0 : x.length = 0
  · have e0 : x.cps.toList = [] := List.length_eq_zero_iff.mp (by omega)
    have : Txt.endswith x (Str.ofString " ") = false := by
      unfold Txt.endswith
      rw [hl1, h0]
      rfl
    rw [this, e0]
    simp
  · have e : Txt.endswith x (Str.ofString " ") = true ↔ PySem.StrLaws.At x (Str.ofString " ") x.length (x.length - 1) := by
      unfold Txt.endswith PySem.StrLaws.At
      rw [hl1]
      simp
      intro _
      omega
    rw [e, h]
    show TL.pre [32] (x.cps.toList.drop (x.length - 1)) = true ↔ _
    have hl : x.length - 1 < x.cps.toList.length := by omega
    rw [List.drop_eq_getElem_cons hl, pre1, List.getLast?_eq_getElem?]
    have e2 : x.cps.toList.length - 1 = x.length - 1 := by omega
    rw [e2, List.getElem?_eq_getElem hl]
    simp
theorem adj_iff (x : Str) : subS (Str.ofString "  ") x = true ↔ adj x.cps.toList := by
  unfold subS
  rw [PySem.StrLaws.found_iff]
  have h := fun i => TL.at_iff (x := x) (y := Str.ofString "  ") (by rw [tl_sp2]; simp) i
  unfold adj
  constructor
  · rintro ⟨i, h1, h2⟩
    have := (h i).mp ⟨h1, h2⟩
    rw [tl_sp2] at this
    exact ⟨i, beq_iff_eq.mp this⟩
  · rintro ⟨i, h1⟩
    have : TL.pre (TL.tl (Str.ofString "  ")) ((TL.tl x).drop i) = true := by
      rw [tl_sp2]
      exact beq_iff_eq.mpr h1
    obtain ⟨q1, q2⟩ := (h i).mpr this
    exact ⟨i, q1, q2⟩
theorem split_tl (x : Str) : (Txt.split x (Str.ofString " ")).map TL.tl = TL.spl [32] 0 [] x.cps.toList := by
  have h := TL.split_spl x (Str.ofString " ") (by rw [tl_sp]; simp) (TL.kind_ok (by decide +kernel))
  rw [tl_sp] at h
  exact h
theorem bad_iff (x : Str) : (Str.ofString "" ∈ Txt.split x (Str.ofString " ")) ↔ badF x = true := by
  have e1 : (Str.ofString "" ∈ Txt.split x (Str.ofString " ")) ↔ [] ∈ (Txt.split x (Str.ofString " ")).map TL.tl := by
    constructor
    · intro h
      have := List.mem_map_of_mem (f := TL.tl) h
      rwa [show TL.tl (Str.ofString "") = [] by decide +kernel] at this
    · intro h
      obtain ⟨y, hy, he⟩ := List.mem_map.mp h
      have : y = Str.ofString "" := TL.ext_tl (by rw [he]; decide +kernel)
      rw [← this]; exact hy
  rw [e1, split_tl, nil_mem, List.isEmpty_nil, (B_iff _).2]
  unfold badF
  simp only [Bool.or_eq_true, decide_eq_true_eq, starts_iff, ends_iff, adj_iff]
  have e2 : x.cps.toList = [] ↔ x = Str.ofString "" := by
    rw [str_nil, TL.len_tl]
    exact List.length_eq_zero_iff.symm
  rw [e2]
/-- no part has a space -/
theorem part_free : ∀ (cs acc : List Nat), 32 ∉ acc → ∀ p ∈ TL.spl [32] 0 acc cs, 32 ∉ p
  | [], acc, h, p, hp => by
    rw [TL.spl_nil] at hp
    simp at hp
    subst hp; exact h
  | c :: r, acc, h, p, hp => by
    rw [spl_cons] at hp
    by_cases hc : c = 32
    · rw [if_pos hc] at hp
      rcases List.mem_cons.mp hp with rfl | hp
      · exact h
      · exact part_free r [] (by simp) p hp
    · rw [if_neg hc] at hp
      exact part_free r (acc ++ [c]) (by simp [h]; exact fun e => hc e.symm) p hp
theorem spl_ne : ∀ (cs acc : List Nat), TL.spl [32] 0 acc cs ≠ []
  | [], acc => by rw [TL.spl_nil]; simp
  | c :: r, acc => by
    rw [spl_cons]
    split
    · simp
    · exact spl_ne r _
theorem joinL_cons (p : List Nat) (ps : List (List Nat)) (h : ps ≠ []) : TL.joinL [32] (p :: ps) = p ++ ([32] ++ TL.joinL [32] ps) := by
  cases ps with
  | nil => exact absurd rfl h
  | cons q r => rfl
theorem join_spl : ∀ (cs acc : List Nat), TL.joinL [32] (TL.spl [32] 0 acc cs) = acc ++ cs
  | [], acc => by rw [TL.spl_nil]; simp [TL.joinL]
  | c :: r, acc => by
    rw [spl_cons]
    by_cases hc : c = 32
    · rw [if_pos hc, joinL_cons _ _ (spl_ne r []), join_spl r [], hc]
      simp
    · rw [if_neg hc, join_spl r (acc ++ [c])]
      simp
theorem join_split (x : Str) : Txt.join (Str.ofString " ") (Txt.split x (Str.ofString " ")) = x := by
  apply TL.ext_tl
  rw [TL.join_eq, TL.tl_join, tl_sp, split_tl, join_spl]
  rfl
theorem split_free (x : Str) : ∀ y ∈ Txt.split x (Str.ofString " "), subS (Str.ofString " ") y = false := by
  intro y hy
  have h := List.mem_map_of_mem (f := TL.tl) hy
  rw [split_tl] at h
  have h2 := part_free x.cps.toList [] (by simp) _ h
  have e : Str.ofString " " = ⟨#[32]⟩ := by decide +kernel
  rw [e, subS_one]
  exact decide_eq_false h2
theorem split_ne (x : Str) : Txt.split x (Str.ofString " ") ≠ [] := by
  intro h
  have e := split_tl x
  rw [h] at e
  exact spl_ne _ _ e.symm
theorem sum_len : ∀ (cs acc : List Nat), ((TL.spl [32] 0 acc cs).map List.length).sum + (TL.spl [32] 0 acc cs).length ≤ acc.length + cs.length + 1
  | [], acc => by rw [TL.spl_nil]; simp
  | c :: r, acc => by
    rw [spl_cons]
    by_cases hc : c = 32
    · rw [if_pos hc]
      have := sum_len r []
      simp only [List.map_cons, List.sum_cons, List.length_cons, List.length_nil] at this ⊢
      omega
    · rw [if_neg hc]
      have := sum_len r (acc ++ [c])
      simp only [List.length_append, List.length_cons, List.length_nil] at this ⊢
      omega
theorem split_small (x : Str) (hx : x.length ≤ 12) : ((Txt.split x (Str.ofString " ")).map (·.length)).sum + (Txt.split x (Str.ofString " ")).length * (Str.ofString " ").length ≤ 16777216 ∧ (Txt.split x (Str.ofString " ")).length ≤ 13 := by
  have h := sum_len x.cps.toList []
  rw [← split_tl] at h
  have e : ((Txt.split x (Str.ofString " ")).map TL.tl).map List.length = (Txt.split x (Str.ofString " ")).map (·.length) := by
    rw [List.map_map]
    apply List.map_congr_left
    intro y _
    exact (TL.len_tl y).symm
  rw [e, List.length_map] at h
  have hl : x.length = x.cps.toList.length := TL.len_tl x
  rw [show (Str.ofString " ").length = 1 by decide +kernel]
  simp only [List.length_nil] at h
  omega
end Lw_k00

namespace Lw_k00
open PySem Fr
local macro_rules | `(tactic| walk_at "ev") => `(tactic| simp only [bd_eq, bdK_ok, bdK_ex, bdK_bad, bdK_ite, rt_eq, bad_eq, app_ite, onE_ok, onE_ex, onE_bad, onE_ite, seq_eq, seqK_nx, seqK_rt, seqK_bk, seqK_ct, seqK_ex, seqK_bad, seqK_ite, loopK_nx, loopK_ct, loopK_bk, loopK_rt, loopK_ex, loopK_bad, loopK_ite, fn_eq, fnK_rt, fnK_nx, fnK_ex, fnK_ite, eVar_0, eVar_s, eC_eq, eOp_eq, eUn_eq, eAnd_eq, eOr_eq, eNot_eq, boK_bl, eIf_eq, eChain_eq, tB_eq, tbK_bl, tAnd_eq, tOr_eq, tNot_eq, aNil_eq, aCons_eq, eTup_eq, eLst_eq, new_eq, eB_eq, eCall_eq, eM_eq, eSl_eq, oNone_eq, oSome_eq, intK_int, sNil_eq, sExpr_eq, sRet_eq, sRetN_eq, sIf_eq, sAsg_eq, sRaise_eq, sBreak_eq, sCont_eq, sFor_eq, srcK_vals, iE_eq, srcOf_tup, srcOf_fl, srcOf_str, forV_nil, addM_int, addM_str, addM_tup, subM_int, mulM_int, mulM_str, modM_int, fdivM_int, powM_int, negM_int, ltM_int, leM_int, gtM_int, geM_int, eqM_int, eqM_str, eqM_bl, neM_int, neM_str, neM_bl, isM_non, isM_int, isM_str, isM_bl, isM_tup, isM_ref, inM_str, notInM_str, lenM_str, lenM_tup, lenM_fl, intM_int, tyM_str, slM_str, isiM_non, isiM_bl, isiM_int, isiM_str, isiM_tup, resK_some, obL_lst, obS_lst, optK_some, isLst_lst, appendM_eq, popM_eq, reverseM_eq, lenM_refE, ixM_refE, ixM_tupE, ixM_flE, ixM_strE, srcOf_refE, srcK_liveE, tyM_refE, get_last, set_last, sTry_eq, tryK_nx, tryK_rt, noEx_nx, noEx_rt, sTryAs_eq, tryAsK_nx, tryAsK_rt, dropS_nx, dropS_rt, onNone_none, kb_NoneType_bool, kb_NoneType_int, kb_NoneType_str, kb_NoneType_tuple, kb_NoneType_list, kb_NoneType_dict, kb_bool_bool, kb_bool_int, kb_bool_str, kb_bool_tuple, kb_bool_list, kb_bool_dict, kb_int_bool, kb_int_int, kb_int_str, kb_int_tuple, kb_int_list, kb_int_dict, kb_str_bool, kb_str_int, kb_str_str, kb_str_tuple, kb_str_list, kb_str_dict, kb_tuple_bool, kb_tuple_int, kb_tuple_str, kb_tuple_tuple, kb_tuple_list, kb_tuple_dict, kb_list_bool, kb_list_int, kb_list_str, kb_list_tuple, kb_list_list, kb_list_dict, kb_dict_bool, kb_dict_int, kb_dict_str, kb_dict_tuple, kb_dict_list, kb_dict_dict, List.map_cons, List.map_nil, List.cons_append, List.nil_append, List.length_cons, List.length_nil, Nat.reduceAdd, Nat.reduceSub, List.replicate, List.set_cons_zero, List.set_cons_succ, Bool.false_eq_true, Bool.not_true, Bool.not_false, if_true, if_false, reduceIte, decide_eq_true_eq, Bool.not_eq_true', decide_eq_false_iff_not, not_true_eq_false, not_false_eq_true, ite_not, decide_true, decide_false, eq_self_iff_true, indexSM_eq, startsM_str, endsM_str, splitM_str, iR1_eq, iR2_eq, rngK_1, rngK2_2, chr1_eq, subS_one, and_self, true_and, and_true, false_and, and_false, or_true, true_or, or_self, false_or, or_false, ne_eq])
local macro_rules | `(tactic| walk_at "evh") => `(tactic| simp only [bd_eq, bdK_ok, bdK_ex, bdK_bad, bdK_ite, rt_eq, bad_eq, app_ite, onE_ok, onE_ex, onE_bad, onE_ite, seq_eq, seqK_nx, seqK_rt, seqK_bk, seqK_ct, seqK_ex, seqK_bad, seqK_ite, loopK_nx, loopK_ct, loopK_bk, loopK_rt, loopK_ex, loopK_bad, loopK_ite, fn_eq, fnK_rt, fnK_nx, fnK_ex, fnK_ite, eVar_0, eVar_s, eC_eq, eOp_eq, eUn_eq, eAnd_eq, eOr_eq, eNot_eq, boK_bl, eIf_eq, eChain_eq, tB_eq, tbK_bl, tAnd_eq, tOr_eq, tNot_eq, aNil_eq, aCons_eq, eTup_eq, eLst_eq, new_eq, eB_eq, eCall_eq, eM_eq, eSl_eq, oNone_eq, oSome_eq, intK_int, sNil_eq, sExpr_eq, sRet_eq, sRetN_eq, sIf_eq, sAsg_eq, sRaise_eq, sBreak_eq, sCont_eq, sFor_eq, srcK_vals, iE_eq, srcOf_tup, srcOf_fl, srcOf_str, forV_nil, addM_int, addM_str, addM_tup, subM_int, mulM_int, mulM_str, modM_int, fdivM_int, powM_int, negM_int, ltM_int, leM_int, gtM_int, geM_int, eqM_int, eqM_str, eqM_bl, neM_int, neM_str, neM_bl, isM_non, isM_int, isM_str, isM_bl, isM_tup, isM_ref, inM_str, notInM_str, lenM_str, lenM_tup, lenM_fl, intM_int, tyM_str, slM_str, isiM_non, isiM_bl, isiM_int, isiM_str, isiM_tup, resK_some, obL_lst, obS_lst, optK_some, isLst_lst, appendM_eq, popM_eq, reverseM_eq, lenM_refE, ixM_refE, ixM_tupE, ixM_flE, ixM_strE, srcOf_refE, srcK_liveE, tyM_refE, get_last, set_last, sTry_eq, tryK_nx, tryK_rt, noEx_nx, noEx_rt, sTryAs_eq, tryAsK_nx, tryAsK_rt, dropS_nx, dropS_rt, onNone_none, kb_NoneType_bool, kb_NoneType_int, kb_NoneType_str, kb_NoneType_tuple, kb_NoneType_list, kb_NoneType_dict, kb_bool_bool, kb_bool_int, kb_bool_str, kb_bool_tuple, kb_bool_list, kb_bool_dict, kb_int_bool, kb_int_int, kb_int_str, kb_int_tuple, kb_int_list, kb_int_dict, kb_str_bool, kb_str_int, kb_str_str, kb_str_tuple, kb_str_list, kb_str_dict, kb_tuple_bool, kb_tuple_int, kb_tuple_str, kb_tuple_tuple, kb_tuple_list, kb_tuple_dict, kb_list_bool, kb_list_int, kb_list_str, kb_list_tuple, kb_list_list, kb_list_dict, kb_dict_bool, kb_dict_int, kb_dict_str, kb_dict_tuple, kb_dict_list, kb_dict_dict, List.map_cons, List.map_nil, List.cons_append, List.nil_append, List.length_cons, List.length_nil, Nat.reduceAdd, Nat.reduceSub, List.replicate, List.set_cons_zero, List.set_cons_succ, Bool.false_eq_true, Bool.not_true, Bool.not_false, if_true, if_false, reduceIte, decide_eq_true_eq, Bool.not_eq_true', decide_eq_false_iff_not, not_true_eq_false, not_false_eq_true, ite_not, decide_true, decide_false, eq_self_iff_true, indexSM_eq, startsM_str, endsM_str, splitM_str, iR1_eq, iR2_eq, rngK_1, rngK2_2, chr1_eq, subS_one, and_self, true_and, and_true, false_and, and_false, or_true, true_or, or_self, false_or, or_false, ne_eq, *])

def bW : Stm := (sIf (tB (eOp eqM (eVar 2) (eC (.str (Str.ofString ""))))) (sRaise (Str.ofString "InvalidText")) sNil)
theorem wordsLoop (n : Nat) (S : Sto) (a b : W) (len : Nat) : ∀ (suf pre : List Str) (o : Option W), S[n]? = some (.lst ((pre ++ suf).map .str)) → (pre ++ suf).length = len →
    (Str.ofString "" ∉ suf → ∃ o', forL (gN 2) bW n len suf.length [some a, some b, o] S = .nx [some a, some b, o'] S) ∧
    (Str.ofString "" ∈ suf → ∃ o', forL (gN 2) bW n len suf.length [some a, some b, o] S = .ex (Str.ofString "InvalidText") none [some a, some b, o'] S)
  | [], pre, o, hS, hl => ⟨fun _ => ⟨o, forL_done _ n len _ _ _ S hS (by simpa using hl)⟩, fun h => by simp at h⟩
  | y :: suf, pre, o, hS, hl => by
    have e0 : forL (gN 2) bW n len (suf.length + 1) [some a, some b, o] S = loopK (bW [some a, some b, some (.str y)] S) (forL (gN 2) bW n len suf.length) := by
      have := forL_step 2 n len bW (pre.map .str) (suf.map .str) (.str y) [some a, some b, o] S (by simpa using hS) (by simpa using hl)
      rw [List.length_map] at this
      exact this
    have ih := wordsLoop n S a b len suf (pre ++ [y]) (some (.str y)) (by simpa using hS) (by simpa using hl)
    rw [List.length_cons, e0]
    by_cases hy : y = Str.ofString ""
    · have e : bW [some a, some b, some (.str y)] S = .ex (Str.ofString "InvalidText") none [some a, some b, some (.str y)] S := by
        unfold bW
        walk_at "evh"
      constructor
      · intro h; exact absurd (List.mem_cons.mpr (.inl hy.symm)) h
      · intro _; exact ⟨some (.str y), by rw [e]; rfl⟩
    · have e : bW [some a, some b, some (.str y)] S = .nx [some a, some b, some (.str y)] S := by
        unfold bW
        walk_at "evh"
      constructor
      · intro h
        obtain ⟨o', h'⟩ := ih.1 fun q => h (List.mem_cons_of_mem _ q)
        exact ⟨o', by rw [e]; exact h'⟩
      · intro h
        rcases List.mem_cons.mp h with q | q
        · exact absurd q.symm hy
        · obtain ⟨o', h'⟩ := ih.2 q
          exact ⟨o', by rw [e]; exact h'⟩
abbrev wsOf (x : Str) : Ob := .lst ((Txt.split x (Str.ofString " ")).map .str)
theorem split_words_run (x : Str) (S : Sto) (hx : x.length ≤ 12) : m_split_words [.str x] S = if badF x = true then .ex (Str.ofString "InvalidText") none (S ++ [wsOf x]) else .ok (.ref S.length) (S ++ [wsOf x]) := by
  have hc : ((Str.ofString " ").length == 0) = false ∧ x.length + 2 ≤ sizeLine := ⟨by decide +kernel, by rw [sizeLine_n]; omega⟩
  obtain ⟨l1, l2⟩ := wordsLoop S.length (S ++ [wsOf x]) (.str x) (.ref S.length) _ (Txt.split x (Str.ofString " ")) [] none (by rw [List.nil_append]; exact get_last S _) rfl
  have hlm : ((Txt.split x (Str.ofString " ")).map W.str).length = (Txt.split x (Str.ofString " ")).length := List.length_map _
  simp only [List.nil_append] at l1 l2
  unfold m_split_words b_split_words
  cases hb : badF x with
  | true =>
    obtain ⟨o', e⟩ := l2 ((bad_iff x).mpr hb)
    unfold bW at e
    clear l1 l2
    walk_at "evh"
  | false =>
    obtain ⟨o', e⟩ := l1 (fun h => by rw [(bad_iff x).mp h] at hb; cases hb)
    unfold bW at e
    clear l1 l2
    walk_at "evh"
theorem words_error_run (x : Str) (S : Sto) (hx : x.length ≤ 12) (hb : badF x = true) : m__law_words_error [.str x] S = .ok (.bl true) (S ++ [wsOf x]) := by
  have e := split_words_run x S hx
  rw [hb] at e
  unfold m__law_words_error b__law_words_error
  have ht := fun i s d su => tryAsK_yes i (Str.ofString "InvalidText") d s (S ++ [wsOf x]) tab_FormroadsError su (by decide +kernel)
  have h1 := fun s S => eIsX_eq tab_ValueError (Str.ofString "InvalidText") true s S (by decide +kernel)
  have h2 := fun s S => eIsX_eq tab_InvalidName (Str.ofString "InvalidText") false s S (by decide +kernel)
  have h3 : (1 : Nat) < 2 := by decide
  walk_at "evh"
def bG : Stm := (sIf (tOr (tNot (tB (eB isiM (aCons (eVar 2) (aCons (eC (.ty "str")) aNil))))) (tOr (tB (eOp eqM (eVar 2) (eC (.str (Str.ofString ""))))) (tB (eOp inM (eC (.str (Str.ofString " "))) (eVar 2))))) (sRet (eC (.bl false))) sNil)
theorem goodLoop (n : Nat) (S : Sto) (a b : W) (len : Nat) : ∀ (suf pre : List Str) (o : Option W), S[n]? = some (.lst ((pre ++ suf).map .str)) → (pre ++ suf).length = len → (∀ y ∈ suf, y ≠ Str.ofString "" ∧ subS (Str.ofString " ") y = false) →
    ∃ o', forL (gN 2) bG n len suf.length [some a, some b, o] S = .nx [some a, some b, o'] S
  | [], pre, o, hS, hl, _ => ⟨o, forL_done _ n len _ _ _ S hS (by simpa using hl)⟩
  | y :: suf, pre, o, hS, hl, hy => by
    have e0 : forL (gN 2) bG n len (suf.length + 1) [some a, some b, o] S = loopK (bG [some a, some b, some (.str y)] S) (forL (gN 2) bG n len suf.length) := by
      have := forL_step 2 n len bG (pre.map .str) (suf.map .str) (.str y) [some a, some b, o] S (by simpa using hS) (by simpa using hl)
      rw [List.length_map] at this
      exact this
    obtain ⟨o', h'⟩ := goodLoop n S a b len suf (pre ++ [y]) (some (.str y)) (by simpa using hS) (by simpa using hl) fun z hz => hy z (List.mem_cons_of_mem _ hz)
    obtain ⟨y1, y2⟩ := hy y (List.mem_cons_self ..)
    have e : bG [some a, some b, some (.str y)] S = .nx [some a, some b, some (.str y)] S := by
      unfold bG
      clear h' e0 hS hl hy
      walk_at "evh"
    exact ⟨o', by rw [List.length_cons, e0, e]; exact h'⟩
theorem good_words_run (x : Str) (S : Sto) (n : Nat) (hx : x.length ≤ 12) (hb : badF x = false) (hS : S[n]? = some (wsOf x)) : m__law_good_words [.ref n, .str x] S = .ok (.bl true) S := by
  obtain ⟨q1, q2⟩ := split_small x hx
  obtain ⟨o', e⟩ := goodLoop n S (.ref n) (.str x) _ (Txt.split x (Str.ofString " ")) [] none (by rw [List.nil_append]; exact hS) rfl (fun y hy => ⟨fun h => (Bool.false_ne_true (hb.symm.trans ((bad_iff x).mp (h ▸ hy)))).elim, split_free x y hy⟩)
  have hlm : ((Txt.split x (Str.ofString " ")).map W.str).length = (Txt.split x (Str.ofString " ")).length := List.length_map _
  have hne : ¬ (((Txt.split x (Str.ofString " ")).length : Int) = 0) := by
    intro h
    exact split_ne x (List.length_eq_zero_iff.mp (by omega))
  have hj : joinM (.str (Str.ofString " ")) [.ref n] S = .ok (.str x) S := by
    rw [joinM_ref _ n _ S hS, if_pos q1, join_split]
  have hi := isiM_ref n _ "list" S hS
  simp only [List.nil_append] at e
  unfold bG at e
  unfold m__law_good_words b__law_good_words
  clear q1 q2
  walk_at "evh"
/-! ### the law -/
theorem same_bl (a b : Bool) (j : Nat) (S : Sto) : m__law_same (j + 1) [.bl a, .bl b] S = .ok (.bl (decide (a = b))) S := by
  unfold m__law_same b__law_same
  walk_at "ev"
theorem same_str (a b : Str) (j : Nat) (S : Sto) : m__law_same (j + 1) [.str a, .str b] S = .ok (.bl (decide (a = b))) S := by
  unfold m__law_same b__law_same
  walk_at "ev"
theorem same_int (a b : Int) (j : Nat) (S : Sto) : m__law_same (j + 1) [.int a, .int b] S = .ok (.bl (decide (a = b))) S := by
  unfold m__law_same b__law_same
  walk_at "ev"
theorem same_non (j : Nat) (S : Sto) : m__law_same (j + 1) [.non, .non] S = .ok (.bl true) S := by
  unfold m__law_same b__law_same
  walk_at "ev"
theorem same_wOf (o : Option Int) (j : Nat) (S : Sto) : m__law_same (j + 1) [wOf o, wOf o] S = .ok (.bl true) S := by
  cases o with
  | none => exact same_non j S
  | some n => show m__law_same (j + 1) [.int n, .int n] S = _; rw [same_int]; simp
def eBad : Exp := (eOr (eOp eqM (eVar 4) (eC (.str (Str.ofString "")))) (eOr (eM "str" startsM (eVar 4) (aCons (eC (.str (Str.ofString " "))) aNil)) (eOr (eM "str" endsM (eVar 4) (aCons (eC (.str (Str.ofString " "))) aNil)) (eOp inM (eC (.str (Str.ofString "  "))) (eVar 4)))))
theorem eBad_run (a0 a1 a2 a3 : Option W) (x : Str) (r : Sl) (S : Sto) : eBad (a0 :: a1 :: a2 :: a3 :: some (.str x) :: r) S = .ok (.bl (badF x)) S := by
  unfold eBad badF
  by_cases h1 : x = Str.ofString ""
  · walk_at "evh"; simp
  · cases h2 : Txt.startswith x (Str.ofString " ") with
    | true => walk_at "evh"; simp
    | false =>
      cases h3 : Txt.endswith x (Str.ofString " ") with
      | true => walk_at "evh"; simp
      | false => walk_at "evh"; simp [h1]
theorem e_body : ∃ b, b_law = (sSeq (sAsg 1 (eCall m__law_draws (aCons (eVar 0) aNil)))
  (sSeq (sAsg 2 (eCall m__law_text (aCons (eVar 1) aNil)))
  (sSeq (sAsg 3 (eCall m__law_text (aCons (eVar 1) aNil)))
  (sSeq (sFor (iE (eLst (aCons (eVar 2) (aCons (eVar 3) (aCons (eVar 2) aNil))))) (gN 4) b) (sRet (eC (.bl true))))))) ∧
  ∀ (a0 a1 a2 a3 : Option W) (x : Str) (o5 o6 o7 o8 o9 : Option W) (S : Sto), x.length ≤ 12 → ∃ p5 p6 p7 p8 p9 r, b [a0, a1, a2, a3, some (.str x), o5, o6, o7, o8, o9] S = .nx [a0, a1, a2, a3, some (.str x), p5, p6, p7, p8, p9] (S ++ r) := by
  refine ⟨_, rfl, fun a0 a1 a2 a3 x o5 o6 o7 o8 o9 S hx => ?_⟩
  rw [show (eOr (eOp eqM (eVar 4) (eC (.str (Str.ofString "")))) (eOr (eM "str" startsM (eVar 4) (aCons (eC (.str (Str.ofString " "))) aNil)) (eOr (eM "str" endsM (eVar 4) (aCons (eC (.str (Str.ofString " "))) aNil)) (eOp inM (eC (.str (Str.ofString "  "))) (eVar 4))))) = eBad from rfl]
  have n1 := fun S => law_is_name_run x S hx
  have n2 := fun S => is_name_run x S hx
  have n3 := fun S => checked_run x S hx
  have n4 := fun S => number_run x S hx
  have n5 := fun S => read_run x S hx
  have n6 := fun S => split_words_run x S hx
  have s1 := fun a S => same_bl a a 2 S
  have s2 := fun a S => same_str a a 2 S
  have s3 := fun S => same_non 2 S
  have s4 := fun o S => same_wOf o 2 S
  have tw : ∀ o S, isM (wOf o) .non S = .ok (.bl (decide (o = none))) S := by
    intro o S
    cases o <;> rfl
  have eb := eBad_run
  have tt : ∀ a : Bool, decide (a = a) = true := by simp
  have tu : ∀ a : Str, decide (a = a) = true := by simp
  have hsm := (split_small x hx).2
  have hlm : ((Txt.split x (Str.ofString " ")).map W.str).length < sizeLine := by rw [List.length_map, sizeLine_n]; omega
  have ht := fun s d su S => tryK_yes (Str.ofString "InvalidText") d s S tab_InvalidText su (by decide +kernel)
  cases hn : isNm x with
  | true =>
    rw [hn] at n1 n2 n3
    cases hm : numF x with
    | some z =>
      rw [hm] at n4 n5
      have hz0 : ¬ ((some z : Option Int) = none) := by simp
      cases hb : badF x with
      | true =>
        rw [hb] at n6
        have n7 := fun S => words_error_run x S hx hb
        refine ⟨some (.bl true), some (wOf (some z)), some (.bl true), some (.bl true), some .non, [wsOf x, wsOf x], ?_⟩
        have ap : S ++ [wsOf x, wsOf x] = (S ++ [wsOf x]) ++ [wsOf x] := by simp
        rw [ap]
        clear hx hsm
        walk_at "evh"
      | false =>
        rw [hb] at n6
        have n7 := good_words_run x (S ++ [wsOf x]) S.length hx hb (get_last S _)
        refine ⟨some (.bl true), some (wOf (some z)), some (.bl false), some (.bl false), some (.ref S.length), [.lst ((Txt.split x (Str.ofString " ")).map W.str ++ [.str x])], ?_⟩
        clear hx hsm
        walk_at "evh"
    | none =>
      rw [hm] at n4 n5
      cases hb : badF x with
      | true =>
        rw [hb] at n6
        have n8 := fun S => number_error_run x S hx hm
        have n7 := fun S => words_error_run x S hx hb
        refine ⟨some (.bl true), some (wOf none), some (.bl true), some (.bl true), some .non, [wsOf x, wsOf x], ?_⟩
        have ap : S ++ [wsOf x, wsOf x] = (S ++ [wsOf x]) ++ [wsOf x] := by simp
        rw [ap]
        clear hx hsm
        walk_at "evh"
      | false =>
        rw [hb] at n6
        have n8 := fun S => number_error_run x S hx hm
        have n7 := good_words_run x (S ++ [wsOf x]) S.length hx hb (get_last S _)
        refine ⟨some (.bl true), some (wOf none), some (.bl false), some (.bl false), some (.ref S.length), [.lst ((Txt.split x (Str.ofString " ")).map W.str ++ [.str x])], ?_⟩
        clear hx hsm
        walk_at "evh"
  | false =>
    rw [hn] at n1 n2 n3
    cases hm : numF x with
    | some z =>
      rw [hm] at n4 n5
      have hz0 : ¬ ((some z : Option Int) = none) := by simp
      cases hb : badF x with
      | true =>
        rw [hb] at n6
        have n9 := fun S => name_error_run x S hx hn
        have n7 := fun S => words_error_run x S hx hb
        refine ⟨some (.bl false), some (wOf (some z)), some (.bl true), some (.bl true), some .non, [wsOf x, wsOf x], ?_⟩
        have ap : S ++ [wsOf x, wsOf x] = (S ++ [wsOf x]) ++ [wsOf x] := by simp
        rw [ap]
        clear hx hsm
        walk_at "evh"
      | false =>
        rw [hb] at n6
        have n9 := fun S => name_error_run x S hx hn
        have n7 := good_words_run x (S ++ [wsOf x]) S.length hx hb (get_last S _)
        refine ⟨some (.bl false), some (wOf (some z)), some (.bl false), some (.bl false), some (.ref S.length), [.lst ((Txt.split x (Str.ofString " ")).map W.str ++ [.str x])], ?_⟩
        clear hx hsm
        walk_at "evh"
    | none =>
      rw [hm] at n4 n5
      cases hb : badF x with
      | true =>
        rw [hb] at n6
        have n9 := fun S => name_error_run x S hx hn
        have n8 := fun S => number_error_run x S hx hm
        have n7 := fun S => words_error_run x S hx hb
        refine ⟨some (.bl false), some (wOf none), some (.bl true), some (.bl true), some .non, [wsOf x, wsOf x], ?_⟩
        have ap : S ++ [wsOf x, wsOf x] = (S ++ [wsOf x]) ++ [wsOf x] := by simp
        rw [ap]
        clear hx hsm
        walk_at "evh"
      | false =>
        rw [hb] at n6
        have n9 := fun S => name_error_run x S hx hn
        have n8 := fun S => number_error_run x S hx hm
        have n7 := good_words_run x (S ++ [wsOf x]) S.length hx hb (get_last S _)
        refine ⟨some (.bl false), some (wOf none), some (.bl false), some (.bl false), some (.ref S.length), [.lst ((Txt.split x (Str.ofString " ")).map W.str ++ [.str x])], ?_⟩
        clear hx hsm
        walk_at "evh"
theorem plain : ∀ ns : List Int, ns.length ≤ 63 → ∃ S, m_law [.fl (ns.map .int)] [] = .ok (.bl true) S := by
  intro ns hn
  obtain ⟨b, hb, turn⟩ := e_body
  obtain ⟨zs, e1⟩ := draws_run ns hn []
  have hd : HasD 0 ([oI zs]) := ⟨zs, rfl⟩
  obtain ⟨x, S2, hx, D2, e2⟩ := text_run 0 [oI zs] hd
  obtain ⟨y, S3, hy, D3, e3⟩ := text_run 0 S2 D2.dr
  unfold m_law
  rw [hb, e_draws]
  have hz : 3 ≤ sizeLine := by rw [sizeLine_n]; decide
  -- the loop
  have l0 : (S3 ++ [.lst [.str x, .str y, .str x]])[S3.length]? = some (.lst [.str x, .str y, .str x]) := get_last S3 _
  obtain ⟨p5, p6, p7, p8, p9, r1, t1⟩ := turn (some (.fl (ns.map .int))) (some (.ref 0)) (some (.str x)) (some (.str y)) x none none none none none (S3 ++ [.lst [.str x, .str y, .str x]]) hx
  obtain ⟨q5, q6, q7, q8, q9, r2, t2⟩ := turn (some (.fl (ns.map .int))) (some (.ref 0)) (some (.str x)) (some (.str y)) y p5 p6 p7 p8 p9 (S3 ++ [.lst [.str x, .str y, .str x]] ++ r1) hy
  obtain ⟨w5, w6, w7, w8, w9, r3, t3⟩ := turn (some (.fl (ns.map .int))) (some (.ref 0)) (some (.str x)) (some (.str y)) x q5 q6 q7 q8 q9 (S3 ++ [.lst [.str x, .str y, .str x]] ++ r1 ++ r2) hx
  have l1 := get_old r1 l0
  have l2 := get_old r2 l1
  have l3 := get_old r3 l2
  have loop : forL (gN 4) b S3.length 3 3 [some (.fl (ns.map .int)), some (.ref 0), some (.str x), some (.str y), none, none, none, none, none, none] (S3 ++ [.lst [.str x, .str y, .str x]]) =
      .nx [some (.fl (ns.map .int)), some (.ref 0), some (.str x), some (.str y), some (.str x), w5, w6, w7, w8, w9] (S3 ++ [.lst [.str x, .str y, .str x]] ++ r1 ++ r2 ++ r3) := by
    rw [forL_gN 4 S3.length 3 b 2 (.str x) _ _ _ l0 rfl rfl]
    show loopK (b [some (.fl (ns.map .int)), some (.ref 0), some (.str x), some (.str y), some (.str x), none, none, none, none, none] (S3 ++ [.lst [.str x, .str y, .str x]])) _ = _
    rw [t1, loopK_nx, forL_gN 4 S3.length 3 b 1 (.str y) _ _ _ l1 rfl rfl]
    show loopK (b [some (.fl (ns.map .int)), some (.ref 0), some (.str x), some (.str y), some (.str y), p5, p6, p7, p8, p9] (S3 ++ [.lst [.str x, .str y, .str x]] ++ r1)) _ = _
    rw [t2, loopK_nx, forL_gN 4 S3.length 3 b 0 (.str x) _ _ _ l2 rfl rfl]
    show loopK (b [some (.fl (ns.map .int)), some (.ref 0), some (.str x), some (.str y), some (.str x), q5, q6, q7, q8, q9] (S3 ++ [.lst [.str x, .str y, .str x]] ++ r1 ++ r2)) _ = _
    rw [t3, loopK_nx]
    exact forL_done _ _ 3 _ _ _ _ l3 rfl
  refine ⟨S3 ++ [.lst [.str x, .str y, .str x]] ++ r1 ++ r2 ++ r3, ?_⟩
  have e1' : fnM 5 bDraws [.fl (ns.map W.int)] [] = .ok (.ref 0) [oI zs] := e1
  rw [fn_eq]
  simp only [List.map_cons, List.map_nil, List.length_cons, List.length_nil, Nat.reduceAdd, Nat.reduceSub, List.replicate, List.cons_append, List.nil_append]
  simp only [seq_eq, sAsg_eq, eCall_eq, aCons_eq, aNil_eq, eVar_0, eVar_s, bdK_ok, bd_eq, rt_eq, e1', onE_ok, List.set_cons_succ, List.set_cons_zero, seqK_nx, e2, e3, sFor_eq, iE_eq, eLst_eq, hz, if_true, app_ite, new_eq, List.length_cons, List.length_nil, Nat.reduceAdd, srcOf_refE, l0, obL_lst, srcK_liveE, obS_lst, loop, sRet_eq, eC_eq, fnK_rt]
end Lw_k00

namespace Lw_k00
open PySem PySem.Spec PyProof.Rows L2 Fr
def topS (i : Nat) : Stmt := PySem.Challenge.pw_formroads_k00_names_and_lines.main.body.getD i (.Pass ⟨0, 0, 0, 0⟩)
abbrev st_is_name : Stmt := topS 9
theorem sc_is_name : FnScope ["text", "char"] ["text"] (defScope st_is_name) := ⟨rfl, rfl, rfl, by decide +kernel, rfl, by decide +kernel, by decide +kernel⟩
abbrev st_check_name : Stmt := topS 10
theorem sc_check_name : FnScope ["text"] ["text"] (defScope st_check_name) := ⟨rfl, rfl, rfl, by decide +kernel, rfl, by decide +kernel, by decide +kernel⟩
abbrev st_read_number : Stmt := topS 11
theorem sc_read_number : FnScope ["text", "char"] ["text"] (defScope st_read_number) := ⟨rfl, rfl, rfl, by decide +kernel, rfl, by decide +kernel, by decide +kernel⟩
abbrev st_split_words : Stmt := topS 12
theorem sc_split_words : FnScope ["line", "words", "word"] ["line"] (defScope st_split_words) := ⟨rfl, rfl, rfl, by decide +kernel, rfl, by decide +kernel, by decide +kernel⟩
abbrev st__law_draws : Stmt := topS 14
theorem sc__law_draws : FnScope ["_law_script", "_law_draws_here", "_law_cell", "_law_rest", "_law_k"] ["_law_script"] (defScope st__law_draws) := ⟨rfl, rfl, rfl, by decide +kernel, rfl, by decide +kernel, by decide +kernel⟩
abbrev st__law_draw : Stmt := topS 15
theorem sc__law_draw : FnScope ["_law_draws_here", "_law_many"] ["_law_draws_here", "_law_many"] (defScope st__law_draw) := ⟨rfl, rfl, rfl, by decide +kernel, rfl, by decide +kernel, by decide +kernel⟩
abbrev st__law_pick : Stmt := topS 16
theorem sc__law_pick : FnScope ["_law_draws_here", "_law_things"] ["_law_draws_here", "_law_things"] (defScope st__law_pick) := ⟨rfl, rfl, rfl, by decide +kernel, rfl, by decide +kernel, by decide +kernel⟩
abbrev st__law_same : Stmt := topS 17
theorem sc__law_same : FnScope ["_law_actual", "_law_due", "_law_k"] ["_law_actual", "_law_due"] (defScope st__law_same) := ⟨rfl, rfl, rfl, by decide +kernel, rfl, by decide +kernel, by decide +kernel⟩
abbrev st__law_text : Stmt := topS 18
theorem sc__law_text : FnScope ["_law_draws_here", "_law_letters", "_law_signs", "_law_row", "_law_text_here", "_law_k", "_law_way", "_law_at"] ["_law_draws_here"] (defScope st__law_text) := ⟨rfl, rfl, rfl, by decide +kernel, rfl, by decide +kernel, by decide +kernel⟩
abbrev st__law_is_name : Stmt := topS 19
theorem sc__law_is_name : FnScope ["_law_text_here", "_law_sign"] ["_law_text_here"] (defScope st__law_is_name) := ⟨rfl, rfl, rfl, by decide +kernel, rfl, by decide +kernel, by decide +kernel⟩
abbrev st__law_number : Stmt := topS 20
theorem sc__law_number : FnScope ["_law_text_here", "_law_number_here", "_law_sign"] ["_law_text_here"] (defScope st__law_number) := ⟨rfl, rfl, rfl, by decide +kernel, rfl, by decide +kernel, by decide +kernel⟩
abbrev st__law_checked : Stmt := topS 21
theorem sc__law_checked : FnScope ["_law_text_here"] ["_law_text_here"] (defScope st__law_checked) := ⟨rfl, rfl, rfl, by decide +kernel, rfl, by decide +kernel, by decide +kernel⟩
abbrev st__law_read : Stmt := topS 22
theorem sc__law_read : FnScope ["_law_text_here"] ["_law_text_here"] (defScope st__law_read) := ⟨rfl, rfl, rfl, by decide +kernel, rfl, by decide +kernel, by decide +kernel⟩
abbrev st__law_name_error : Stmt := topS 23
theorem sc__law_name_error : FnScope ["_law_text_here", "e"] ["_law_text_here"] (defScope st__law_name_error) := ⟨rfl, rfl, rfl, by decide +kernel, rfl, by decide +kernel, by decide +kernel⟩
abbrev st__law_number_error : Stmt := topS 24
theorem sc__law_number_error : FnScope ["_law_text_here", "e"] ["_law_text_here"] (defScope st__law_number_error) := ⟨rfl, rfl, rfl, by decide +kernel, rfl, by decide +kernel, by decide +kernel⟩
abbrev st__law_words_error : Stmt := topS 25
theorem sc__law_words_error : FnScope ["_law_text_here", "e"] ["_law_text_here"] (defScope st__law_words_error) := ⟨rfl, rfl, rfl, by decide +kernel, rfl, by decide +kernel, by decide +kernel⟩
abbrev st__law_good_words : Stmt := topS 26
theorem sc__law_good_words : FnScope ["_law_words", "_law_text_here", "_law_word"] ["_law_words", "_law_text_here"] (defScope st__law_good_words) := ⟨rfl, rfl, rfl, by decide +kernel, rfl, by decide +kernel, by decide +kernel⟩
abbrev st_law : Stmt := topS 27
theorem sc_law : FnScope ["_law_script", "_law_draws_here", "_law_first", "_law_second", "_law_text_here", "_law_good", "_law_number_here", "_law_bad", "_law_raised", "_law_words"] ["_law_script"] (defScope st_law) := ⟨rfl, rfl, rfl, by decide +kernel, rfl, by decide +kernel, by decide +kernel⟩
structure Tx (K : PySem.W.Frag) (mg : Str → Option Value) where
  f_is_name : Addr
  d_is_name : FuncData
  F_is_name : Fun K "is_name" "is_name" st_is_name f_is_name d_is_name
  B_is_name : Binds K d_is_name ["text"] []
  g_is_name : mg "is_name" = some (.ref f_is_name)
  f_check_name : Addr
  d_check_name : FuncData
  F_check_name : Fun K "check_name" "check_name" st_check_name f_check_name d_check_name
  B_check_name : Binds K d_check_name ["text"] []
  g_check_name : mg "check_name" = some (.ref f_check_name)
  f_read_number : Addr
  d_read_number : FuncData
  F_read_number : Fun K "read_number" "read_number" st_read_number f_read_number d_read_number
  B_read_number : Binds K d_read_number ["text"] []
  g_read_number : mg "read_number" = some (.ref f_read_number)
  f_split_words : Addr
  d_split_words : FuncData
  F_split_words : Fun K "split_words" "split_words" st_split_words f_split_words d_split_words
  B_split_words : Binds K d_split_words ["line"] []
  g_split_words : mg "split_words" = some (.ref f_split_words)
  f__law_draws : Addr
  d__law_draws : FuncData
  F__law_draws : Fun K "_law_draws" "_law_draws" st__law_draws f__law_draws d__law_draws
  B__law_draws : Binds K d__law_draws ["_law_script"] []
  g__law_draws : mg "_law_draws" = some (.ref f__law_draws)
  f__law_draw : Addr
  d__law_draw : FuncData
  F__law_draw : Fun K "_law_draw" "_law_draw" st__law_draw f__law_draw d__law_draw
  B__law_draw : Binds K d__law_draw ["_law_draws_here", "_law_many"] []
  g__law_draw : mg "_law_draw" = some (.ref f__law_draw)
  f__law_pick : Addr
  d__law_pick : FuncData
  F__law_pick : Fun K "_law_pick" "_law_pick" st__law_pick f__law_pick d__law_pick
  B__law_pick : Binds K d__law_pick ["_law_draws_here", "_law_things"] []
  g__law_pick : mg "_law_pick" = some (.ref f__law_pick)
  f__law_same : Addr
  d__law_same : FuncData
  F__law_same : Fun K "_law_same" "_law_same" st__law_same f__law_same d__law_same
  B__law_same : Binds K d__law_same ["_law_actual", "_law_due"] []
  g__law_same : mg "_law_same" = some (.ref f__law_same)
  f__law_text : Addr
  d__law_text : FuncData
  F__law_text : Fun K "_law_text" "_law_text" st__law_text f__law_text d__law_text
  B__law_text : Binds K d__law_text ["_law_draws_here"] []
  g__law_text : mg "_law_text" = some (.ref f__law_text)
  f__law_is_name : Addr
  d__law_is_name : FuncData
  F__law_is_name : Fun K "_law_is_name" "_law_is_name" st__law_is_name f__law_is_name d__law_is_name
  B__law_is_name : Binds K d__law_is_name ["_law_text_here"] []
  g__law_is_name : mg "_law_is_name" = some (.ref f__law_is_name)
  f__law_number : Addr
  d__law_number : FuncData
  F__law_number : Fun K "_law_number" "_law_number" st__law_number f__law_number d__law_number
  B__law_number : Binds K d__law_number ["_law_text_here"] []
  g__law_number : mg "_law_number" = some (.ref f__law_number)
  f__law_checked : Addr
  d__law_checked : FuncData
  F__law_checked : Fun K "_law_checked" "_law_checked" st__law_checked f__law_checked d__law_checked
  B__law_checked : Binds K d__law_checked ["_law_text_here"] []
  g__law_checked : mg "_law_checked" = some (.ref f__law_checked)
  f__law_read : Addr
  d__law_read : FuncData
  F__law_read : Fun K "_law_read" "_law_read" st__law_read f__law_read d__law_read
  B__law_read : Binds K d__law_read ["_law_text_here"] []
  g__law_read : mg "_law_read" = some (.ref f__law_read)
  f__law_name_error : Addr
  d__law_name_error : FuncData
  F__law_name_error : Fun K "_law_name_error" "_law_name_error" st__law_name_error f__law_name_error d__law_name_error
  B__law_name_error : Binds K d__law_name_error ["_law_text_here"] []
  g__law_name_error : mg "_law_name_error" = some (.ref f__law_name_error)
  f__law_number_error : Addr
  d__law_number_error : FuncData
  F__law_number_error : Fun K "_law_number_error" "_law_number_error" st__law_number_error f__law_number_error d__law_number_error
  B__law_number_error : Binds K d__law_number_error ["_law_text_here"] []
  g__law_number_error : mg "_law_number_error" = some (.ref f__law_number_error)
  f__law_words_error : Addr
  d__law_words_error : FuncData
  F__law_words_error : Fun K "_law_words_error" "_law_words_error" st__law_words_error f__law_words_error d__law_words_error
  B__law_words_error : Binds K d__law_words_error ["_law_text_here"] []
  g__law_words_error : mg "_law_words_error" = some (.ref f__law_words_error)
  f__law_good_words : Addr
  d__law_good_words : FuncData
  F__law_good_words : Fun K "_law_good_words" "_law_good_words" st__law_good_words f__law_good_words d__law_good_words
  B__law_good_words : Binds K d__law_good_words ["_law_words", "_law_text_here"] []
  g__law_good_words : mg "_law_good_words" = some (.ref f__law_good_words)
  f_law : Addr
  d_law : FuncData
  F_law : Fun K "law" "law" st_law f_law d_law
  B_law : Binds K d_law ["_law_script"] []
  g_law : mg "law" = some (.ref f_law)
  f_FormroadsError : Addr
  g_FormroadsError : mg "FormroadsError" = some (.ref f_FormroadsError)
  f_InvalidName : Addr
  g_InvalidName : mg "InvalidName" = some (.ref f_InvalidName)
  f_InvalidText : Addr
  g_InvalidText : mg "InvalidText" = some (.ref f_InvalidText)
  x_InvalidName : PySem.W.excIn K f_InvalidName [.type "ValueError", .type "Exception", .type "BaseException", .type "object"] "ValueError.__new__" = true
  kp_InvalidName : PySem.W.keepIn K (.ref f_InvalidName) = true
  be_InvalidName : PySem.W.subIn K (.ref f_InvalidName) (.type "BaseException") = some true
  ty_InvalidName : PySem.W.typeIn K (.ref f_InvalidName) = some (.type "type")
  x_InvalidText : PySem.W.excIn K f_InvalidText [.type "ValueError", .type "Exception", .type "BaseException", .type "object"] "ValueError.__new__" = true
  kp_InvalidText : PySem.W.keepIn K (.ref f_InvalidText) = true
  be_InvalidText : PySem.W.subIn K (.ref f_InvalidText) (.type "BaseException") = some true
  ty_InvalidText : PySem.W.typeIn K (.ref f_InvalidText) = some (.type "type")
  ex_FormroadsError : XTab K mg tab_FormroadsError (.ref f_FormroadsError)
  ex_InvalidName : XTab K mg tab_InvalidName (.ref f_InvalidName)
  ex_InvalidText : XTab K mg tab_InvalidText (.ref f_InvalidText)
  is_InvalidName : KTab K mg tab_InvalidName (.ref f_InvalidName)
  is_InvalidText : KTab K mg tab_InvalidText (.ref f_InvalidText)
  is_ValueError : KTab K mg tab_ValueError (.type "ValueError")
  z_ValueError : mg "ValueError" = none
  z_bool : mg "bool" = none
  z_int : mg "int" = none
  z_isinstance : mg "isinstance" = none
  z_len : mg "len" = none
  z_list : mg "list" = none
  z_range : mg "range" = none
  z_str : mg "str" = none
  z_tuple : mg "tuple" = none
  c_DIGITS : ∃ u, mg "DIGITS" = some u ∧ RelV (.str (Str.ofString "0123456789")) u
  c_LETTERS : ∃ u, mg "LETTERS" = some u ∧ RelV (.str (Str.ofString "abcdefghijklmnopqrstuvwxyz")) u
  c_MOST_DIGITS : ∃ u, mg "MOST_DIGITS" = some u ∧ RelV (.int 6) u
  c_MOST_LETTERS : ∃ u, mg "MOST_LETTERS" = some u ∧ RelV (.int 8) u
section
variable {P : Program} {w : World} {K : PySem.W.Frag} {mg : Str → Option Value} {base : Heap}
theorem ok_is_name (t : Tx K mg) : FnM P w K mg base 1 t.f_is_name t.d_is_name ["text"] m_is_name :=
  fn_ok (k := 0) (body := b_is_name) t.F_is_name sc_is_name rfl (fun cdv A outer s H E hr tk hp =>
  (sb_cons (ss_if (st_w (sw_or (st_cmp (op_eq2 hr.units) o_eq (se_var (i := 0)) se_str) (sw_or1 (st_cmp op_gt o_gt (se_callB cr_len o_len rfl t.z_len (by decide +kernel) (sa_cons (se_var (i := 0)) sa_nil)) (se_const t.c_MOST_LETTERS rfl (fun _ _ => rv_int.2 rfl)))))) (sb_one (ss_ret se_bl)) sb_nil)
  (sb_cons (ss_for hp rfl (si_any (se_var (i := 0))) (sg_name (i := 1) sc_is_name.nd) (sb_one (ss_if (st_cmp op_notin_str o_notIn (se_var (i := 1)) (se_const t.c_LETTERS rfl (fun _ _ => rv_str.2 rfl))) (sb_one (ss_ret se_bl)) sb_nil)))
  (sb_one (ss_ret se_bl)))))
theorem ok_check_name (t : Tx K mg) : FnM P w K mg base 2 t.f_check_name t.d_check_name ["text"] m_check_name :=
  fn_ok (k := 1) (body := b_check_name) t.F_check_name sc_check_name rfl (fun cdv A outer s H E hr tk hp =>
  (sb_cons (ss_if (st_not (st_val (se_call (FnOk.mono (ok_is_name t) (by decide)) hr rfl t.g_is_name t.F_is_name.kp t.B_is_name tk (sa_cons (se_var (i := 0)) sa_nil) rfl (aCons_len aNil_len)))) (sb_one (ss_raise rfl tk t.x_InvalidName t.g_InvalidName t.kp_InvalidName t.be_InvalidName t.ty_InvalidName rfl)) sb_nil)
  (sb_one (ss_ret (se_var (i := 0))))))
theorem ok_read_number (t : Tx K mg) : FnM P w K mg base 1 t.f_read_number t.d_read_number ["text"] m_read_number :=
  fn_ok (k := 0) (body := b_read_number) t.F_read_number sc_read_number rfl (fun cdv A outer s H E hr tk hp =>
  (sb_cons (ss_if (st_w (sw_or (st_cmp (op_eq2 hr.units) o_eq (se_var (i := 0)) se_str) (sw_or1 (st_cmp op_gt o_gt (se_callB cr_len o_len rfl t.z_len (by decide +kernel) (sa_cons (se_var (i := 0)) sa_nil)) (se_const t.c_MOST_DIGITS rfl (fun _ _ => rv_int.2 rfl)))))) (sb_one (ss_raise rfl tk t.x_InvalidText t.g_InvalidText t.kp_InvalidText t.be_InvalidText t.ty_InvalidText rfl)) sb_nil)
  (sb_cons (ss_for hp rfl (si_any (se_var (i := 0))) (sg_name (i := 1) sc_read_number.nd) (sb_one (ss_if (st_cmp op_notin_str o_notIn (se_var (i := 1)) (se_const t.c_DIGITS rfl (fun _ _ => rv_str.2 rfl))) (sb_one (ss_raise rfl tk t.x_InvalidText t.g_InvalidText t.kp_InvalidText t.be_InvalidText t.ty_InvalidText rfl)) sb_nil)))
  (sb_cons (ss_if (st_w (sw_and (st_cmp op_gt o_gt (se_callB cr_len o_len rfl t.z_len (by decide +kernel) (sa_cons (se_var (i := 0)) sa_nil)) se_int) (sw_and1 (st_cmp (op_eq2 hr.units) o_eq (se_ix (se_var (i := 0)) se_int) se_str)))) (sb_one (ss_raise rfl tk t.x_InvalidText t.g_InvalidText t.kp_InvalidText t.be_InvalidText t.ty_InvalidText rfl)) sb_nil)
  (sb_one (ss_ret (se_callTy cr_int o_int rfl t.z_int (by decide +kernel) (sa_cons (se_var (i := 0)) sa_nil))))))))
theorem ok_split_words (t : Tx K mg) : FnM P w K mg base 1 t.f_split_words t.d_split_words ["line"] m_split_words :=
  fn_ok (k := 0) (body := b_split_words) t.F_split_words sc_split_words rfl (fun cdv A outer s H E hr tk hp =>
  (sb_cons (ss_set (i := 1) sc_split_words.nd (se_m m_split o_split PySem.F.plainAttrs_str PySem.F.slot_str_split PySem.F.type_str_split (se_var (i := 0)) (sa_cons se_str sa_nil)))
  (sb_cons (ss_for hp rfl (si_any (se_var (i := 1))) (sg_name (i := 2) sc_split_words.nd) (sb_one (ss_if (st_cmp (op_eq2 hr.units) o_eq (se_var (i := 2)) se_str) (sb_one (ss_raise rfl tk t.x_InvalidText t.g_InvalidText t.kp_InvalidText t.be_InvalidText t.ty_InvalidText rfl)) sb_nil)))
  (sb_one (ss_ret (se_var (i := 1)))))))
theorem ok__law_draws (t : Tx K mg) : FnM P w K mg base 1 t.f__law_draws t.d__law_draws ["_law_script"] m__law_draws :=
  fn_ok (k := 0) (body := b__law_draws) t.F__law_draws sc__law_draws rfl (fun cdv A outer s H E hr tk hp =>
  (sb_cons (ss_set (i := 1) sc__law_draws.nd (se_lst sa_nil))
  (sb_cons (ss_for hp rfl (si_any (se_var (i := 0))) (sg_name (i := 2) sc__law_draws.nd) (sb_cons (ss_set (i := 3) sc__law_draws.nd (se_callTy cr_int o_int rfl t.z_int (by decide +kernel) (sa_cons (se_var (i := 2)) sa_nil)))
  (sb_one (ss_if (st_chain op_le o_le op_lt o_lt se_int (se_var (i := 3)) se_int) (sb_one (ss_expr (se_m mt_append o_append PySem.F.plainAttrs_list PySem.F.slot_list_append PySem.F.type_list_append (se_var (i := 1)) (sa_cons (se_var (i := 3)) sa_nil)))) (sb_one (ss_if (st_cmp op_ge o_ge (se_var (i := 3)) (se_op op_pow o_pow se_int se_int)) (sb_one (ss_for hp rfl (si_range1 rfl t.z_range (sa_cons se_int sa_nil)) (sg_name (i := 4) sc__law_draws.nd) (sb_one (ss_if (st_cmp op_gt o_gt (se_var (i := 3)) se_int) (sb_cons (ss_expr (se_m mt_append o_append PySem.F.plainAttrs_list PySem.F.slot_list_append PySem.F.type_list_append (se_var (i := 1)) (sa_cons (se_op op_modN o_mod (se_callTy cr_int o_int rfl t.z_int (by decide +kernel) (sa_cons (se_var (i := 3)) sa_nil)) se_int) sa_nil)))
  (sb_one (ss_set (i := 3) sc__law_draws.nd (se_op op_fdivN o_fdiv (se_var (i := 3)) se_int)))) sb_nil)))) (sb_cons (ss_set (i := 3) sc__law_draws.nd (se_op op_modN o_mod (se_callTy cr_int o_int rfl t.z_int (by decide +kernel) (sa_cons (se_op op_mul3 o_mul (se_var (i := 3)) se_int) sa_nil)) se_int))
  (sb_one (ss_for hp rfl (si_range1 rfl t.z_range (sa_cons se_int sa_nil)) (sg_name (i := 4) sc__law_draws.nd) (sb_cons (ss_set (i := 3) sc__law_draws.nd (se_op op_modN o_mod (se_callTy cr_int o_int rfl t.z_int (by decide +kernel) (sa_cons (se_op op_mul3 o_mul (se_var (i := 3)) se_int) sa_nil)) se_int))
  (sb_one (ss_expr (se_m mt_append o_append PySem.F.plainAttrs_list PySem.F.slot_list_append PySem.F.type_list_append (se_var (i := 1)) (sa_cons (se_op op_modN o_mod (se_callTy cr_int o_int rfl t.z_int (by decide +kernel) (sa_cons (se_op op_fdivN o_fdiv (se_var (i := 3)) se_int) sa_nil)) se_int) sa_nil))))))))))))))
  (sb_cons (ss_expr (se_m0 mt_reverse o_reverse PySem.F.plainAttrs_list PySem.F.slot_list_reverse PySem.F.type_list_reverse (se_var (i := 1))))
  (sb_one (ss_ret (se_var (i := 1))))))))
theorem ok__law_draw (t : Tx K mg) : FnM P w K mg base 1 t.f__law_draw t.d__law_draw ["_law_draws_here", "_law_many"] m__law_draw :=
  fn_ok (k := 0) (body := b__law_draw) t.F__law_draw sc__law_draw rfl (fun cdv A outer s H E hr tk hp =>
  (sb_cons (ss_if (st_cmp (op_eq2 hr.units) o_eq (se_callB cr_len o_len rfl t.z_len (by decide +kernel) (sa_cons (se_var (i := 0)) sa_nil)) se_int) (sb_one (ss_ret se_int)) sb_nil)
  (sb_one (ss_ret (se_op op_modN o_mod (se_callTy cr_int o_int rfl t.z_int (by decide +kernel) (sa_cons (se_m0 mt_pop o_pop PySem.F.plainAttrs_list PySem.F.slot_list_pop PySem.F.type_list_pop (se_var (i := 0))) sa_nil)) (se_var (i := 1)))))))
theorem ok__law_pick (t : Tx K mg) : FnM P w K mg base 2 t.f__law_pick t.d__law_pick ["_law_draws_here", "_law_things"] m__law_pick :=
  fn_ok (k := 1) (body := b__law_pick) t.F__law_pick sc__law_pick rfl (fun cdv A outer s H E hr tk hp =>
  (sb_one (ss_ret (se_ix (se_var (i := 1)) (se_call (FnOk.mono (ok__law_draw t) (by decide)) hr rfl t.g__law_draw t.F__law_draw.kp t.B__law_draw tk (sa_cons (se_var (i := 0)) (sa_cons (se_callB cr_len o_len rfl t.z_len (by decide +kernel) (sa_cons (se_var (i := 1)) sa_nil)) sa_nil)) rfl (aCons_len (aCons_len aNil_len)))))))
theorem ok__law_same (t : Tx K mg) : ∀ j, FnM P w K mg base (1 + j) t.f__law_same t.d__law_same ["_law_actual", "_law_due"] (m__law_same j)
  | 0 => fn_bad
  | j + 1 => by
    have ih := ok__law_same t j
    exact fn_ok (k := 1 + j) (body := b__law_same j (m__law_same j)) t.F__law_same sc__law_same rfl (fun cdv A outer s H E hr tk hp =>
  (sb_cons (ss_if (st_w (sw_or (st_val (se_callB call_isi o_isi rfl t.z_isinstance (by decide +kernel) (sa_cons (se_var (i := 1)) (sa_cons (se_ty (n := "bool") rfl t.z_bool (by decide +kernel)) sa_nil)))) (sw_or1 (st_val (se_callB call_isi o_isi rfl t.z_isinstance (by decide +kernel) (sa_cons (se_var (i := 0)) (sa_cons (se_ty (n := "bool") rfl t.z_bool (by decide +kernel)) sa_nil))))))) (sb_one (ss_ret (se_and (se_callB call_isi o_isi rfl t.z_isinstance (by decide +kernel) (sa_cons (se_var (i := 1)) (sa_cons (se_ty (n := "bool") rfl t.z_bool (by decide +kernel)) sa_nil))) (se_and (se_callB call_isi o_isi rfl t.z_isinstance (by decide +kernel) (sa_cons (se_var (i := 0)) (sa_cons (se_ty (n := "bool") rfl t.z_bool (by decide +kernel)) sa_nil))) (se_one (se_cmp (op_eq2 hr.units) o_eq (se_var (i := 0)) (se_var (i := 1)))))))) sb_nil)
  (sb_cons (ss_if (st_w (sw_or (st_cmp op_isN o_is (se_var (i := 1)) se_non) (sw_or1 (st_cmp op_isN o_is (se_var (i := 0)) se_non)))) (sb_one (ss_ret (se_and (se_cmp op_isN o_is (se_var (i := 1)) se_non) (se_one (se_cmp op_isN o_is (se_var (i := 0)) se_non))))) sb_nil)
  (sb_cons (ss_if (st_val (se_callB call_isi o_isi rfl t.z_isinstance (by decide +kernel) (sa_cons (se_var (i := 1)) (sa_cons (se_ty (n := "int") rfl t.z_int (by decide +kernel)) sa_nil)))) (sb_one (ss_ret (se_and (se_callB call_isi o_isi rfl t.z_isinstance (by decide +kernel) (sa_cons (se_var (i := 0)) (sa_cons (se_ty (n := "int") rfl t.z_int (by decide +kernel)) sa_nil))) (se_one (se_cmp (op_eq2 hr.units) o_eq (se_var (i := 0)) (se_var (i := 1))))))) sb_nil)
  (sb_cons (ss_if (st_val (se_callB call_isi o_isi rfl t.z_isinstance (by decide +kernel) (sa_cons (se_var (i := 1)) (sa_cons (se_ty (n := "str") rfl t.z_str (by decide +kernel)) sa_nil)))) (sb_one (ss_ret (se_and (se_callB call_isi o_isi rfl t.z_isinstance (by decide +kernel) (sa_cons (se_var (i := 0)) (sa_cons (se_ty (n := "str") rfl t.z_str (by decide +kernel)) sa_nil))) (se_one (se_cmp (op_eq2 hr.units) o_eq (se_var (i := 0)) (se_var (i := 1))))))) sb_nil)
  (sb_cons (ss_if (st_w (sw_and (st_val (se_callB call_isi o_isi rfl t.z_isinstance (by decide +kernel) (sa_cons (se_var (i := 1)) (sa_cons (se_ty (n := "tuple") rfl t.z_tuple (by decide +kernel)) sa_nil)))) (sw_and1 (st_not (st_val (se_callB call_isi o_isi rfl t.z_isinstance (by decide +kernel) (sa_cons (se_var (i := 0)) (sa_cons (se_ty (n := "tuple") rfl t.z_tuple (by decide +kernel)) sa_nil)))))))) (sb_one (ss_ret se_bl)) sb_nil)
  (sb_cons (ss_if (st_w (sw_and (st_val (se_callB call_isi o_isi rfl t.z_isinstance (by decide +kernel) (sa_cons (se_var (i := 1)) (sa_cons (se_ty (n := "list") rfl t.z_list (by decide +kernel)) sa_nil)))) (sw_and1 (st_not (st_val (se_callB call_isi o_isi rfl t.z_isinstance (by decide +kernel) (sa_cons (se_var (i := 0)) (sa_cons (se_ty (n := "list") rfl t.z_list (by decide +kernel)) sa_nil)))))))) (sb_one (ss_ret se_bl)) sb_nil)
  (sb_cons (ss_if (st_cmp (op_ne2 hr.units) o_ne (se_callB cr_len o_len rfl t.z_len (by decide +kernel) (sa_cons (se_var (i := 0)) sa_nil)) (se_callB cr_len o_len rfl t.z_len (by decide +kernel) (sa_cons (se_var (i := 1)) sa_nil))) (sb_one (ss_ret se_bl)) sb_nil)
  (sb_cons (ss_for hp rfl (si_range1 rfl t.z_range (sa_cons (se_callB cr_len o_len rfl t.z_len (by decide +kernel) (sa_cons (se_var (i := 1)) sa_nil)) sa_nil)) (sg_name (i := 2) sc__law_same.nd) (sb_one (ss_if (st_not (st_val (se_call (FnOk.mono ih (by omega)) hr rfl t.g__law_same t.F__law_same.kp t.B__law_same tk (sa_cons (se_ix (se_var (i := 0)) (se_var (i := 2))) (sa_cons (se_ix (se_var (i := 1)) (se_var (i := 2))) sa_nil)) rfl (aCons_len (aCons_len aNil_len))))) (sb_one (ss_ret se_bl)) sb_nil)))
  (sb_one (ss_ret se_bl)))))))))))
theorem ok__law_text (t : Tx K mg) : FnM P w K mg base 3 t.f__law_text t.d__law_text ["_law_draws_here"] m__law_text :=
  fn_ok (k := 2) (body := b__law_text) t.F__law_text sc__law_text rfl (fun cdv A outer s H E hr tk hp =>
  (sb_cons (ss_set (i := 1) sc__law_text.nd se_str)
  (sb_cons (ss_set (i := 2) sc__law_text.nd se_str)
  (sb_cons (ss_set (i := 2) sc__law_text.nd (se_op op_add4 o_add (se_op op_add4 o_add (se_var (i := 2)) (se_var (i := 1))) se_str))
  (sb_cons (ss_set (i := 3) sc__law_text.nd (se_call (FnOk.mono (ok__law_pick t) (by decide)) hr rfl t.g__law_pick t.F__law_pick.kp t.B__law_pick tk (sa_cons (se_var (i := 0)) (sa_cons (se_lst (sa_cons (se_var (i := 1)) (sa_cons (se_op op_add4 o_add se_str (se_op op_mul3 o_mul se_str se_int)) (sa_cons (se_op op_add4 o_add (se_var (i := 1)) (se_op op_mul3 o_mul se_str se_int)) (sa_cons (se_op op_add4 o_add (se_var (i := 2)) (se_op op_mul3 o_mul se_str se_int)) sa_nil))))) sa_nil)) rfl (aCons_len (aCons_len aNil_len))))
  (sb_cons (ss_set (i := 4) sc__law_text.nd se_str)
  (sb_cons (ss_for hp rfl (si_range1 rfl t.z_range (sa_cons (se_call (FnOk.mono (ok__law_pick t) (by decide)) hr rfl t.g__law_pick t.F__law_pick.kp t.B__law_pick tk (sa_cons (se_var (i := 0)) (sa_cons (se_lst (sa_cons se_int (sa_cons se_int (sa_cons se_int (sa_cons se_int (sa_cons se_int (sa_cons se_int (sa_cons se_int (sa_cons se_int (sa_cons se_int (sa_cons se_int (sa_cons se_int (sa_cons se_int (sa_cons se_int (sa_cons se_int (sa_cons se_int (sa_cons se_int (sa_cons se_int sa_nil)))))))))))))))))) sa_nil)) rfl (aCons_len (aCons_len aNil_len))) sa_nil)) (sg_name (i := 5) sc__law_text.nd) (sb_one (ss_set (i := 4) sc__law_text.nd (se_op op_add4 o_add (se_var (i := 4)) (se_call (FnOk.mono (ok__law_pick t) (by decide)) hr rfl t.g__law_pick t.F__law_pick.kp t.B__law_pick tk (sa_cons (se_var (i := 0)) (sa_cons (se_var (i := 3)) sa_nil)) rfl (aCons_len (aCons_len aNil_len)))))))
  (sb_cons (ss_set (i := 6) sc__law_text.nd (se_call (FnOk.mono (ok__law_draw t) (by decide)) hr rfl t.g__law_draw t.F__law_draw.kp t.B__law_draw tk (sa_cons (se_var (i := 0)) (sa_cons se_int sa_nil)) rfl (aCons_len (aCons_len aNil_len))))
  (sb_cons (ss_set (i := 7) sc__law_text.nd (se_call (FnOk.mono (ok__law_draw t) (by decide)) hr rfl t.g__law_draw t.F__law_draw.kp t.B__law_draw tk (sa_cons (se_var (i := 0)) (sa_cons (se_op op_add4 o_add (se_callB cr_len o_len rfl t.z_len (by decide +kernel) (sa_cons (se_var (i := 4)) sa_nil)) se_int) sa_nil)) rfl (aCons_len (aCons_len aNil_len))))
  (sb_cons (ss_if (st_cmp (op_eq2 hr.units) o_eq (se_var (i := 6)) se_int) (sb_one (ss_set (i := 4) sc__law_text.nd (se_op op_add4 o_add (se_op op_add4 o_add (se_slice (se_var (i := 4)) so_none (so_some (se_var (i := 7)))) (se_call (FnOk.mono (ok__law_pick t) (by decide)) hr rfl t.g__law_pick t.F__law_pick.kp t.B__law_pick tk (sa_cons (se_var (i := 0)) (sa_cons (se_var (i := 2)) sa_nil)) rfl (aCons_len (aCons_len aNil_len)))) (se_slice (se_var (i := 4)) (so_some (se_var (i := 7))) so_none)))) sb_nil)
  (sb_cons (ss_if (st_cmp (op_eq2 hr.units) o_eq (se_var (i := 6)) se_int) (sb_one (ss_set (i := 4) sc__law_text.nd (se_op op_add4 o_add (se_op op_add4 o_add (se_slice (se_var (i := 4)) so_none (so_some (se_var (i := 7)))) (se_call (FnOk.mono (ok__law_pick t) (by decide)) hr rfl t.g__law_pick t.F__law_pick.kp t.B__law_pick tk (sa_cons (se_var (i := 0)) (sa_cons (se_var (i := 2)) sa_nil)) rfl (aCons_len (aCons_len aNil_len)))) (se_slice (se_var (i := 4)) (so_some (se_op op_add4 o_add (se_var (i := 7)) se_int)) so_none)))) sb_nil)
  (sb_one (ss_ret (se_slice (se_var (i := 4)) so_none (so_some se_int)))))))))))))))
theorem ok__law_is_name (t : Tx K mg) : FnM P w K mg base 1 t.f__law_is_name t.d__law_is_name ["_law_text_here"] m__law_is_name :=
  fn_ok (k := 0) (body := b__law_is_name) t.F__law_is_name sc__law_is_name rfl (fun cdv A outer s H E hr tk hp =>
  (sb_cons (ss_for hp rfl (si_any (se_var (i := 0))) (sg_name (i := 1) sc__law_is_name.nd) (sb_one (ss_if (st_cmp op_notin_str o_notIn (se_var (i := 1)) se_str) (sb_one (ss_ret se_bl)) sb_nil)))
  (sb_one (ss_ret (se_chain op_le o_le op_le o_le se_int (se_callB cr_len o_len rfl t.z_len (by decide +kernel) (sa_cons (se_var (i := 0)) sa_nil)) se_int)))))
theorem ok__law_number (t : Tx K mg) : FnM P w K mg base 1 t.f__law_number t.d__law_number ["_law_text_here"] m__law_number :=
  fn_ok (k := 0) (body := b__law_number) t.F__law_number sc__law_number rfl (fun cdv A outer s H E hr tk hp =>
  (sb_cons (ss_set (i := 1) sc__law_number.nd se_int)
  (sb_cons (ss_for hp rfl (si_any (se_var (i := 0))) (sg_name (i := 2) sc__law_number.nd) (sb_cons (ss_if (st_cmp op_notin_str o_notIn (se_var (i := 2)) se_str) (sb_one (ss_ret se_non)) sb_nil)
  (sb_one (ss_set (i := 1) sc__law_number.nd (se_op op_add4 o_add (se_op op_mul3 o_mul (se_var (i := 1)) se_int) (se_indexS rfl tk se_str (sa_cons (se_var (i := 2)) sa_nil)))))))
  (sb_cons (ss_if (st_w (sw_or (st_cmp (op_eq2 hr.units) o_eq (se_var (i := 0)) se_str) (sw_or (st_cmp op_gt o_gt (se_callB cr_len o_len rfl t.z_len (by decide +kernel) (sa_cons (se_var (i := 0)) sa_nil)) se_int) (sw_or1 (st_w (sw_and (st_cmp op_gt o_gt (se_callB cr_len o_len rfl t.z_len (by decide +kernel) (sa_cons (se_var (i := 0)) sa_nil)) se_int) (sw_and1 (st_cmp (op_eq2 hr.units) o_eq (se_ix (se_var (i := 0)) se_int) se_str)))))))) (sb_one (ss_ret se_non)) sb_nil)
  (sb_one (ss_ret (se_var (i := 1))))))))
theorem ok__law_checked (t : Tx K mg) : FnM P w K mg base 3 t.f__law_checked t.d__law_checked ["_law_text_here"] m__law_checked :=
  fn_ok (k := 2) (body := b__law_checked) t.F__law_checked sc__law_checked rfl (fun cdv A outer s H E hr tk hp =>
  (sb_one (ss_try rfl ⟨rfl, by decide, .inl t.g_InvalidName⟩ tk t.ex_InvalidName (fun W1 pn1 xe1 tk1 hp1 => (sb_one (ss_ret (se_call (FnOk.mono (ok_check_name t) (by decide)) hr rfl t.g_check_name t.F_check_name.kp t.B_check_name tk1 (sa_cons (se_var (i := 0)) sa_nil) rfl (aCons_len aNil_len))))) (fun a oe A d pn c dd hz hfl hl hA => (sb_one (ss_ret se_non))))))
theorem ok__law_read (t : Tx K mg) : FnM P w K mg base 2 t.f__law_read t.d__law_read ["_law_text_here"] m__law_read :=
  fn_ok (k := 1) (body := b__law_read) t.F__law_read sc__law_read rfl (fun cdv A outer s H E hr tk hp =>
  (sb_one (ss_try rfl ⟨rfl, by decide, .inl t.g_InvalidText⟩ tk t.ex_InvalidText (fun W1 pn1 xe1 tk1 hp1 => (sb_one (ss_ret (se_call (FnOk.mono (ok_read_number t) (by decide)) hr rfl t.g_read_number t.F_read_number.kp t.B_read_number tk1 (sa_cons (se_var (i := 0)) sa_nil) rfl (aCons_len aNil_len))))) (fun a oe A d pn c dd hz hfl hl hA => (sb_one (ss_ret se_non))))))
theorem ok__law_name_error (t : Tx K mg) : FnM P w K mg base 3 t.f__law_name_error t.d__law_name_error ["_law_text_here"] m__law_name_error :=
  fn_ok (k := 2) (body := b__law_name_error) t.F__law_name_error sc__law_name_error rfl (fun cdv A outer s H E hr tk hp =>
  (sb_cons (ss_tryAs (i := 1) sc__law_name_error.nd rfl ⟨rfl, by decide, .inl t.g_FormroadsError⟩ tk t.ex_FormroadsError (fun W1 pn1 xe1 tk1 hp1 => (sb_one (ss_expr (se_call (FnOk.mono (ok_check_name t) (by decide)) hr rfl t.g_check_name t.F_check_name.kp t.B_check_name tk1 (sa_cons (se_var (i := 0)) sa_nil) rfl (aCons_len aNil_len))))) (fun a oe A d pn c dd hz0 hfl hl hA hd => by
    cases dd with
    | some _ => exact sb_bad
    | none =>
      cases hd rfl
      have hz := hz0
      exact (sb_one (ss_ret (se_and (se_isX (A := A) hz hfl hA t.is_ValueError (pe_bltn (v := .ty "ValueError") rfl t.z_ValueError (by decide +kernel) rfl) (fun _ h => h) rfl t.z_isinstance) (se_one (se_not (se_isX (A := A) hz hfl hA t.is_InvalidText (pe_glob (v := .ref t.f_InvalidText) rfl t.g_InvalidText rfl) (fun _ h => h) rfl t.z_isinstance))))))))
  (sb_one (ss_ret se_bl))))
theorem ok__law_number_error (t : Tx K mg) : FnM P w K mg base 2 t.f__law_number_error t.d__law_number_error ["_law_text_here"] m__law_number_error :=
  fn_ok (k := 1) (body := b__law_number_error) t.F__law_number_error sc__law_number_error rfl (fun cdv A outer s H E hr tk hp =>
  (sb_cons (ss_tryAs (i := 1) sc__law_number_error.nd rfl ⟨rfl, by decide, .inl t.g_FormroadsError⟩ tk t.ex_FormroadsError (fun W1 pn1 xe1 tk1 hp1 => (sb_one (ss_expr (se_call (FnOk.mono (ok_read_number t) (by decide)) hr rfl t.g_read_number t.F_read_number.kp t.B_read_number tk1 (sa_cons (se_var (i := 0)) sa_nil) rfl (aCons_len aNil_len))))) (fun a oe A d pn c dd hz0 hfl hl hA hd => by
    cases dd with
    | some _ => exact sb_bad
    | none =>
      cases hd rfl
      have hz := hz0
      exact (sb_one (ss_ret (se_and (se_isX (A := A) hz hfl hA t.is_ValueError (pe_bltn (v := .ty "ValueError") rfl t.z_ValueError (by decide +kernel) rfl) (fun _ h => h) rfl t.z_isinstance) (se_one (se_not (se_isX (A := A) hz hfl hA t.is_InvalidName (pe_glob (v := .ref t.f_InvalidName) rfl t.g_InvalidName rfl) (fun _ h => h) rfl t.z_isinstance))))))))
  (sb_one (ss_ret se_bl))))
theorem ok__law_words_error (t : Tx K mg) : FnM P w K mg base 2 t.f__law_words_error t.d__law_words_error ["_law_text_here"] m__law_words_error :=
  fn_ok (k := 1) (body := b__law_words_error) t.F__law_words_error sc__law_words_error rfl (fun cdv A outer s H E hr tk hp =>
  (sb_cons (ss_tryAs (i := 1) sc__law_words_error.nd rfl ⟨rfl, by decide, .inl t.g_FormroadsError⟩ tk t.ex_FormroadsError (fun W1 pn1 xe1 tk1 hp1 => (sb_one (ss_expr (se_call (FnOk.mono (ok_split_words t) (by decide)) hr rfl t.g_split_words t.F_split_words.kp t.B_split_words tk1 (sa_cons (se_var (i := 0)) sa_nil) rfl (aCons_len aNil_len))))) (fun a oe A d pn c dd hz0 hfl hl hA hd => by
    cases dd with
    | some _ => exact sb_bad
    | none =>
      cases hd rfl
      have hz := hz0
      exact (sb_one (ss_ret (se_and (se_isX (A := A) hz hfl hA t.is_ValueError (pe_bltn (v := .ty "ValueError") rfl t.z_ValueError (by decide +kernel) rfl) (fun _ h => h) rfl t.z_isinstance) (se_one (se_not (se_isX (A := A) hz hfl hA t.is_InvalidName (pe_glob (v := .ref t.f_InvalidName) rfl t.g_InvalidName rfl) (fun _ h => h) rfl t.z_isinstance))))))))
  (sb_one (ss_ret se_bl))))
theorem ok__law_good_words (t : Tx K mg) : FnM P w K mg base 1 t.f__law_good_words t.d__law_good_words ["_law_words", "_law_text_here"] m__law_good_words :=
  fn_ok (k := 0) (body := b__law_good_words) t.F__law_good_words sc__law_good_words rfl (fun cdv A outer s H E hr tk hp =>
  (sb_cons (ss_if (st_w (sw_or (st_not (st_val (se_callB call_isi o_isi rfl t.z_isinstance (by decide +kernel) (sa_cons (se_var (i := 0)) (sa_cons (se_ty (n := "list") rfl t.z_list (by decide +kernel)) sa_nil))))) (sw_or1 (st_cmp (op_eq2 hr.units) o_eq (se_callB cr_len o_len rfl t.z_len (by decide +kernel) (sa_cons (se_var (i := 0)) sa_nil)) se_int)))) (sb_one (ss_ret se_bl)) sb_nil)
  (sb_cons (ss_for hp rfl (si_any (se_var (i := 0))) (sg_name (i := 2) sc__law_good_words.nd) (sb_one (ss_if (st_w (sw_or (st_not (st_val (se_callB call_isi o_isi rfl t.z_isinstance (by decide +kernel) (sa_cons (se_var (i := 2)) (sa_cons (se_ty (n := "str") rfl t.z_str (by decide +kernel)) sa_nil))))) (sw_or (st_cmp (op_eq2 hr.units) o_eq (se_var (i := 2)) se_str) (sw_or1 (st_cmp op_in_str o_in se_str (se_var (i := 2))))))) (sb_one (ss_ret se_bl)) sb_nil)))
  (sb_one (ss_ret (se_cmp (op_eq2 hr.units) o_eq (se_m m_join o_join PySem.F.plainAttrs_str PySem.F.slot_str_join PySem.F.type_str_join se_str (sa_cons (se_var (i := 0)) sa_nil)) (se_var (i := 1))))))))
theorem ok_law (t : Tx K mg) : FnM P w K mg base 5 t.f_law t.d_law ["_law_script"] m_law :=
  fn_ok (k := 4) (body := b_law) t.F_law sc_law rfl (fun cdv A outer s H E hr tk hp =>
  (sb_cons (ss_set (i := 1) sc_law.nd (se_call (FnOk.mono (ok__law_draws t) (by decide)) hr rfl t.g__law_draws t.F__law_draws.kp t.B__law_draws tk (sa_cons (se_var (i := 0)) sa_nil) rfl (aCons_len aNil_len)))
  (sb_cons (ss_set (i := 2) sc_law.nd (se_call (FnOk.mono (ok__law_text t) (by decide)) hr rfl t.g__law_text t.F__law_text.kp t.B__law_text tk (sa_cons (se_var (i := 1)) sa_nil) rfl (aCons_len aNil_len)))
  (sb_cons (ss_set (i := 3) sc_law.nd (se_call (FnOk.mono (ok__law_text t) (by decide)) hr rfl t.g__law_text t.F__law_text.kp t.B__law_text tk (sa_cons (se_var (i := 1)) sa_nil) rfl (aCons_len aNil_len)))
  (sb_cons (ss_for hp rfl (si_any (se_lst (sa_cons (se_var (i := 2)) (sa_cons (se_var (i := 3)) (sa_cons (se_var (i := 2)) sa_nil))))) (sg_name (i := 4) sc_law.nd) (sb_cons (ss_set (i := 5) sc_law.nd (se_call (FnOk.mono (ok__law_is_name t) (by decide)) hr rfl t.g__law_is_name t.F__law_is_name.kp t.B__law_is_name tk (sa_cons (se_var (i := 4)) sa_nil) rfl (aCons_len aNil_len)))
  (sb_cons (ss_if (st_not (st_val (se_call (FnOk.mono (ok__law_same t 3) (by decide)) hr rfl t.g__law_same t.F__law_same.kp t.B__law_same tk (sa_cons (se_call (FnOk.mono (ok_is_name t) (by decide)) hr rfl t.g_is_name t.F_is_name.kp t.B_is_name tk (sa_cons (se_var (i := 4)) sa_nil) rfl (aCons_len aNil_len)) (sa_cons (se_var (i := 5)) sa_nil)) rfl (aCons_len (aCons_len aNil_len))))) (sb_one (ss_ret se_bl)) sb_nil)
  (sb_cons (ss_if (st_not (st_val (se_call (FnOk.mono (ok__law_same t 3) (by decide)) hr rfl t.g__law_same t.F__law_same.kp t.B__law_same tk (sa_cons (se_call (FnOk.mono (ok__law_checked t) (by decide)) hr rfl t.g__law_checked t.F__law_checked.kp t.B__law_checked tk (sa_cons (se_var (i := 4)) sa_nil) rfl (aCons_len aNil_len)) (sa_cons (se_if (st_val (se_var (i := 5))) (se_var (i := 4)) se_non) sa_nil)) rfl (aCons_len (aCons_len aNil_len))))) (sb_one (ss_ret se_bl)) sb_nil)
  (sb_cons (ss_if (st_w (sw_and (st_not (st_val (se_var (i := 5)))) (sw_and1 (st_not (st_val (se_call (FnOk.mono (ok__law_name_error t) (by decide)) hr rfl t.g__law_name_error t.F__law_name_error.kp t.B__law_name_error tk (sa_cons (se_var (i := 4)) sa_nil) rfl (aCons_len aNil_len))))))) (sb_one (ss_ret se_bl)) sb_nil)
  (sb_cons (ss_set (i := 6) sc_law.nd (se_call (FnOk.mono (ok__law_number t) (by decide)) hr rfl t.g__law_number t.F__law_number.kp t.B__law_number tk (sa_cons (se_var (i := 4)) sa_nil) rfl (aCons_len aNil_len)))
  (sb_cons (ss_if (st_not (st_val (se_call (FnOk.mono (ok__law_same t 3) (by decide)) hr rfl t.g__law_same t.F__law_same.kp t.B__law_same tk (sa_cons (se_call (FnOk.mono (ok__law_read t) (by decide)) hr rfl t.g__law_read t.F__law_read.kp t.B__law_read tk (sa_cons (se_var (i := 4)) sa_nil) rfl (aCons_len aNil_len)) (sa_cons (se_var (i := 6)) sa_nil)) rfl (aCons_len (aCons_len aNil_len))))) (sb_one (ss_ret se_bl)) sb_nil)
  (sb_cons (ss_if (st_w (sw_and (st_cmp op_isN o_is (se_var (i := 6)) se_non) (sw_and1 (st_not (st_val (se_call (FnOk.mono (ok__law_number_error t) (by decide)) hr rfl t.g__law_number_error t.F__law_number_error.kp t.B__law_number_error tk (sa_cons (se_var (i := 4)) sa_nil) rfl (aCons_len aNil_len))))))) (sb_one (ss_ret se_bl)) sb_nil)
  (sb_cons (ss_set (i := 7) sc_law.nd (se_or (se_cmp (op_eq2 hr.units) o_eq (se_var (i := 4)) se_str) (se_or (se_m m_starts o_starts PySem.F.plainAttrs_str PySem.F.slot_str_startswith PySem.F.type_str_startswith (se_var (i := 4)) (sa_cons se_str sa_nil)) (se_or (se_m m_ends o_ends PySem.F.plainAttrs_str PySem.F.slot_str_endswith PySem.F.type_str_endswith (se_var (i := 4)) (sa_cons se_str sa_nil)) (se_one (se_cmp op_in_str o_in se_str (se_var (i := 4))))))))
  (sb_cons (ss_set (i := 8) sc_law.nd se_bl)
  (sb_cons (ss_set (i := 9) sc_law.nd se_non)
  (sb_cons (ss_try rfl ⟨rfl, by decide, .inl t.g_InvalidText⟩ tk t.ex_InvalidText (fun W1 pn1 xe1 tk1 hp1 => (sb_one (ss_set (i := 9) sc_law.nd (se_call (FnOk.mono (ok_split_words t) (by decide)) hr rfl t.g_split_words t.F_split_words.kp t.B_split_words tk1 (sa_cons (se_var (i := 4)) sa_nil) rfl (aCons_len aNil_len))))) (fun a oe A d pn c dd hz hfl hl hA => (sb_one (ss_set (i := 8) sc_law.nd se_bl))))
  (sb_cons (ss_if (st_cmp (op_ne2 hr.units) o_ne (se_var (i := 8)) (se_var (i := 7))) (sb_one (ss_ret se_bl)) sb_nil)
  (sb_cons (ss_if (st_w (sw_and (st_val (se_var (i := 7))) (sw_and1 (st_not (st_val (se_call (FnOk.mono (ok__law_words_error t) (by decide)) hr rfl t.g__law_words_error t.F__law_words_error.kp t.B__law_words_error tk (sa_cons (se_var (i := 4)) sa_nil) rfl (aCons_len aNil_len))))))) (sb_one (ss_ret se_bl)) sb_nil)
  (sb_one (ss_if (st_not (st_val (se_var (i := 7)))) (sb_cons (ss_if (st_not (st_val (se_call (FnOk.mono (ok__law_good_words t) (by decide)) hr rfl t.g__law_good_words t.F__law_good_words.kp t.B__law_good_words tk (sa_cons (se_var (i := 9)) (sa_cons (se_var (i := 4)) sa_nil)) rfl (aCons_len (aCons_len aNil_len))))) (sb_one (ss_ret se_bl)) sb_nil)
  (sb_one (ss_expr (se_m mt_append o_append PySem.F.plainAttrs_list PySem.F.slot_list_append PySem.F.type_list_append (se_var (i := 9)) (sa_cons (se_var (i := 4)) sa_nil))))) sb_nil))))))))))))))))
  (sb_one (ss_ret se_bl)))))))
end
theorem all_mk {l : PySem.W.OpenLaw} {w : World} {K : PySem.W.Frag} {h : Heap} {mg : Str → Option Value} {fa : Addr} (X : K.In h) (G : h.Ns mainGlobals mg) (hfa : mg "law" = some (.ref fa))
    (plain : ∀ ns : List Int, ns.length ≤ 63 → ∃ S, m_law [.fl (ns.map .int)] [] = .ok (.bl true) S)
    {f_is_name : Addr} {od_is_name an_is_name : Option Addr} {sl_is_name : Array (Option Value)} {oc_is_name kV_is_name dc_is_name pm_is_name cd_is_name ct_is_name : Value}
    (a_is_name : PySem.W.nsIn K mainGlobals "is_name" = some (some (.ref f_is_name)))
    (l_is_name : K.lookup f_is_name = some ⟨oc_is_name, od_is_name, .func (PySem.W.fnOf "is_name" "is_name" (defArgs st_is_name) (defBody st_is_name) (defScope st_is_name) .none kV_is_name dc_is_name pm_is_name an_is_name cd_is_name ct_is_name), sl_is_name⟩)
    (e_is_name : PySem.W.codeIn K cd_is_name "is_name" = true) (p_is_name : PySem.W.keepIn K (.ref f_is_name) = true)
    {f_check_name : Addr} {od_check_name an_check_name : Option Addr} {sl_check_name : Array (Option Value)} {oc_check_name kV_check_name dc_check_name pm_check_name cd_check_name ct_check_name : Value}
    (a_check_name : PySem.W.nsIn K mainGlobals "check_name" = some (some (.ref f_check_name)))
    (l_check_name : K.lookup f_check_name = some ⟨oc_check_name, od_check_name, .func (PySem.W.fnOf "check_name" "check_name" (defArgs st_check_name) (defBody st_check_name) (defScope st_check_name) .none kV_check_name dc_check_name pm_check_name an_check_name cd_check_name ct_check_name), sl_check_name⟩)
    (e_check_name : PySem.W.codeIn K cd_check_name "check_name" = true) (p_check_name : PySem.W.keepIn K (.ref f_check_name) = true)
    {f_read_number : Addr} {od_read_number an_read_number : Option Addr} {sl_read_number : Array (Option Value)} {oc_read_number kV_read_number dc_read_number pm_read_number cd_read_number ct_read_number : Value}
    (a_read_number : PySem.W.nsIn K mainGlobals "read_number" = some (some (.ref f_read_number)))
    (l_read_number : K.lookup f_read_number = some ⟨oc_read_number, od_read_number, .func (PySem.W.fnOf "read_number" "read_number" (defArgs st_read_number) (defBody st_read_number) (defScope st_read_number) .none kV_read_number dc_read_number pm_read_number an_read_number cd_read_number ct_read_number), sl_read_number⟩)
    (e_read_number : PySem.W.codeIn K cd_read_number "read_number" = true) (p_read_number : PySem.W.keepIn K (.ref f_read_number) = true)
    {f_split_words : Addr} {od_split_words an_split_words : Option Addr} {sl_split_words : Array (Option Value)} {oc_split_words kV_split_words dc_split_words pm_split_words cd_split_words ct_split_words : Value}
    (a_split_words : PySem.W.nsIn K mainGlobals "split_words" = some (some (.ref f_split_words)))
    (l_split_words : K.lookup f_split_words = some ⟨oc_split_words, od_split_words, .func (PySem.W.fnOf "split_words" "split_words" (defArgs st_split_words) (defBody st_split_words) (defScope st_split_words) .none kV_split_words dc_split_words pm_split_words an_split_words cd_split_words ct_split_words), sl_split_words⟩)
    (e_split_words : PySem.W.codeIn K cd_split_words "split_words" = true) (p_split_words : PySem.W.keepIn K (.ref f_split_words) = true)
    {f__law_draws : Addr} {od__law_draws an__law_draws : Option Addr} {sl__law_draws : Array (Option Value)} {oc__law_draws kV__law_draws dc__law_draws pm__law_draws cd__law_draws ct__law_draws : Value}
    (a__law_draws : PySem.W.nsIn K mainGlobals "_law_draws" = some (some (.ref f__law_draws)))
    (l__law_draws : K.lookup f__law_draws = some ⟨oc__law_draws, od__law_draws, .func (PySem.W.fnOf "_law_draws" "_law_draws" (defArgs st__law_draws) (defBody st__law_draws) (defScope st__law_draws) .none kV__law_draws dc__law_draws pm__law_draws an__law_draws cd__law_draws ct__law_draws), sl__law_draws⟩)
    (e__law_draws : PySem.W.codeIn K cd__law_draws "_law_draws" = true) (p__law_draws : PySem.W.keepIn K (.ref f__law_draws) = true)
    {f__law_draw : Addr} {od__law_draw an__law_draw : Option Addr} {sl__law_draw : Array (Option Value)} {oc__law_draw kV__law_draw dc__law_draw pm__law_draw cd__law_draw ct__law_draw : Value}
    (a__law_draw : PySem.W.nsIn K mainGlobals "_law_draw" = some (some (.ref f__law_draw)))
    (l__law_draw : K.lookup f__law_draw = some ⟨oc__law_draw, od__law_draw, .func (PySem.W.fnOf "_law_draw" "_law_draw" (defArgs st__law_draw) (defBody st__law_draw) (defScope st__law_draw) .none kV__law_draw dc__law_draw pm__law_draw an__law_draw cd__law_draw ct__law_draw), sl__law_draw⟩)
    (e__law_draw : PySem.W.codeIn K cd__law_draw "_law_draw" = true) (p__law_draw : PySem.W.keepIn K (.ref f__law_draw) = true)
    {f__law_pick : Addr} {od__law_pick an__law_pick : Option Addr} {sl__law_pick : Array (Option Value)} {oc__law_pick kV__law_pick dc__law_pick pm__law_pick cd__law_pick ct__law_pick : Value}
    (a__law_pick : PySem.W.nsIn K mainGlobals "_law_pick" = some (some (.ref f__law_pick)))
    (l__law_pick : K.lookup f__law_pick = some ⟨oc__law_pick, od__law_pick, .func (PySem.W.fnOf "_law_pick" "_law_pick" (defArgs st__law_pick) (defBody st__law_pick) (defScope st__law_pick) .none kV__law_pick dc__law_pick pm__law_pick an__law_pick cd__law_pick ct__law_pick), sl__law_pick⟩)
    (e__law_pick : PySem.W.codeIn K cd__law_pick "_law_pick" = true) (p__law_pick : PySem.W.keepIn K (.ref f__law_pick) = true)
    {f__law_same : Addr} {od__law_same an__law_same : Option Addr} {sl__law_same : Array (Option Value)} {oc__law_same kV__law_same dc__law_same pm__law_same cd__law_same ct__law_same : Value}
    (a__law_same : PySem.W.nsIn K mainGlobals "_law_same" = some (some (.ref f__law_same)))
    (l__law_same : K.lookup f__law_same = some ⟨oc__law_same, od__law_same, .func (PySem.W.fnOf "_law_same" "_law_same" (defArgs st__law_same) (defBody st__law_same) (defScope st__law_same) .none kV__law_same dc__law_same pm__law_same an__law_same cd__law_same ct__law_same), sl__law_same⟩)
    (e__law_same : PySem.W.codeIn K cd__law_same "_law_same" = true) (p__law_same : PySem.W.keepIn K (.ref f__law_same) = true)
    {f__law_text : Addr} {od__law_text an__law_text : Option Addr} {sl__law_text : Array (Option Value)} {oc__law_text kV__law_text dc__law_text pm__law_text cd__law_text ct__law_text : Value}
    (a__law_text : PySem.W.nsIn K mainGlobals "_law_text" = some (some (.ref f__law_text)))
    (l__law_text : K.lookup f__law_text = some ⟨oc__law_text, od__law_text, .func (PySem.W.fnOf "_law_text" "_law_text" (defArgs st__law_text) (defBody st__law_text) (defScope st__law_text) .none kV__law_text dc__law_text pm__law_text an__law_text cd__law_text ct__law_text), sl__law_text⟩)
    (e__law_text : PySem.W.codeIn K cd__law_text "_law_text" = true) (p__law_text : PySem.W.keepIn K (.ref f__law_text) = true)
    {f__law_is_name : Addr} {od__law_is_name an__law_is_name : Option Addr} {sl__law_is_name : Array (Option Value)} {oc__law_is_name kV__law_is_name dc__law_is_name pm__law_is_name cd__law_is_name ct__law_is_name : Value}
    (a__law_is_name : PySem.W.nsIn K mainGlobals "_law_is_name" = some (some (.ref f__law_is_name)))
    (l__law_is_name : K.lookup f__law_is_name = some ⟨oc__law_is_name, od__law_is_name, .func (PySem.W.fnOf "_law_is_name" "_law_is_name" (defArgs st__law_is_name) (defBody st__law_is_name) (defScope st__law_is_name) .none kV__law_is_name dc__law_is_name pm__law_is_name an__law_is_name cd__law_is_name ct__law_is_name), sl__law_is_name⟩)
    (e__law_is_name : PySem.W.codeIn K cd__law_is_name "_law_is_name" = true) (p__law_is_name : PySem.W.keepIn K (.ref f__law_is_name) = true)
    {f__law_number : Addr} {od__law_number an__law_number : Option Addr} {sl__law_number : Array (Option Value)} {oc__law_number kV__law_number dc__law_number pm__law_number cd__law_number ct__law_number : Value}
    (a__law_number : PySem.W.nsIn K mainGlobals "_law_number" = some (some (.ref f__law_number)))
    (l__law_number : K.lookup f__law_number = some ⟨oc__law_number, od__law_number, .func (PySem.W.fnOf "_law_number" "_law_number" (defArgs st__law_number) (defBody st__law_number) (defScope st__law_number) .none kV__law_number dc__law_number pm__law_number an__law_number cd__law_number ct__law_number), sl__law_number⟩)
    (e__law_number : PySem.W.codeIn K cd__law_number "_law_number" = true) (p__law_number : PySem.W.keepIn K (.ref f__law_number) = true)
    {f__law_checked : Addr} {od__law_checked an__law_checked : Option Addr} {sl__law_checked : Array (Option Value)} {oc__law_checked kV__law_checked dc__law_checked pm__law_checked cd__law_checked ct__law_checked : Value}
    (a__law_checked : PySem.W.nsIn K mainGlobals "_law_checked" = some (some (.ref f__law_checked)))
    (l__law_checked : K.lookup f__law_checked = some ⟨oc__law_checked, od__law_checked, .func (PySem.W.fnOf "_law_checked" "_law_checked" (defArgs st__law_checked) (defBody st__law_checked) (defScope st__law_checked) .none kV__law_checked dc__law_checked pm__law_checked an__law_checked cd__law_checked ct__law_checked), sl__law_checked⟩)
    (e__law_checked : PySem.W.codeIn K cd__law_checked "_law_checked" = true) (p__law_checked : PySem.W.keepIn K (.ref f__law_checked) = true)
    {f__law_read : Addr} {od__law_read an__law_read : Option Addr} {sl__law_read : Array (Option Value)} {oc__law_read kV__law_read dc__law_read pm__law_read cd__law_read ct__law_read : Value}
    (a__law_read : PySem.W.nsIn K mainGlobals "_law_read" = some (some (.ref f__law_read)))
    (l__law_read : K.lookup f__law_read = some ⟨oc__law_read, od__law_read, .func (PySem.W.fnOf "_law_read" "_law_read" (defArgs st__law_read) (defBody st__law_read) (defScope st__law_read) .none kV__law_read dc__law_read pm__law_read an__law_read cd__law_read ct__law_read), sl__law_read⟩)
    (e__law_read : PySem.W.codeIn K cd__law_read "_law_read" = true) (p__law_read : PySem.W.keepIn K (.ref f__law_read) = true)
    {f__law_name_error : Addr} {od__law_name_error an__law_name_error : Option Addr} {sl__law_name_error : Array (Option Value)} {oc__law_name_error kV__law_name_error dc__law_name_error pm__law_name_error cd__law_name_error ct__law_name_error : Value}
    (a__law_name_error : PySem.W.nsIn K mainGlobals "_law_name_error" = some (some (.ref f__law_name_error)))
    (l__law_name_error : K.lookup f__law_name_error = some ⟨oc__law_name_error, od__law_name_error, .func (PySem.W.fnOf "_law_name_error" "_law_name_error" (defArgs st__law_name_error) (defBody st__law_name_error) (defScope st__law_name_error) .none kV__law_name_error dc__law_name_error pm__law_name_error an__law_name_error cd__law_name_error ct__law_name_error), sl__law_name_error⟩)
    (e__law_name_error : PySem.W.codeIn K cd__law_name_error "_law_name_error" = true) (p__law_name_error : PySem.W.keepIn K (.ref f__law_name_error) = true)
    {f__law_number_error : Addr} {od__law_number_error an__law_number_error : Option Addr} {sl__law_number_error : Array (Option Value)} {oc__law_number_error kV__law_number_error dc__law_number_error pm__law_number_error cd__law_number_error ct__law_number_error : Value}
    (a__law_number_error : PySem.W.nsIn K mainGlobals "_law_number_error" = some (some (.ref f__law_number_error)))
    (l__law_number_error : K.lookup f__law_number_error = some ⟨oc__law_number_error, od__law_number_error, .func (PySem.W.fnOf "_law_number_error" "_law_number_error" (defArgs st__law_number_error) (defBody st__law_number_error) (defScope st__law_number_error) .none kV__law_number_error dc__law_number_error pm__law_number_error an__law_number_error cd__law_number_error ct__law_number_error), sl__law_number_error⟩)
    (e__law_number_error : PySem.W.codeIn K cd__law_number_error "_law_number_error" = true) (p__law_number_error : PySem.W.keepIn K (.ref f__law_number_error) = true)
    {f__law_words_error : Addr} {od__law_words_error an__law_words_error : Option Addr} {sl__law_words_error : Array (Option Value)} {oc__law_words_error kV__law_words_error dc__law_words_error pm__law_words_error cd__law_words_error ct__law_words_error : Value}
    (a__law_words_error : PySem.W.nsIn K mainGlobals "_law_words_error" = some (some (.ref f__law_words_error)))
    (l__law_words_error : K.lookup f__law_words_error = some ⟨oc__law_words_error, od__law_words_error, .func (PySem.W.fnOf "_law_words_error" "_law_words_error" (defArgs st__law_words_error) (defBody st__law_words_error) (defScope st__law_words_error) .none kV__law_words_error dc__law_words_error pm__law_words_error an__law_words_error cd__law_words_error ct__law_words_error), sl__law_words_error⟩)
    (e__law_words_error : PySem.W.codeIn K cd__law_words_error "_law_words_error" = true) (p__law_words_error : PySem.W.keepIn K (.ref f__law_words_error) = true)
    {f__law_good_words : Addr} {od__law_good_words an__law_good_words : Option Addr} {sl__law_good_words : Array (Option Value)} {oc__law_good_words kV__law_good_words dc__law_good_words pm__law_good_words cd__law_good_words ct__law_good_words : Value}
    (a__law_good_words : PySem.W.nsIn K mainGlobals "_law_good_words" = some (some (.ref f__law_good_words)))
    (l__law_good_words : K.lookup f__law_good_words = some ⟨oc__law_good_words, od__law_good_words, .func (PySem.W.fnOf "_law_good_words" "_law_good_words" (defArgs st__law_good_words) (defBody st__law_good_words) (defScope st__law_good_words) .none kV__law_good_words dc__law_good_words pm__law_good_words an__law_good_words cd__law_good_words ct__law_good_words), sl__law_good_words⟩)
    (e__law_good_words : PySem.W.codeIn K cd__law_good_words "_law_good_words" = true) (p__law_good_words : PySem.W.keepIn K (.ref f__law_good_words) = true)
    {f_law : Addr} {od_law an_law : Option Addr} {sl_law : Array (Option Value)} {oc_law kV_law dc_law pm_law cd_law ct_law : Value}
    (a_law : PySem.W.nsIn K mainGlobals "law" = some (some (.ref f_law)))
    (l_law : K.lookup f_law = some ⟨oc_law, od_law, .func (PySem.W.fnOf "law" "law" (defArgs st_law) (defBody st_law) (defScope st_law) .none kV_law dc_law pm_law an_law cd_law ct_law), sl_law⟩)
    (e_law : PySem.W.codeIn K cd_law "law" = true) (p_law : PySem.W.keepIn K (.ref f_law) = true)
    {f_FormroadsError : Addr} (a_FormroadsError : PySem.W.nsIn K mainGlobals "FormroadsError" = some (some (.ref f_FormroadsError)))
    {f_InvalidName : Addr} (a_InvalidName : PySem.W.nsIn K mainGlobals "InvalidName" = some (some (.ref f_InvalidName)))
    {f_InvalidText : Addr} (a_InvalidText : PySem.W.nsIn K mainGlobals "InvalidText" = some (some (.ref f_InvalidText)))
    (x_InvalidName : PySem.W.excIn K f_InvalidName [.type "ValueError", .type "Exception", .type "BaseException", .type "object"] "ValueError.__new__" = true) (kp_InvalidName : PySem.W.keepIn K (.ref f_InvalidName) = true) (be_InvalidName : PySem.W.subIn K (.ref f_InvalidName) (.type "BaseException") = some true) (ty_InvalidName : PySem.W.typeIn K (.ref f_InvalidName) = some (.type "type"))
    (x_InvalidText : PySem.W.excIn K f_InvalidText [.type "ValueError", .type "Exception", .type "BaseException", .type "object"] "ValueError.__new__" = true) (kp_InvalidText : PySem.W.keepIn K (.ref f_InvalidText) = true) (be_InvalidText : PySem.W.subIn K (.ref f_InvalidText) (.type "BaseException") = some true) (ty_InvalidText : PySem.W.typeIn K (.ref f_InvalidText) = some (.type "type"))
    (hd_FormroadsError : PySem.W.hasDictIn K f_FormroadsError = true)
    (be_FormroadsError : PySem.W.subIn K (.ref f_FormroadsError) (.type "BaseException") = some true) (ty_FormroadsError : PySem.W.typeIn K (.ref f_FormroadsError) = some (.type "type"))
    (hd_InvalidName : PySem.W.hasDictIn K f_InvalidName = true)
    (hd_InvalidText : PySem.W.hasDictIn K f_InvalidText = true)
    (hg_InvalidName : PySem.W.findIn K (.ref f_InvalidName) "__getattribute__" = some (some (.builtin "BaseException.__getattribute__")))
    (hk_InvalidName : PySem.W.findIn K (.ref f_InvalidName) "__getattr__" = some none)
    (ha_InvalidName : PySem.W.findIn K (.ref f_InvalidName) "__class__" = some (some (.builtin "object.__class__")))
    (hm_InvalidName : PySem.W.mroIn K f_InvalidName (.type "object") = some true)
    (hg_InvalidText : PySem.W.findIn K (.ref f_InvalidText) "__getattribute__" = some (some (.builtin "BaseException.__getattribute__")))
    (hk_InvalidText : PySem.W.findIn K (.ref f_InvalidText) "__getattr__" = some none)
    (ha_InvalidText : PySem.W.findIn K (.ref f_InvalidText) "__class__" = some (some (.builtin "object.__class__")))
    (hm_InvalidText : PySem.W.mroIn K f_InvalidText (.type "object") = some true)
    (hn0 : PySem.W.specialIn K (.builtin "object.__class__") "__get__" = some (some (.builtin "getset_descriptor.__get__"))) (ht0 : PySem.W.takesIn K (.builtin "object.__class__") = some true)
    (su_FormroadsError_InvalidName : PySem.W.subIn K (.ref f_InvalidName) (.ref f_FormroadsError) = some true)
    (su_FormroadsError_InvalidText : PySem.W.subIn K (.ref f_InvalidText) (.ref f_FormroadsError) = some true)
    (su_InvalidName_InvalidName : PySem.W.subIn K (.ref f_InvalidName) (.ref f_InvalidName) = some true)
    (su_InvalidName_InvalidText : PySem.W.subIn K (.ref f_InvalidText) (.ref f_InvalidName) = some false)
    (ne_InvalidName_InvalidText : (Value.ref f_InvalidText == .ref f_InvalidName) = false)
    (su_InvalidText_InvalidName : PySem.W.subIn K (.ref f_InvalidName) (.ref f_InvalidText) = some false)
    (ne_InvalidText_InvalidName : (Value.ref f_InvalidName == .ref f_InvalidText) = false)
    (su_InvalidText_InvalidText : PySem.W.subIn K (.ref f_InvalidText) (.ref f_InvalidText) = some true)
    (su_ValueError_InvalidName : PySem.W.subIn K (.ref f_InvalidName) (.type "ValueError") = some true)
    (su_ValueError_InvalidText : PySem.W.subIn K (.ref f_InvalidText) (.type "ValueError") = some true)
    (z_ValueError : PySem.W.nsIn K mainGlobals "ValueError" = some none)
    (z_bool : PySem.W.nsIn K mainGlobals "bool" = some none)
    (z_int : PySem.W.nsIn K mainGlobals "int" = some none)
    (z_isinstance : PySem.W.nsIn K mainGlobals "isinstance" = some none)
    (z_len : PySem.W.nsIn K mainGlobals "len" = some none)
    (z_list : PySem.W.nsIn K mainGlobals "list" = some none)
    (z_range : PySem.W.nsIn K mainGlobals "range" = some none)
    (z_str : PySem.W.nsIn K mainGlobals "str" = some none)
    (z_tuple : PySem.W.nsIn K mainGlobals "tuple" = some none)
    {tk_DIGITS : Tok} (c_DIGITS : PySem.W.nsIn K mainGlobals "DIGITS" = some (some (.str (Str.ofString "0123456789") tk_DIGITS)))
    {tk_LETTERS : Tok} (c_LETTERS : PySem.W.nsIn K mainGlobals "LETTERS" = some (some (.str (Str.ofString "abcdefghijklmnopqrstuvwxyz") tk_LETTERS)))
    {tk_MOST_DIGITS : Tok} (c_MOST_DIGITS : PySem.W.nsIn K mainGlobals "MOST_DIGITS" = some (some (.int 6 tk_MOST_DIGITS)))
    {tk_MOST_LETTERS : Tok} (c_MOST_LETTERS : PySem.W.nsIn K mainGlobals "MOST_LETTERS" = some (some (.int 8 tk_MOST_LETTERS))) :
    ∃ fd : FuncData, (∀ (s : Shared) (v : Value), BindsTo s fd ⟨[v], []⟩ [("_law_script", v)]) ∧ ∀ base : Heap, K.In base → base.Ns mainGlobals mg → FnOk l.prog w K mg base (L2.CX l.prog w) 5 fa fd ["_law_script"] (spLaw K) := by
  have e := hfa.symm.trans (PySem.W.mg_of X G a_law)
  cases e
  let t : Tx K mg := ⟨f_is_name, _, fun_mk (st := st_is_name) l_is_name e_is_name p_is_name, (fun_mk (st := st_is_name) l_is_name e_is_name p_is_name).binds (ps := ["text"]) (fun _ _ _ _ _ _ us hl => match us, hl with | [_], _ => rfl), PySem.W.mg_of X G a_is_name, f_check_name, _, fun_mk (st := st_check_name) l_check_name e_check_name p_check_name, (fun_mk (st := st_check_name) l_check_name e_check_name p_check_name).binds (ps := ["text"]) (fun _ _ _ _ _ _ us hl => match us, hl with | [_], _ => rfl), PySem.W.mg_of X G a_check_name, f_read_number, _, fun_mk (st := st_read_number) l_read_number e_read_number p_read_number, (fun_mk (st := st_read_number) l_read_number e_read_number p_read_number).binds (ps := ["text"]) (fun _ _ _ _ _ _ us hl => match us, hl with | [_], _ => rfl), PySem.W.mg_of X G a_read_number, f_split_words, _, fun_mk (st := st_split_words) l_split_words e_split_words p_split_words, (fun_mk (st := st_split_words) l_split_words e_split_words p_split_words).binds (ps := ["line"]) (fun _ _ _ _ _ _ us hl => match us, hl with | [_], _ => rfl), PySem.W.mg_of X G a_split_words, f__law_draws, _, fun_mk (st := st__law_draws) l__law_draws e__law_draws p__law_draws, (fun_mk (st := st__law_draws) l__law_draws e__law_draws p__law_draws).binds (ps := ["_law_script"]) (fun _ _ _ _ _ _ us hl => match us, hl with | [_], _ => rfl), PySem.W.mg_of X G a__law_draws, f__law_draw, _, fun_mk (st := st__law_draw) l__law_draw e__law_draw p__law_draw, (fun_mk (st := st__law_draw) l__law_draw e__law_draw p__law_draw).binds (ps := ["_law_draws_here", "_law_many"]) (fun _ _ _ _ _ _ us hl => match us, hl with | [_, _], _ => rfl), PySem.W.mg_of X G a__law_draw, f__law_pick, _, fun_mk (st := st__law_pick) l__law_pick e__law_pick p__law_pick, (fun_mk (st := st__law_pick) l__law_pick e__law_pick p__law_pick).binds (ps := ["_law_draws_here", "_law_things"]) (fun _ _ _ _ _ _ us hl => match us, hl with | [_, _], _ => rfl), PySem.W.mg_of X G a__law_pick, f__law_same, _, fun_mk (st := st__law_same) l__law_same e__law_same p__law_same, (fun_mk (st := st__law_same) l__law_same e__law_same p__law_same).binds (ps := ["_law_actual", "_law_due"]) (fun _ _ _ _ _ _ us hl => match us, hl with | [_, _], _ => rfl), PySem.W.mg_of X G a__law_same, f__law_text, _, fun_mk (st := st__law_text) l__law_text e__law_text p__law_text, (fun_mk (st := st__law_text) l__law_text e__law_text p__law_text).binds (ps := ["_law_draws_here"]) (fun _ _ _ _ _ _ us hl => match us, hl with | [_], _ => rfl), PySem.W.mg_of X G a__law_text, f__law_is_name, _, fun_mk (st := st__law_is_name) l__law_is_name e__law_is_name p__law_is_name, (fun_mk (st := st__law_is_name) l__law_is_name e__law_is_name p__law_is_name).binds (ps := ["_law_text_here"]) (fun _ _ _ _ _ _ us hl => match us, hl with | [_], _ => rfl), PySem.W.mg_of X G a__law_is_name, f__law_number, _, fun_mk (st := st__law_number) l__law_number e__law_number p__law_number, (fun_mk (st := st__law_number) l__law_number e__law_number p__law_number).binds (ps := ["_law_text_here"]) (fun _ _ _ _ _ _ us hl => match us, hl with | [_], _ => rfl), PySem.W.mg_of X G a__law_number, f__law_checked, _, fun_mk (st := st__law_checked) l__law_checked e__law_checked p__law_checked, (fun_mk (st := st__law_checked) l__law_checked e__law_checked p__law_checked).binds (ps := ["_law_text_here"]) (fun _ _ _ _ _ _ us hl => match us, hl with | [_], _ => rfl), PySem.W.mg_of X G a__law_checked, f__law_read, _, fun_mk (st := st__law_read) l__law_read e__law_read p__law_read, (fun_mk (st := st__law_read) l__law_read e__law_read p__law_read).binds (ps := ["_law_text_here"]) (fun _ _ _ _ _ _ us hl => match us, hl with | [_], _ => rfl), PySem.W.mg_of X G a__law_read, f__law_name_error, _, fun_mk (st := st__law_name_error) l__law_name_error e__law_name_error p__law_name_error, (fun_mk (st := st__law_name_error) l__law_name_error e__law_name_error p__law_name_error).binds (ps := ["_law_text_here"]) (fun _ _ _ _ _ _ us hl => match us, hl with | [_], _ => rfl), PySem.W.mg_of X G a__law_name_error, f__law_number_error, _, fun_mk (st := st__law_number_error) l__law_number_error e__law_number_error p__law_number_error, (fun_mk (st := st__law_number_error) l__law_number_error e__law_number_error p__law_number_error).binds (ps := ["_law_text_here"]) (fun _ _ _ _ _ _ us hl => match us, hl with | [_], _ => rfl), PySem.W.mg_of X G a__law_number_error, f__law_words_error, _, fun_mk (st := st__law_words_error) l__law_words_error e__law_words_error p__law_words_error, (fun_mk (st := st__law_words_error) l__law_words_error e__law_words_error p__law_words_error).binds (ps := ["_law_text_here"]) (fun _ _ _ _ _ _ us hl => match us, hl with | [_], _ => rfl), PySem.W.mg_of X G a__law_words_error, f__law_good_words, _, fun_mk (st := st__law_good_words) l__law_good_words e__law_good_words p__law_good_words, (fun_mk (st := st__law_good_words) l__law_good_words e__law_good_words p__law_good_words).binds (ps := ["_law_words", "_law_text_here"]) (fun _ _ _ _ _ _ us hl => match us, hl with | [_, _], _ => rfl), PySem.W.mg_of X G a__law_good_words, _, _, fun_mk (st := st_law) l_law e_law p_law, (fun_mk (st := st_law) l_law e_law p_law).binds (ps := ["_law_script"]) (fun _ _ _ _ _ _ us hl => match us, hl with | [_], _ => rfl), PySem.W.mg_of X G a_law, f_FormroadsError, PySem.W.mg_of X G a_FormroadsError, f_InvalidName, PySem.W.mg_of X G a_InvalidName, f_InvalidText, PySem.W.mg_of X G a_InvalidText, x_InvalidName, kp_InvalidName, be_InvalidName, ty_InvalidName, x_InvalidText, kp_InvalidText, be_InvalidText, ty_InvalidText, (xtab_cons (PySem.W.mg_of X G a_InvalidName) (exm_kit be_FormroadsError (kitCls_ref hd_FormroadsError ty_FormroadsError su_FormroadsError_InvalidName)) (xtab_cons (PySem.W.mg_of X G a_InvalidText) (exm_kit be_FormroadsError (kitCls_ref hd_FormroadsError ty_FormroadsError su_FormroadsError_InvalidText)) xtab_nil)), (xtab_cons (PySem.W.mg_of X G a_InvalidName) (exm_kit be_InvalidName (kitCls_ref hd_InvalidName ty_InvalidName su_InvalidName_InvalidName)) (xtab_cons (PySem.W.mg_of X G a_InvalidText) (exm_kit be_InvalidName (kitCls_ref hd_InvalidName ty_InvalidName su_InvalidName_InvalidText)) xtab_nil)), (xtab_cons (PySem.W.mg_of X G a_InvalidName) (exm_kit be_InvalidText (kitCls_ref hd_InvalidText ty_InvalidText su_InvalidText_InvalidName)) (xtab_cons (PySem.W.mg_of X G a_InvalidText) (exm_kit be_InvalidText (kitCls_ref hd_InvalidText ty_InvalidText su_InvalidText_InvalidText)) xtab_nil)), (ktab_cons (PySem.W.mg_of X G a_InvalidName) ⟨hg_InvalidName, hk_InvalidName, be_InvalidName, hd_InvalidName, ha_InvalidName, hn0, ht0, hm_InvalidName⟩ (kit_sub (kitCls_ref hd_InvalidName ty_InvalidName su_InvalidName_InvalidName) (.inr rfl)) (ktab_cons (PySem.W.mg_of X G a_InvalidText) ⟨hg_InvalidText, hk_InvalidText, be_InvalidText, hd_InvalidText, ha_InvalidText, hn0, ht0, hm_InvalidText⟩ (kit_sub (kitCls_ref hd_InvalidName ty_InvalidName su_InvalidName_InvalidText) (.inl ne_InvalidName_InvalidText)) ktab_nil)), (ktab_cons (PySem.W.mg_of X G a_InvalidName) ⟨hg_InvalidName, hk_InvalidName, be_InvalidName, hd_InvalidName, ha_InvalidName, hn0, ht0, hm_InvalidName⟩ (kit_sub (kitCls_ref hd_InvalidText ty_InvalidText su_InvalidText_InvalidName) (.inl ne_InvalidText_InvalidName)) (ktab_cons (PySem.W.mg_of X G a_InvalidText) ⟨hg_InvalidText, hk_InvalidText, be_InvalidText, hd_InvalidText, ha_InvalidText, hn0, ht0, hm_InvalidText⟩ (kit_sub (kitCls_ref hd_InvalidText ty_InvalidText su_InvalidText_InvalidText) (.inr rfl)) ktab_nil)), (ktab_cons (PySem.W.mg_of X G a_InvalidName) ⟨hg_InvalidName, hk_InvalidName, be_InvalidName, hd_InvalidName, ha_InvalidName, hn0, ht0, hm_InvalidName⟩ (kit_sub (kitCls_ty (by decide +kernel) su_ValueError_InvalidName) (.inr rfl)) (ktab_cons (PySem.W.mg_of X G a_InvalidText) ⟨hg_InvalidText, hk_InvalidText, be_InvalidText, hd_InvalidText, ha_InvalidText, hn0, ht0, hm_InvalidText⟩ (kit_sub (kitCls_ty (by decide +kernel) su_ValueError_InvalidText) (.inr rfl)) ktab_nil)), PySem.W.mg_none_of X G z_ValueError, PySem.W.mg_none_of X G z_bool, PySem.W.mg_none_of X G z_int, PySem.W.mg_none_of X G z_isinstance, PySem.W.mg_none_of X G z_len, PySem.W.mg_none_of X G z_list, PySem.W.mg_none_of X G z_range, PySem.W.mg_none_of X G z_str, PySem.W.mg_none_of X G z_tuple, ⟨_, PySem.W.mg_of X G c_DIGITS, ⟨_, rfl⟩⟩, ⟨_, PySem.W.mg_of X G c_LETTERS, ⟨_, rfl⟩⟩, ⟨_, PySem.W.mg_of X G c_MOST_DIGITS, ⟨_, rfl⟩⟩, ⟨_, PySem.W.mg_of X G c_MOST_LETTERS, ⟨_, rfl⟩⟩⟩
  exact ⟨t.d_law, fun s v => .of_eq rfl, fun base _ _ => law_end (ok_law t) plain⟩
end Lw_k00

open PySem PySem.W PyProof.Rows
set_option maxHeartbeats 0 in
theorem PySem.Challenge.cw_formroads_k00_names_and_lines_holds : PySem.Challenge.rw_formroads_k00_names_and_lines.Holds := by
  w_on; o_law; k_head; (case hw => w_witness2)
  k_fill
  refine L2.walk_of (l := PySem.Challenge.rw_formroads_k00_names_and_lines) (n := 63) (k := 5) (x := "_law_script") (CX := fun w => L2.CX PySem.Challenge.rw_formroads_k00_names_and_lines.prog w) (sp := fun w => Fr.spLaw _) rfl (by decide) rfl ⟨rfl, by decide, by decide⟩ (fun w h Y => PySem.W.kIn_of Y) ?F (fun _ _ a ns hl ho hS => ⟨a, ns, rfl, hS, hl, ho, fun _ => rfl⟩) (fun _ _ _ _ _ h => Fr.no_exc h)
  case F =>
    intro w mg fa h KX G hmg
    refine' Lw_k00.all_mk KX G hmg Lw_k00.plain ?a_is_name ?l_is_name ?e_is_name ?p_is_name ?a_check_name ?l_check_name ?e_check_name ?p_check_name ?a_read_number ?l_read_number ?e_read_number ?p_read_number ?a_split_words ?l_split_words ?e_split_words ?p_split_words ?a__law_draws ?l__law_draws ?e__law_draws ?p__law_draws ?a__law_draw ?l__law_draw ?e__law_draw ?p__law_draw ?a__law_pick ?l__law_pick ?e__law_pick ?p__law_pick ?a__law_same ?l__law_same ?e__law_same ?p__law_same ?a__law_text ?l__law_text ?e__law_text ?p__law_text ?a__law_is_name ?l__law_is_name ?e__law_is_name ?p__law_is_name ?a__law_number ?l__law_number ?e__law_number ?p__law_number ?a__law_checked ?l__law_checked ?e__law_checked ?p__law_checked ?a__law_read ?l__law_read ?e__law_read ?p__law_read ?a__law_name_error ?l__law_name_error ?e__law_name_error ?p__law_name_error ?a__law_number_error ?l__law_number_error ?e__law_number_error ?p__law_number_error ?a__law_words_error ?l__law_words_error ?e__law_words_error ?p__law_words_error ?a__law_good_words ?l__law_good_words ?e__law_good_words ?p__law_good_words ?a_law ?l_law ?e_law ?p_law ?a_FormroadsError ?a_InvalidName ?a_InvalidText ?x_InvalidName ?kp_InvalidName ?be_InvalidName ?ty_InvalidName ?x_InvalidText ?kp_InvalidText ?be_InvalidText ?ty_InvalidText ?hd_FormroadsError ?be_FormroadsError ?ty_FormroadsError ?hd_InvalidName ?hd_InvalidText ?hg_InvalidName ?hk_InvalidName ?ha_InvalidName ?hm_InvalidName ?hg_InvalidText ?hk_InvalidText ?ha_InvalidText ?hm_InvalidText ?hn0 ?ht0 ?su_FormroadsError_InvalidName ?su_FormroadsError_InvalidText ?su_InvalidName_InvalidName ?su_InvalidName_InvalidText ?ne_InvalidName_InvalidText ?su_InvalidText_InvalidName ?ne_InvalidText_InvalidName ?su_InvalidText_InvalidText ?su_ValueError_InvalidName ?su_ValueError_InvalidText ?z_ValueError ?z_bool ?z_int ?z_isinstance ?z_len ?z_list ?z_range ?z_str ?z_tuple ?c_DIGITS ?c_LETTERS ?c_MOST_DIGITS ?c_MOST_LETTERS
    (case a_is_name => k_is); (case l_is_name => k_is); (case e_is_name => k_is); (case p_is_name => k_is); (case a_check_name => k_is); (case l_check_name => k_is); (case e_check_name => k_is); (case p_check_name => k_is); (case a_read_number => k_is); (case l_read_number => k_is); (case e_read_number => k_is); (case p_read_number => k_is); (case a_split_words => k_is); (case l_split_words => k_is); (case e_split_words => k_is); (case p_split_words => k_is); (case a__law_draws => k_is); (case l__law_draws => k_is); (case e__law_draws => k_is); (case p__law_draws => k_is); (case a__law_draw => k_is); (case l__law_draw => k_is); (case e__law_draw => k_is); (case p__law_draw => k_is); (case a__law_pick => k_is); (case l__law_pick => k_is); (case e__law_pick => k_is); (case p__law_pick => k_is); (case a__law_same => k_is); (case l__law_same => k_is); (case e__law_same => k_is); (case p__law_same => k_is); (case a__law_text => k_is); (case l__law_text => k_is); (case e__law_text => k_is); (case p__law_text => k_is); (case a__law_is_name => k_is); (case l__law_is_name => k_is); (case e__law_is_name => k_is); (case p__law_is_name => k_is); (case a__law_number => k_is); (case l__law_number => k_is); (case e__law_number => k_is); (case p__law_number => k_is); (case a__law_checked => k_is); (case l__law_checked => k_is); (case e__law_checked => k_is); (case p__law_checked => k_is); (case a__law_read => k_is); (case l__law_read => k_is); (case e__law_read => k_is); (case p__law_read => k_is); (case a__law_name_error => k_is); (case l__law_name_error => k_is); (case e__law_name_error => k_is); (case p__law_name_error => k_is); (case a__law_number_error => k_is); (case l__law_number_error => k_is); (case e__law_number_error => k_is); (case p__law_number_error => k_is); (case a__law_words_error => k_is); (case l__law_words_error => k_is); (case e__law_words_error => k_is); (case p__law_words_error => k_is); (case a__law_good_words => k_is); (case l__law_good_words => k_is); (case e__law_good_words => k_is); (case p__law_good_words => k_is); (case a_law => k_is); (case l_law => k_is); (case e_law => k_is); (case p_law => k_is); (case a_FormroadsError => k_is); (case a_InvalidName => k_is); (case a_InvalidText => k_is); (case x_InvalidName => k_exc); (case kp_InvalidName => k_is); (case be_InvalidName => k_is); (case ty_InvalidName => k_is); (case x_InvalidText => k_exc); (case kp_InvalidText => k_is); (case be_InvalidText => k_is); (case ty_InvalidText => k_is); (case hd_FormroadsError => k_is); (case be_FormroadsError => k_is); (case ty_FormroadsError => k_is); (case hd_InvalidName => k_is); (case hd_InvalidText => k_is); (case hg_InvalidName => k_is); (case hk_InvalidName => k_is); (case ha_InvalidName => k_is); (case hm_InvalidName => k_is); (case hg_InvalidText => k_is); (case hk_InvalidText => k_is); (case ha_InvalidText => k_is); (case hm_InvalidText => k_is); (case hn0 => k_is); (case ht0 => k_is); (case su_FormroadsError_InvalidName => k_is); (case su_FormroadsError_InvalidText => k_is); (case su_InvalidName_InvalidName => k_is); (case su_InvalidName_InvalidText => k_is); (case ne_InvalidName_InvalidText => decide); (case su_InvalidText_InvalidName => k_is); (case ne_InvalidText_InvalidName => decide); (case su_InvalidText_InvalidText => k_is); (case su_ValueError_InvalidName => k_is); (case su_ValueError_InvalidText => k_is); (case z_ValueError => k_is); (case z_bool => k_is); (case z_int => k_is); (case z_isinstance => k_is); (case z_len => k_is); (case z_list => k_is); (case z_range => k_is); (case z_str => k_is); (case z_tuple => k_is); (case c_DIGITS => k_is); (case c_LETTERS => k_is); (case c_MOST_DIGITS => k_is); (case c_MOST_LETTERS => k_is)
