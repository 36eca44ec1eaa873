import PyProof.Rows.All
import Wide.All
import OpenK.AllK
import Wide.FinOn
import HandS.ForMost
import HandS.ForExc
import HandS.CallSlots
import HandS.IsInst
import HandS.ExcIs
import HandS.StrMore
import HandS.Flow
import HandS.TupAny
import HandS.Rev
import HandS.Zip
import HandS.Deep
import HandS.Conv
import HandS.SortInts
import HandS.More
import KE.LtData
import PySem.Challenge.RW_formroads_k16_notes_as_numbers
set_option Elab.async false
set_option linter.all false
set_option maxRecDepth 100000
set_option maxHeartbeats 4000000
/-! Fr: a store language M over plain data, and its tie to the hand layer (HandS). -/
namespace Fr
open PySem PySem.Spec PyProof.Rows L2

/-- a value of the store language: tuples and locked lists are plain data, ref n the n-th object of the store, gl x the module's thing x -/
inductive W where
  | non | bl (b : Bool) | int (i : Int) | str (x : Str) | tup (xs : List W) | fl (xs : List W) | ref (n : Nat) | gl (x : Str) | ty (n : String)
  deriving Inhabited
inductive Ob where
  | lst (xs : List W) | dK (kvs : List (Key × W)) | dT (kvs : List (List Key × W)) | ins (c : Str) (fs : List (Str × W))
  deriving Inhabited
abbrev Sto := List Ob
inductive Rs (α : Type) where
  | ok (a : α) (S : Sto) | ex (c : Str) (d : Option (List (Str × W))) (S : Sto) | bad
abbrev M (α : Type) := Sto → Rs α
abbrev Sl := List (Option W)
abbrev Exp := Sl → M W
abbrev Tst := Sl → M Bool
abbrev Arg := Sl → M (List W)
/-- what a statement comes to -/
inductive RS where
  | nx (s : Sl) (S : Sto) | rt (w : W) (S : Sto) | bk (s : Sl) (S : Sto) | ct (s : Sl) (S : Sto) | ex (c : Str) (d : Option (List (Str × W))) (s : Sl) (S : Sto) | bad
abbrev Stm := Sl → Sto → RS
abbrev Fn := List W → M W

def bd {α β : Type} (f : M α) (k : α → M β) : M β := fun S => match f S with
  | .ok a S' => k a S'
  | .ex c d S' => .ex c d S'
  | .bad => .bad
def rt {α : Type} (a : α) : M α := fun S => .ok a S
def bad {α : Type} : M α := fun _ => .bad

/-! ### the relations -/
section
variable (K : PySem.W.Frag) (mg : Str → Option Value)
/-- a list that nobody changes: locked, or the module's own -/
def FzL (H : Hp) (a : Addr) (xs : List V) : Prop := (∃ o, H a = some (.frz o (.lst xs))) ∨
    ∃ (o : Obj) (its : Array Value) (n : Nat), K.lookup a = some o ∧ o.cls = .type "list" ∧ o.dict = none ∧ o.data = .seq its n ∧ its.size ≤ sizeLine ∧ Vals xs its.toList
mutual
def RV (m : List Addr) (H : Hp) : W → V → Prop
  | .non, v => v = .non
  | .bl b, v => v = .bl b
  | .int i, v => v = .int i
  | .str x, v => v = .str x
  | .tup xs, v => ∃ p vs, v = .ref p ∧ SqT K H p vs ∧ RVs m H xs vs
  | .fl xs, v => ∃ p vs, v = .ref p ∧ FzL K H p vs ∧ RVs m H xs vs
  | .ref n, v => ∃ a, m[n]? = some a ∧ v = .ref a
  | .gl x, v => ∃ a, mg x = some (.ref a) ∧ v = .ref a
  | .ty n, v => v = .ty n
def RVs (m : List Addr) (H : Hp) : List W → List V → Prop
  | [], vs => vs = []
  | w :: ws, vs => ∃ v r, vs = v :: r ∧ RV m H w v ∧ RVs m H ws r
end
/-- attributes -/
def RFs (m : List Addr) (H : Hp) : List (Str × W) → List (Str × V) → Prop
  | [], vs => vs = []
  | (f, w) :: ws, vs => ∃ v r, vs = (f, v) :: r ∧ RV K mg m H w v ∧ RFs m H ws r
/-- entries -/
def RKs {κ : Type} (m : List Addr) (H : Hp) : List (κ × W) → List (κ × V) → Prop
  | [], vs => vs = []
  | (f, w) :: ws, vs => ∃ v r, vs = (f, v) :: r ∧ RV K mg m H w v ∧ RKs m H ws r
def RO (m : List Addr) (H : Hp) (a : Addr) : Ob → Prop
  | .lst xs => ∃ vs, H a = some (.lst vs) ∧ RVs K mg m H xs vs
  | .dK kvs => ∃ vs, H a = some (.dK vs) ∧ RKs K mg m H kvs vs
  | .dT kvs => ∃ vs, H a = some (.dT vs) ∧ RKs K mg m H kvs vs
  | .ins c fs => ∃ C dx vs, H a = some (.ins C dx vs) ∧ mg c = some (.ref C) ∧ RFs K mg m H fs vs
structure Sim (m : List Addr) (S : Sto) (H : Hp) : Prop where
  len : m.length = S.length
  nd : m.Nodup
  ob : ∀ (i : Nat) (o : Ob) (a : Addr), S[i]? = some o → m[i]? = some a → RO K mg m H a o
end
structure Ext (m : List Addr) (H : Hp) (m' : List Addr) (H' : Hp) : Prop where
  more : ∃ r, m' = m ++ r
  tup : ∀ p xs, H p = some (.tup xs) → H' p = some (.tup xs)
  frz : ∀ p o u, H p = some (.frz o u) → H' p = some (.frz o u)
theorem Ext.refl (m : List Addr) (H : Hp) : Ext m H m H := ⟨⟨[], by simp⟩, fun _ _ h => h, fun _ _ _ h => h⟩
theorem Ext.trans {m m1 m2 : List Addr} {H H1 H2 : Hp} (a : Ext m H m1 H1) (b : Ext m1 H1 m2 H2) : Ext m H m2 H2 := by
  obtain ⟨⟨r, e⟩, t, f⟩ := a
  obtain ⟨⟨r', e'⟩, t', f'⟩ := b
  exact ⟨⟨r ++ r', by rw [e', e, List.append_assoc]⟩, fun p xs h => t' _ _ (t _ _ h), fun p o u h => f' _ _ _ (f _ _ _ h)⟩
theorem Ext.get {m m' : List Addr} {H H' : Hp} (e : Ext m H m' H') {n : Nat} {a : Addr} (h : m[n]? = some a) : m'[n]? = some a := by
  obtain ⟨⟨r, rfl⟩, _, _⟩ := e
  rw [List.getElem?_append_left (List.getElem?_eq_some_iff.mp h).1]
  exact h
section
variable {K : PySem.W.Frag} {mg : Str → Option Value} {m m' : List Addr} {H H' : Hp}
theorem Ext.sqt (e : Ext m H m' H') {p : Addr} {xs : List V} (h : SqT K H p xs) : SqT K H' p xs := by
  rcases h with (h | ⟨o, h⟩) | h
  · exact .inl (.inl (e.tup _ _ h))
  · exact .inl (.inr ⟨o, e.frz _ _ _ h⟩)
  · exact .inr h
theorem Ext.fzl (e : Ext m H m' H') {p : Addr} {xs : List V} (h : FzL K H p xs) : FzL K H' p xs := by
  rcases h with ⟨o, h⟩ | h
  · exact .inl ⟨o, e.frz _ _ _ h⟩
  · exact .inr h
theorem FzL.sq {p : Addr} {xs : List V} (h : FzL K H p xs) : SqL K H p xs := by
  rcases h with ⟨o, h⟩ | h
  · exact .inl (.inr ⟨o, h⟩)
  · exact .inr h
mutual
theorem RV.mono (e : Ext m H m' H') : ∀ {w : W} {v : V}, RV K mg m H w v → RV K mg m' H' w v
  | .non, _, h => by unfold RV at h ⊢; exact h
  | .bl _, _, h => by unfold RV at h ⊢; exact h
  | .int _, _, h => by unfold RV at h ⊢; exact h
  | .str _, _, h => by unfold RV at h ⊢; exact h
  | .tup xs, _, h => by
    unfold RV at h ⊢
    obtain ⟨p, vs, e1, h1, h2⟩ := h
    exact ⟨p, vs, e1, e.sqt h1, RVs.mono e h2⟩
  | .fl xs, _, h => by
    unfold RV at h ⊢
    obtain ⟨p, vs, e1, h1, h2⟩ := h
    exact ⟨p, vs, e1, e.fzl h1, RVs.mono e h2⟩
  | .ref n, _, h => by
    unfold RV at h ⊢
    obtain ⟨a, h1, h2⟩ := h
    exact ⟨a, e.get h1, h2⟩
  | .gl x, _, h => by unfold RV at h ⊢; exact h
  | .ty _, _, h => by unfold RV at h ⊢; exact h
theorem RVs.mono (e : Ext m H m' H') : ∀ {ws : List W} {vs : List V}, RVs K mg m H ws vs → RVs K mg m' H' ws vs
  | [], _, h => by unfold RVs at h ⊢; exact h
  | w :: ws, _, h => by
    unfold RVs at h ⊢
    obtain ⟨v, r, e1, h1, h2⟩ := h
    exact ⟨v, r, e1, RV.mono e h1, RVs.mono e h2⟩
end
theorem RFs.mono (e : Ext m H m' H') : ∀ {ws : List (Str × W)} {vs : List (Str × V)}, RFs K mg m H ws vs → RFs K mg m' H' ws vs
  | [], _, h => h
  | (f, w) :: ws, _, ⟨v, r, e1, h1, h2⟩ => ⟨v, r, e1, h1.mono e, RFs.mono e h2⟩
theorem RKs.mono {κ : Type} (e : Ext m H m' H') : ∀ {ws : List (κ × W)} {vs : List (κ × V)}, RKs K mg m H ws vs → RKs K mg m' H' ws vs
  | [], _, h => h
  | (f, w) :: ws, _, ⟨v, r, e1, h1, h2⟩ => ⟨v, r, e1, h1.mono e, RKs.mono e h2⟩
/-! lists of values -/
theorem RVs.nil : RVs K mg m H [] [] := by unfold RVs; rfl
theorem RVs.cons {w : W} {v : V} {ws : List W} {vs : List V} (h : RV K mg m H w v) (t : RVs K mg m H ws vs) : RVs K mg m H (w :: ws) (v :: vs) := by
  unfold RVs; exact ⟨v, vs, rfl, h, t⟩
theorem RVs.uncons {w : W} {ws : List W} {vs : List V} (h : RVs K mg m H (w :: ws) vs) : ∃ v r, vs = v :: r ∧ RV K mg m H w v ∧ RVs K mg m H ws r := by
  unfold RVs at h; exact h
theorem RVs.nil_inv {vs : List V} (h : RVs K mg m H [] vs) : vs = [] := by unfold RVs at h; exact h
theorem RVs.length : ∀ {ws : List W} {vs : List V}, RVs K mg m H ws vs → ws.length = vs.length
  | [], _, h => by have e := h.nil_inv; subst e; rfl
  | _ :: ws, _, h => by
    obtain ⟨v, r, rfl, _, t⟩ := h.uncons
    simp [t.length]
theorem RVs.get : ∀ {ws : List W} {vs : List V} {i : Nat} {w : W}, RVs K mg m H ws vs → ws[i]? = some w → ∃ v, vs[i]? = some v ∧ RV K mg m H w v
  | [], _, _, _, _, e => by simp at e
  | w :: ws, _, 0, _, h, e => by
    obtain ⟨v, r, rfl, h1, t⟩ := h.uncons
    simp at e; subst e
    exact ⟨v, rfl, h1⟩
  | w :: ws, _, i + 1, _, h, e => by
    obtain ⟨v, r, rfl, h1, t⟩ := h.uncons
    obtain ⟨u, e1, e2⟩ := t.get (i := i) (by simpa using e)
    exact ⟨u, by simpa using e1, e2⟩
theorem RVs.append : ∀ {ws ws' : List W} {vs vs' : List V}, RVs K mg m H ws vs → RVs K mg m H ws' vs' → RVs K mg m H (ws ++ ws') (vs ++ vs')
  | [], _, _, _, h, h' => by rw [h.nil_inv]; exact h'
  | w :: ws, _, _, _, h, h' => by
    obtain ⟨v, r, rfl, h1, t⟩ := h.uncons
    exact .cons h1 (t.append h')
theorem RVs.take : ∀ {ws : List W} {vs : List V} (n : Nat), RVs K mg m H ws vs → RVs K mg m H (ws.take n) (vs.take n)
  | _, _, 0, _ => by simpa using RVs.nil
  | [], _, n + 1, h => by rw [h.nil_inv]; simpa using RVs.nil
  | w :: ws, _, n + 1, h => by
    obtain ⟨v, r, rfl, h1, t⟩ := h.uncons
    exact .cons h1 (t.take n)
theorem RVs.drop : ∀ {ws : List W} {vs : List V} (n : Nat), RVs K mg m H ws vs → RVs K mg m H (ws.drop n) (vs.drop n)
  | _, _, 0, h => by simpa using h
  | [], _, n + 1, h => by rw [h.nil_inv]; simpa using RVs.nil
  | w :: ws, _, n + 1, h => by
    obtain ⟨v, r, rfl, h1, t⟩ := h.uncons
    simpa using t.drop n
theorem RVs.set {w : W} {v : V} (hw : RV K mg m H w v) : ∀ {ws : List W} {vs : List V} (n : Nat), RVs K mg m H ws vs → RVs K mg m H (ws.set n w) (vs.set n v)
  | [], _, n, h => by rw [h.nil_inv]; simpa using RVs.nil
  | _ :: ws, _, 0, h => by
    obtain ⟨v', r, rfl, h1, t⟩ := h.uncons
    exact .cons hw t
  | _ :: ws, _, n + 1, h => by
    obtain ⟨v', r, rfl, h1, t⟩ := h.uncons
    exact .cons h1 (t.set hw n)
theorem RVs.reverse : ∀ {ws : List W} {vs : List V}, RVs K mg m H ws vs → RVs K mg m H ws.reverse vs.reverse
  | [], _, h => by rw [h.nil_inv]; simpa using RVs.nil
  | _ :: ws, _, h => by
    obtain ⟨v', r, rfl, h1, t⟩ := h.uncons
    simp only [List.reverse_cons]
    exact t.reverse.append (.cons h1 .nil)
theorem RVs.dropLast {ws : List W} {vs : List V} (h : RVs K mg m H ws vs) : RVs K mg m H ws.dropLast vs.dropLast := by
  rw [List.dropLast_eq_take, List.dropLast_eq_take, ← h.length]
  exact h.take _
theorem RVs.rep {ws : List W} {vs : List V} (h : RVs K mg m H ws vs) : ∀ k : Nat, RVs K mg m H (List.replicate k ws).flatten (List.replicate k vs).flatten
  | 0 => by simpa using RVs.nil
  | k + 1 => by
    simp only [List.replicate_succ, List.flatten_cons]
    exact h.append (h.rep k)
theorem RVs.eraseIdx : ∀ {ws : List W} {vs : List V} (n : Nat), RVs K mg m H ws vs → RVs K mg m H (ws.eraseIdx n) (vs.eraseIdx n)
  | [], _, n, h => by rw [h.nil_inv]; simpa using RVs.nil
  | _ :: ws, _, 0, h => by
    obtain ⟨v', r, rfl, h1, t⟩ := h.uncons
    simpa using t
  | _ :: ws, _, n + 1, h => by
    obtain ⟨v', r, rfl, h1, t⟩ := h.uncons
    simp only [List.eraseIdx_cons_succ]
    exact .cons h1 (t.eraseIdx n)
/-! texts and ints -/
theorem RVs.ints : ∀ {ns : List Int}, RVs K mg m H (ns.map W.int) (ns.map V.int)
  | [] => .nil
  | n :: ns => .cons (by unfold RV; rfl) RVs.ints
theorem RVs.ints_inv : ∀ {ns : List Int} {vs : List V}, RVs K mg m H (ns.map W.int) vs → vs = ns.map V.int
  | [], _, h => h.nil_inv
  | n :: ns, _, h => by
    obtain ⟨v, r, rfl, h1, t⟩ := RVs.uncons h
    unfold RV at h1
    rw [h1, t.ints_inv]; rfl
theorem RVs.strs : ∀ {ns : List Str}, RVs K mg m H (ns.map W.str) (ns.map V.str)
  | [] => .nil
  | n :: ns => .cons (by unfold RV; rfl) RVs.strs
theorem RVs.strs_inv : ∀ {ns : List Str} {vs : List V}, RVs K mg m H (ns.map W.str) vs → vs = ns.map V.str
  | [], _, h => h.nil_inv
  | n :: ns, _, h => by
    obtain ⟨v, r, rfl, h1, t⟩ := RVs.uncons h
    unfold RV at h1
    rw [h1, t.strs_inv]; rfl
/-! ### the store grows, an object changes -/
theorem Ext.new {p : Addr} {o : HO} (hp : H p = none) : Ext m H (m ++ [p]) (upd H p o) := by
  refine ⟨⟨[p], rfl⟩, fun q xs h => ?_, fun q ob u h => ?_⟩
  · rw [upd_ne (ne_of_none h hp)]; exact h
  · rw [upd_ne (ne_of_none h hp)]; exact h
theorem Ext.plain {p : Addr} {o : HO} (hp : H p = none) : Ext m H m (upd H p o) := by
  refine ⟨⟨[], by simp⟩, fun q xs h => ?_, fun q ob u h => ?_⟩
  · rw [upd_ne (ne_of_none h hp)]; exact h
  · rw [upd_ne (ne_of_none h hp)]; exact h
theorem Ext.chg {p : Addr} {o o' : HO} (hp : H p = some o) (h1 : ∀ xs, o ≠ .tup xs) (h2 : ∀ ob u, o ≠ .frz ob u) : Ext m H m (upd H p o') := by
  refine ⟨⟨[], by simp⟩, fun q xs h => ?_, fun q ob u h => ?_⟩
  · rw [upd_ne (ne_of h hp fun z => h1 _ z.symm)]; exact h
  · rw [upd_ne (ne_of h hp fun z => h2 _ _ z.symm)]; exact h
theorem RO.mono {a : Addr} {o : Ob} (e : Ext m H m' H') (k : ∀ u, H a = some u → H' a = some u) (h : RO K mg m H a o) : RO K mg m' H' a o := by
  cases o with
  | lst xs => obtain ⟨vs, h1, h2⟩ := h; exact ⟨vs, k _ h1, h2.mono e⟩
  | dK xs => obtain ⟨vs, h1, h2⟩ := h; exact ⟨vs, k _ h1, h2.mono e⟩
  | dT xs => obtain ⟨vs, h1, h2⟩ := h; exact ⟨vs, k _ h1, h2.mono e⟩
  | ins c fs => obtain ⟨C, dx, vs, h1, h3, h2⟩ := h; exact ⟨C, dx, vs, k _ h1, h3, h2.mono e⟩
theorem RO.there {a : Addr} {o : Ob} (h : RO K mg m H a o) : ∃ u, H a = some u := by
  cases o with
  | lst xs => obtain ⟨vs, h1, h2⟩ := h; exact ⟨_, h1⟩
  | dK xs => obtain ⟨vs, h1, h2⟩ := h; exact ⟨_, h1⟩
  | dT xs => obtain ⟨vs, h1, h2⟩ := h; exact ⟨_, h1⟩
  | ins c fs => obtain ⟨C, dx, vs, h1, _⟩ := h; exact ⟨_, h1⟩
theorem Sim.at {S : Sto} (s : Sim K mg m S H) {i : Nat} {o : Ob} (h : S[i]? = some o) : ∃ a, m[i]? = some a ∧ RO K mg m H a o := by
  have hl : i < m.length := by rw [s.len]; exact (List.getElem?_eq_some_iff.mp h).1
  exact ⟨m[i], List.getElem?_eq_getElem hl, s.ob i o _ h (List.getElem?_eq_getElem hl)⟩
/-- a tuple or any other thing that the store does not name is laid -/
theorem Sim.plain {S : Sto} {p : Addr} {o : HO} (s : Sim K mg m S H) (hp : H p = none) : Sim K mg m S (upd H p o) := by
  refine ⟨s.len, s.nd, fun i ob a h1 h2 => (s.ob i ob a h1 h2).mono (Ext.plain hp) fun u h => ?_⟩
  rw [upd_ne (ne_of_none h hp)]; exact h
theorem Sim.new {S : Sto} {p : Addr} {o : HO} {ob : Ob} (s : Sim K mg m S H) (hp : H p = none) (r : RO K mg (m ++ [p]) (upd H p o) p ob) : Sim K mg (m ++ [p]) (S ++ [ob]) (upd H p o) := by
  have hm : p ∉ m := fun hm => by
    obtain ⟨i, hi, e⟩ := List.getElem_of_mem hm
    obtain ⟨u, hu⟩ := (s.ob i S[i]! p (by rw [List.getElem?_eq_getElem (by rw [← s.len]; exact hi)]; simp [getElem!_def, s.len ▸ hi]) (by rw [List.getElem?_eq_getElem hi, e])).there
    rw [hu] at hp; cases hp
  refine ⟨by simp [s.len], ?_, fun i o' a h1 h2 => ?_⟩
  · rw [List.nodup_append]
    refine ⟨s.nd, by simp, fun x hx y hy e => ?_⟩
    simp at hy; subst hy; subst e; exact hm hx
  · by_cases hi : i < S.length
    · rw [List.getElem?_append_left hi] at h1
      rw [List.getElem?_append_left (by rw [s.len]; exact hi)] at h2
      exact (s.ob i o' a h1 h2).mono (Ext.new hp) fun u h => by rw [upd_ne (ne_of_none h hp)]; exact h
    · have hi' : i = S.length := by
        have := (List.getElem?_eq_some_iff.mp h1).1
        simp at this; omega
      subst hi'
      rw [List.getElem?_append_right (Nat.le_refl _)] at h1
      rw [List.getElem?_append_right (by rw [s.len]; exact Nat.le_refl _)] at h2
      simp [s.len] at h1 h2
      subst h1; subst h2; exact r
theorem Sim.chg {S : Sto} {i : Nat} {a : Addr} {o o' : HO} {ob : Ob} (s : Sim K mg m S H) (hm : m[i]? = some a) (hp : H a = some o) (h1 : ∀ xs, o ≠ .tup xs) (h2 : ∀ ob u, o ≠ .frz ob u)
    (r : RO K mg m (upd H a o') a ob) : Sim K mg m (S.set i ob) (upd H a o') := by
  refine ⟨by simp [s.len], s.nd, fun j oj b h3 h4 => ?_⟩
  by_cases hj : j = i
  · subst hj
    rw [hm] at h4; cases h4
    rw [List.getElem?_set_self (by have := (List.getElem?_eq_some_iff.mp h3).1; simpa using this)] at h3
    cases h3; exact r
  · rw [List.getElem?_set_ne (Ne.symm hj)] at h3
    refine (s.ob j oj b h3 h4).mono (Ext.chg hp h1 h2) fun u h => ?_
    have : b ≠ a := fun e => by
      subst e
      have hjl := (List.getElem?_eq_some_iff.mp h4)
      have hil := (List.getElem?_eq_some_iff.mp hm)
      obtain ⟨a1, b1⟩ := hjl
      obtain ⟨a2, b2⟩ := hil
      exact hj (List.getElem_inj s.nd |>.mp (b1.trans b2.symm))
    rw [upd_ne this]; exact h
end
end Fr

namespace Fr
open PySem PySem.Spec PyProof.Rows L2

/-! ### what is wanted of a result -/
section
variable (K : PySem.W.Frag) (mg : Str → Option Value)
def RX (m : List Addr) (H : Hp) (c : Str) (d : Option (List (Str × W))) (cls : Value) (d' : Option Addr) : Prop :=
  (∃ C, cls = .ref C ∧ mg c = some (.ref C)) ∧ match d, d' with
    | none, none => True
    | some fs, some a => ∃ vs, H a = some (.xd vs) ∧ RFs K mg m H fs vs
    | _, _ => False
def RSl (m : List Addr) (H : Hp) (s : Sl) (s' : L2.St) : Prop := s.length = s'.length ∧ ∀ (i : Nat) (w : W), s[i]? = some (some w) → ∃ v, s'[i]? = some (some v) ∧ RV K mg m H w v
def WG {α β : Type} (R : List Addr → Hp → α → β → Prop) (r : Rs α) (m : List Addr) (H : Hp) (Q : β → Hp → Prop) (E : XK) : Prop := match r with
  | .ok a S' => ∀ m' H' b, Ext m H m' H' → Sim K mg m' S' H' → R m' H' a b → Q b H'
  | .ex c d S' => ∀ m' H' cls d', Ext m H m' H' → Sim K mg m' S' H' → RX K mg m' H' c d cls d' → E cls d' H'
  | .bad => False
end
/-- what is kept of the slots, what is wished of an exception -/
structure Cc where
  Z : L2.St → Prop
  Wx : WX
section
variable (K : PySem.W.Frag) (mg : Str → Option Value)
def tG {α β : Type} (R : List Addr → Hp → α → β → Prop) (C : Cc) (f : Sl → M α) : L2.St → Hp → (β → Hp → Prop) → Prop := fun s' H Q =>
  ∃ m S s, C.Z s' ∧ Sim K mg m S H ∧ RSl K mg m H s s' ∧ WG K mg R (f s S) m H Q (fun c d H' => C.Wx c d s' H')
def WS (r : RS) (m : List Addr) (H : Hp) (D : Ends) (C : Cc) : Prop := match r with
  | .nx s S => ∀ m' H' s', Ext m H m' H' → C.Z s' → Sim K mg m' S H' → RSl K mg m' H' s s' → D.nx s' H'
  | .bk s S => ∀ m' H' s', Ext m H m' H' → C.Z s' → Sim K mg m' S H' → RSl K mg m' H' s s' → D.bk s' H'
  | .ct s S => ∀ m' H' s', Ext m H m' H' → C.Z s' → Sim K mg m' S H' → RSl K mg m' H' s s' → D.ct s' H'
  | .rt w S => ∀ m' H' v, Ext m H m' H' → Sim K mg m' S H' → RV K mg m' H' w v → D.rt v H'
  | .ex c d s S => ∀ m' H' s' cls d', Ext m H m' H' → C.Z s' → Sim K mg m' S H' → RSl K mg m' H' s s' → RX K mg m' H' c d cls d' → C.Wx cls d' s' H'
  | .bad => False
def tS (C : Cc) (f : Stm) : TS := fun D s' H => ∃ m S s, C.Z s' ∧ Sim K mg m S H ∧ RSl K mg m H s s' ∧ WS K mg (f s S) m H D C
end
abbrev eqR {α : Type} : List Addr → Hp → α → α → Prop := fun _ _ a b => b = a
abbrev SE (X : Cx) (C : Cc) (e : Expr) (f : Exp) : Prop := PE X e (tG X.K X.mg (RV X.K X.mg) C f)
abbrev ST (X : Cx) (C : Cc) (e : Expr) (f : Tst) : Prop := PT X e (tG X.K X.mg eqR C f)
abbrev SW (X : Cx) (C : Cc) (e : Expr) (f : Tst) : Prop := PW X e (tG X.K X.mg eqR C f)
abbrev SA (X : Cx) (C : Cc) (es : List Expr) (f : Arg) : Prop := PA X es (tG X.K X.mg (RVs X.K X.mg) C f)
abbrev SS (X : Cx) (C : Cc) (st : Stmt) (f : Stm) : Prop := PS X st (tS X.K X.mg C f)
abbrev SB (X : Cx) (C : Cc) (sts : List Stmt) (f : Stm) : Prop := PSs X sts (tS X.K X.mg C f)

section
variable {K : PySem.W.Frag} {mg : Str → Option Value} {m m' m1 : List Addr} {H H' H1 : Hp} {α β γ δ : Type} {R : List Addr → Hp → α → β → Prop} {R' : List Addr → Hp → γ → δ → Prop} {Q : δ → Hp → Prop} {Q' : β → Hp → Prop} {E : XK} {C : Cc} {s : Sl} {s' : L2.St} {S : Sto}
theorem RSl.mono (e : Ext m H m' H') (h : RSl K mg m H s s') : RSl K mg m' H' s s' := ⟨h.1, fun i w hw => let ⟨v, h1, h2⟩ := h.2 i w hw; ⟨v, h1, h2.mono e⟩⟩
theorem RSl.set {i : Nat} {w : W} {v : V} (h : RSl K mg m H s s') (r : RV K mg m H w v) : RSl K mg m H (s.set i (some w)) (s'.set i (some v)) := by
  refine ⟨by simp [h.1], fun j u hu => ?_⟩
  by_cases hj : j = i
  · subst hj
    have hl : j < s.length := by
      have := (List.getElem?_eq_some_iff.mp hu).1
      simpa using this
    rw [List.getElem?_set_self hl] at hu
    cases hu
    exact ⟨v, List.getElem?_set_self (by rw [← h.1]; exact hl), r⟩
  · rw [List.getElem?_set_ne (Ne.symm hj)] at hu
    obtain ⟨v', h1, h2⟩ := h.2 j u hu
    exact ⟨v', by rw [List.getElem?_set_ne (Ne.symm hj)]; exact h1, h2⟩
theorem RSl.drop {i : Nat} {o : Option V} (h : RSl K mg m H s s') : RSl K mg m H (s.set i none) (s'.set i o) := by
  refine ⟨by simp [h.1], fun j u hu => ?_⟩
  by_cases hj : j = i
  · subst hj
    have hl : j < s.length := by
      have := (List.getElem?_eq_some_iff.mp hu).1
      simpa using this
    rw [List.getElem?_set_self hl] at hu
    cases hu
  · rw [List.getElem?_set_ne (Ne.symm hj)] at hu
    obtain ⟨v', h1, h2⟩ := h.2 j u hu
    exact ⟨v', by rw [List.getElem?_set_ne (Ne.symm hj)]; exact h1, h2⟩
theorem RX.mono {c : Str} {d : Option (List (Str × W))} {cls : Value} {d' : Option Addr} (e : Ext m H m' H') (hx : ∀ a vs, H a = some (.xd vs) → H' a = some (.xd vs)) (h : RX K mg m H c d cls d') : RX K mg m' H' c d cls d' := by
  refine ⟨h.1, ?_⟩
  have h2 := h.2
  cases d with
  | none => cases d' with
    | none => trivial
    | some a => exact h2
  | some fs => cases d' with
    | none => exact h2
    | some a => obtain ⟨vs, h3, h4⟩ := h2; exact ⟨vs, hx _ _ h3, h4.mono e⟩
theorem WG.shift {r : Rs γ} (e : Ext m H m1 H1) (w : WG K mg R' r m H Q E) : WG K mg R' r m1 H1 Q E := by
  cases r with
  | ok a S' => exact fun m' H' b e' s r => w m' H' b (e.trans e') s r
  | ex c d S' => exact fun m' H' cls d' e' s r => w m' H' cls d' (e.trans e') s r
  | bad => exact w
theorem WG.bind {f : M α} {k : α → M γ} (w : WG K mg R' (bd f k S) m H Q E)
    (h : ∀ a S1 m1 H1 b, Ext m H m1 H1 → Sim K mg m1 S1 H1 → R m1 H1 a b → WG K mg R' (k a S1) m1 H1 Q E → Q' b H1) : WG K mg R (f S) m H Q' E := by
  unfold bd at w
  cases hf : f S with
  | ok a S' => rw [hf] at w; exact fun m' H' b e s r => h a S' m' H' b e s r (w.shift e)
  | ex c d S' => rw [hf] at w; exact w
  | bad => rw [hf] at w; exact w
theorem WS.shift {r : RS} {D : Ends} (e : Ext m H m1 H1) (w : WS K mg r m H D C) : WS K mg r m1 H1 D C := by
  cases r with
  | nx s S => exact fun m' H' b e' z s r => w m' H' b (e.trans e') z s r
  | bk s S => exact fun m' H' b e' z s r => w m' H' b (e.trans e') z s r
  | ct s S => exact fun m' H' b e' z s r => w m' H' b (e.trans e') z s r
  | rt s S => exact fun m' H' b e' s r => w m' H' b (e.trans e') s r
  | ex c d s S' => exact fun m' H' t cls d' e' z s r q => w m' H' t cls d' (e.trans e') z s r q
  | bad => exact w
theorem tG.bind {f : Sl → M α} {k : Sl → α → M γ} (h : tG K mg R' C (fun s => bd (f s) (k s)) s' H Q)
    (hk : ∀ m1 S1 s H1 a b, C.Z s' → Sim K mg m1 S1 H1 → RSl K mg m1 H1 s s' → R m1 H1 a b → WG K mg R' (k s a S1) m1 H1 Q (fun c d H' => C.Wx c d s' H') → Q' b H1) : tG K mg R C f s' H Q' := by
  obtain ⟨m, S, s, z, sim, sl, w⟩ := h
  exact ⟨m, S, s, z, sim, sl, w.bind fun a S1 m1 H1 b e s1 r w1 => hk m1 S1 s H1 a b z s1 (sl.mono e) r w1⟩
theorem WG.ok {a : γ} {b : δ} (w : WG K mg R' (.ok a S) m H Q E) (s : Sim K mg m S H) (r : R' m H a b) : Q b H := w m H b (.refl _ _) s r
end
section
variable {X : Cx}
theorem PE.imp {e : Expr} {t t' : TE} (h : PE X e t) (k : ∀ s H Q, t' s H Q → t s H Q) : PE X e t' := ⟨fun pins s σ H Q I q => h.run pins s σ H Q I (k _ _ _ q)⟩
theorem PT.imp {e : Expr} {t t' : TT} (h : PT X e t) (k : ∀ s H Q, t' s H Q → t s H Q) : PT X e t' := ⟨fun pins s σ H Q I q => h.run pins s σ H Q I (k _ _ _ q)⟩
theorem PW.imp {e : Expr} {t t' : TT} (h : PW X e t) (k : ∀ s H Q, t' s H Q → t s H Q) : PW X e t' := ⟨fun wh pins s σ H Q I q => h.run wh pins s σ H Q I (k _ _ _ q)⟩
theorem PA.imp {e : List Expr} {t t' : TA} (h : PA X e t) (k : ∀ s H Q, t' s H Q → t s H Q) : PA X e t' := ⟨fun pos pins s σ H Q I q => h.run pos pins s σ H Q I (k _ _ _ q)⟩
theorem PS.imp {e : Stmt} {t t' : TS} (h : PS X e t) (k : ∀ D s H, t' D s H → t D s H) : PS X e t' := ⟨fun pins s σ H D I q => h.run pins s σ H D I (k _ _ _ q)⟩
theorem PSs.imp {e : List Stmt} {t t' : TS} (h : PSs X e t) (k : ∀ D s H, t' D s H → t D s H) : PSs X e t' := ⟨fun pins s σ H D I q => h.run pins s σ H D I (k _ _ _ q)⟩
end

/-! ### expressions -/
def eVar (i : Nat) : Exp := fun s S => match s[i]? with
  | some (some w) => .ok w S
  | _ => .bad
def eC (w : W) : Exp := fun _ => rt w
def eOp (o : W → W → M W) (a b : Exp) : Exp := fun s => bd (a s) fun x => bd (b s) fun y => o x y
def eUn (o : W → M W) (a : Exp) : Exp := fun s => bd (a s) o
def eAnd (a b : Exp) : Exp := fun s => bd (a s) fun x => match x with
  | .bl true => b s
  | .bl false => rt (.bl false)
  | _ => bad
def eOr (a b : Exp) : Exp := fun s => bd (a s) fun x => match x with
  | .bl false => b s
  | .bl true => rt (.bl true)
  | _ => bad
def eNot (a : Exp) : Exp := fun s => bd (a s) fun x => match x with
  | .bl b => rt (.bl !b)
  | _ => bad
def eIf (c : Tst) (a b : Exp) : Exp := fun s => bd (c s) fun k => if k = true then a s else b s
/-- a < b < c -/
def eChain (o o' : W → W → M W) (a b c : Exp) : Exp := fun s => bd (a s) fun x => bd (b s) fun y => bd (o x y) fun z => match z with
  | .bl true => bd (c s) fun u => o' y u
  | .bl false => rt (.bl false)
  | _ => bad
/-- a value that is a bool, as a test -/
def tB (a : Exp) : Tst := fun s => bd (a s) fun x => match x with
  | .bl b => rt b
  | _ => bad
def tAnd (a b : Tst) : Tst := fun s => bd (a s) fun k => if k = true then b s else rt false
def tOr (a b : Tst) : Tst := fun s => bd (a s) fun k => if k = true then rt true else b s
def tNot (a : Tst) : Tst := fun s => bd (a s) fun k => rt !k
def aNil : Arg := fun _ => rt []
def aCons (a : Exp) (r : Arg) : Arg := fun s => bd (a s) fun x => bd (r s) fun xs => rt (x :: xs)
def eTup (a : Arg) : Exp := fun s => bd (a s) fun xs => if xs.length ≤ sizeLine then rt (.tup xs) else bad
def new (o : Ob) : M W := fun S => .ok (.ref S.length) (S ++ [o])
def eLst (a : Arg) : Exp := fun s => bd (a s) fun xs => if xs.length ≤ sizeLine then new (.lst xs) else bad
/-- a built-in's call, by values -/
def eB (f : List W → M W) (a : Arg) : Exp := fun s => bd (a s) f
def eCall (f : Fn) (a : Arg) : Exp := fun s => bd (a s) f

section
variable {X : Cx} {C : Cc} {a b c : Expr} {es : List Expr} {fa fb fc : Exp} {pos p : Pos}
theorem se_var {i : Nat} {x : Str} (hN : X.N[i]? = some x := by rfl) (hv : Vis X.env.scope x := by first | exact Or.inl rfl | exact Or.inr (Or.inl rfl) | exact Or.inr (Or.inr rfl))
    (hd : (x == ("__debug__" : Str)) = false := by decide) (hcd : (x == ("__classdict__" : Str)) = false := by decide) : SE X C (.Name x pos) (eVar i) := by
  refine PE.imp (pe_var hN hv hd hcd) fun s' H Q h => ?_
  obtain ⟨m, S, s, z, sim, sl, w⟩ := h
  unfold eVar at w
  split at w
  · rename_i u hu
    obtain ⟨v, h1, h2⟩ := sl.2 i u hu
    exact ⟨v, h1, w.ok sim h2⟩
  · exact False.elim w
theorem se_c {t : TE} {w : W} {v : V} (h : PE X a (tC v)) (hr : ∀ m H, RV X.K X.mg m H w v) : SE X C a (eC w) := by
  refine PE.imp h fun s' H Q h => ?_
  obtain ⟨m, S, s, z, sim, sl, w⟩ := h
  exact w.ok sim (hr m H)
theorem se_int {i : Int} {j : Nat} : SE X C (.Constant (.int i) j pos) (eC (.int i)) := se_c (t := tC (.int i)) pe_int fun _ _ => by unfold RV; rfl
theorem se_str {x : Str} {j : Nat} : SE X C (.Constant (.str x) j pos) (eC (.str x)) := se_c (t := tC (.str x)) pe_str fun _ _ => by unfold RV; rfl
theorem se_bl {x : Bool} {j : Nat} : SE X C (.Constant (.bool x) j pos) (eC (.bl x)) := se_c (t := tC (.bl x)) pe_bl fun _ _ => by unfold RV; rfl
theorem se_non {j : Nat} : SE X C (.Constant .none j pos) (eC .non) := se_c (t := tC .non) pe_non fun _ _ => by unfold RV; rfl
/-- a module's constant -/
theorem se_glob {x : Str} {w : W} {v : V} {u : Value} (hg : Gl X x) (hm : X.mg x = some u) (r : RelV v u) (hr : ∀ m H, RV X.K X.mg m H w v) (hd : (x == ("__debug__" : Str)) = false := by decide) : SE X C (.Name x pos) (eC w) :=
  se_c (t := tC v) (pe_glob hg hm r hd) hr
/-- a built-in type as a value -/
theorem se_ty {x : Str} {n : String} (hg : Gl X x) (hm : X.mg x = none) (hv : bootBuiltins x = some (.type n)) (hn : x ≠ "__name__" := by decide) (hd : (x == ("__debug__" : Str)) = false := by decide) : SE X C (.Name x pos) (eC (.ty n)) :=
  se_c (t := tC (.ty n)) (pe_bltn (v := .ty n) hg hm hv rfl hn hd) fun _ _ => by unfold RV; rfl
/-- the module's class or def x, as a value -/
theorem se_gl {x : Str} {A : Addr} (hg : Gl X x) (hm : X.mg x = some (.ref A)) (hd : (x == ("__debug__" : Str)) = false := by decide) : SE X C (.Name x pos) (eC (.gl x)) :=
  se_c (t := tC (.ref A)) (pe_glob (v := .ref A) hg hm rfl hd) fun _ _ => by unfold RV; exact ⟨A, hm, rfl⟩

/-- an operation by values: r is the layer's reading, o the store language's -/
def O2 (X : Cx) (r : R2) (o : W → W → M W) : Prop := ∀ x y S m H v u Q E, Sim X.K X.mg m S H → RV X.K X.mg m H x v → RV X.K X.mg m H y u → WG X.K X.mg (RV X.K X.mg) (o x y S) m H Q E → r v u H Q
def O1 (X : Cx) (r : V → Hp → VK → Prop) (o : W → M W) : Prop := ∀ x S m H v Q E, Sim X.K X.mg m S H → RV X.K X.mg m H x v → WG X.K X.mg (RV X.K X.mg) (o x S) m H Q E → r v H Q
def OC (X : Cx) (r : List V → Hp → VK → Prop) (o : List W → M W) : Prop := ∀ x S m H v Q E, Sim X.K X.mg m S H → RVs X.K X.mg m H x v → WG X.K X.mg (RV X.K X.mg) (o x S) m H Q E → r v H Q
theorem se_op {op : Operator} {r : R2} {o : W → W → M W} (ho : OpR X (binaryOp op) r) (hr : O2 X r o) (ha : SE X C a fa) (hb : SE X C b fb) : SE X C (.BinOp a op b pos) (eOp o fa fb) := by
  refine PE.imp (pe_op ho ha hb) fun s' H Q h => ?_
  refine tG.bind h fun m1 S1 s H1 x v z s1 l1 r1 w1 => ?_
  exact ⟨m1, S1, s, z, s1, l1, w1.bind fun y S2 m2 H2 u e2 s2 r2 w2 => hr x y S2 m2 H2 v u Q _ s2 (r1.mono e2) r2 w2⟩
theorem se_un {op : UnaryOp} {r : V → Hp → VK → Prop} {o : W → M W} (ho : UnR X (unaryOp op) r) (hr : O1 X r o) (ha : SE X C a fa) : SE X C (.UnaryOp op a pos) (eUn o fa) := by
  refine PE.imp (pe_un ho ha) fun s' H Q h => ?_
  exact tG.bind h fun m1 S1 s H1 x v z s1 l1 r1 w1 => hr x S1 m1 H1 v Q _ s1 r1 w1
theorem se_cmp {op : CmpOp} {r : R2} {o : W → W → M W} (ho : OpR X (compareOp op) r) (hr : O2 X r o) (ha : SE X C a fa) (hb : SE X C b fb) (hm : behindInMarks op b = false := by first | exact nomark _ | rfl) : SE X C (.Compare a [op] [b] pos) (eOp o fa fb) := by
  refine PE.imp (pe_cmpR ho ha hb hm) fun s' H Q h => ?_
  refine tG.bind h fun m1 S1 s H1 x v z s1 l1 r1 w1 => ?_
  exact ⟨m1, S1, s, z, s1, l1, w1.bind fun y S2 m2 H2 u e2 s2 r2 w2 => hr x y S2 m2 H2 v u Q _ s2 (r1.mono e2) r2 w2⟩
/-- what a comparison hands on is a bool -/
theorem WG.tb {K : PySem.W.Frag} {mg : Str → Option Value} {m : List Addr} {H : Hp} {f : M W} {S : Sto} {Q : Bool → Hp → Prop} {E : XK} (w : WG K mg eqR (bd f (fun x => match x with
  | .bl b => rt b
  | _ => bad) S) m H Q E) : WG K mg (RV K mg) (f S) m H (fun x H' => ∃ k, x = .bl k ∧ Q k H') E := by
  refine w.bind fun x S1 m1 H1 v e s1 r1 w1 => ?_
  cases x with
  | bl k => unfold RV at r1; exact ⟨k, r1, w1.ok s1 rfl⟩
  | _ => exact False.elim w1
theorem bd_assoc {α β γ : Type} (f : M α) (g : α → M β) (h : β → M γ) : bd (bd f g) h = bd f fun x => bd (g x) h := by
  funext S
  unfold bd
  cases f S <;> rfl
theorem st_cmp {op : CmpOp} {r : R2} {o : W → W → M W} (ho : OpR X (compareOp op) r) (hr : O2 X r o) (ha : SE X C a fa) (hb : SE X C b fb) (hm : behindInMarks op b = false := by first | exact nomark _ | rfl) : ST X C (.Compare a [op] [b] pos) (tB (eOp o fa fb)) := by
  refine PT.imp (pt_cmpR ho ha hb hm) fun s' H Q h => ?_
  obtain ⟨m, S, s, z, sim, sl, w⟩ := h
  unfold tB eOp at w
  rw [bd_assoc] at w
  refine ⟨m, S, s, z, sim, sl, w.bind fun x S1 m1 H1 v e1 s1 r1 w1 => ?_⟩
  rw [bd_assoc] at w1
  refine ⟨m1, S1, s, z, s1, sl.mono e1, w1.bind fun y S2 m2 H2 u e2 s2 r2 w2 => ?_⟩
  exact hr x y S2 m2 H2 v u _ _ s2 (r1.mono e2) r2 w2.tb
theorem st_val (ha : SE X C a fa) (he : ∀ whole, isTrue a X.env whole = (do let v ← whole; standAt a.pos; holding [v] (truthy v)) := by intro _; rfl) : ST X C a (tB fa) := by
  refine PT.imp (pt_val ha he) fun s' H Q h => ?_
  obtain ⟨m, S, s, z, sim, sl, w⟩ := h
  exact ⟨m, S, s, z, sim, sl, w.tb⟩
theorem se_chain {op op' : CmpOp} {r r' : R2} {o o' : W → W → M W} (ho : OpR X (compareOp op) r) (hr : O2 X r o) (ho' : OpR X (compareOp op') r') (hr' : O2 X r' o') (ha : SE X C a fa) (hb : SE X C b fb) (hc : SE X C c fc) (hm : lastMarks [op, op'] [b, c] = false := by with_unfolding_all rfl) : SE X C (.Compare a [op, op'] [b, c] pos) (eChain o o' fa fb fc) := by
  refine PE.imp (pe_chain ho ho' ha hb hc hm) fun s' H Q h => ?_
  refine tG.bind h fun m1 S1 s H1 x v z s1 l1 r1 w1 => ?_
  refine ⟨m1, S1, s, z, s1, l1, w1.bind fun y S2 m2 H2 u e2 s2 r2 w2 => ?_⟩
  refine hr x y S2 m2 H2 v u _ _ s2 (r1.mono e2) r2 (w2.bind fun t S3 m3 H3 tv e3 s3 r3 w3 => ?_)
  cases t with
  | bl k =>
    unfold RV at r3
    refine ⟨k, r3, ?_⟩
    cases k with
    | true =>
      rw [if_pos rfl]
      exact ⟨m3, S3, s, z, s3, (l1.mono e2).mono e3, w3.bind fun q S4 m4 H4 qv e4 s4 r4 w4 => hr' y q S4 m4 H4 u qv Q _ s4 ((r2.mono e3).mono e4) r4 w4⟩
    | false =>
      rw [if_neg Bool.false_ne_true]
      exact w3.ok s3 (by unfold RV; rfl)
  | _ => exact False.elim w3
theorem st_chain {op op' : CmpOp} {r r' : R2} {o o' : W → W → M W} (ho : OpR X (compareOp op) r) (hr : O2 X r o) (ho' : OpR X (compareOp op') r') (hr' : O2 X r' o') (ha : SE X C a fa) (hb : SE X C b fb) (hc : SE X C c fc) (hm : lastMarks [op, op'] [b, c] = false := by with_unfolding_all rfl) : ST X C (.Compare a [op, op'] [b, c] pos) (tB (eChain o o' fa fb fc)) := by
  refine PT.imp (pt_chain ho ho' ha hb hc hm) fun s' H Q h => ?_
  obtain ⟨m, S, s, z, sim, sl, w⟩ := h
  unfold tB eChain at w
  rw [bd_assoc] at w
  refine ⟨m, S, s, z, sim, sl, w.bind fun x S1 m1 H1 v e1 s1 r1 w1 => ?_⟩
  rw [bd_assoc] at w1
  refine ⟨m1, S1, s, z, s1, sl.mono e1, w1.bind fun y S2 m2 H2 u e2 s2 r2 w2 => ?_⟩
  rw [bd_assoc] at w2
  refine hr x y S2 m2 H2 v u _ _ s2 (r1.mono e2) r2 (w2.bind fun t S3 m3 H3 tv e3 s3 r3 w3 => ?_)
  cases t with
  | bl k =>
    unfold RV at r3
    refine ⟨k, r3, ?_⟩
    cases k with
    | true =>
      rw [if_pos rfl]
      replace w3 := show WG X.K X.mg eqR (bd (bd (fc s) fun u => o' y u) _ S3) _ _ _ _ from w3
      rw [bd_assoc] at w3
      exact ⟨m3, S3, s, z, s3, ((sl.mono e1).mono e2).mono e3, w3.bind fun q S4 m4 H4 qv e4 s4 r4 w4 => hr' y q S4 m4 H4 u qv _ _ s4 ((r2.mono e3).mono e4) r4 w4.tb⟩
    | false =>
      rw [if_neg Bool.false_ne_true]
      exact ⟨false, rfl, w3.ok s3 rfl⟩
  | _ => exact False.elim w3
theorem se_one {op} (h : SE X C a fa) : SE X C (.BoolOp op [a] pos) fa := pe_one h
theorem se_and {rest : List Expr} (ha : SE X C a fa) (hb : SE X C (.BoolOp .And (b :: rest) pos) fb) : SE X C (.BoolOp .And (a :: b :: rest) pos) (eAnd fa fb) := by
  refine PE.imp (pe_and ha hb) fun s' H Q h => ?_
  refine tG.bind h fun m1 S1 s H1 x v z s1 l1 r1 w1 => ?_
  cases x with
  | bl k =>
    unfold RV at r1
    refine ⟨k, r1, ?_⟩
    cases k with
    | true => rw [if_pos rfl]; exact ⟨m1, S1, s, z, s1, l1, w1⟩
    | false => rw [if_neg Bool.false_ne_true]; exact w1.ok s1 (by unfold RV; rfl)
  | _ => exact False.elim w1
theorem se_or {rest : List Expr} (ha : SE X C a fa) (hb : SE X C (.BoolOp .Or (b :: rest) pos) fb) : SE X C (.BoolOp .Or (a :: b :: rest) pos) (eOr fa fb) := by
  refine PE.imp (pe_or ha hb) fun s' H Q h => ?_
  refine tG.bind h fun m1 S1 s H1 x v z s1 l1 r1 w1 => ?_
  cases x with
  | bl k =>
    unfold RV at r1
    refine ⟨k, r1, ?_⟩
    cases k with
    | false => rw [if_neg Bool.false_ne_true]; exact ⟨m1, S1, s, z, s1, l1, w1⟩
    | true => rw [if_pos rfl]; exact w1.ok s1 (by unfold RV; rfl)
  | _ => exact False.elim w1
theorem se_not (ha : SE X C a fa) : SE X C (.UnaryOp .Not a pos) (eNot fa) := by
  refine PE.imp (pe_not ha) fun s' H Q h => ?_
  refine tG.bind h fun m1 S1 s H1 x v z s1 l1 r1 w1 => ?_
  cases x with
  | bl k =>
    unfold RV at r1
    exact ⟨k, r1, w1.ok s1 (by unfold RV; rfl)⟩
  | _ => exact False.elim w1
variable {ta tb : Tst}
theorem sw_and1 (ha : ST X C a ta) : SW X C (.BoolOp .And [a] pos) ta := pw_and1 ha
theorem sw_or1 (ha : ST X C a ta) : SW X C (.BoolOp .Or [a] pos) ta := pw_or1 ha
theorem sw_and {rest : List Expr} (ha : ST X C a ta) (hb : SW X C (.BoolOp .And (b :: rest) pos) tb) : SW X C (.BoolOp .And (a :: b :: rest) pos) (tAnd ta tb) := by
  refine PW.imp (pw_and ha hb) fun s' H Q h => ?_
  refine tG.bind h fun m1 S1 s H1 x v z s1 l1 r1 w1 => ?_
  subst r1
  cases v with
  | true => rw [if_pos rfl]; exact ⟨m1, S1, s, z, s1, l1, w1⟩
  | false => rw [if_neg Bool.false_ne_true]; exact w1.ok s1 rfl
theorem sw_or {rest : List Expr} (ha : ST X C a ta) (hb : SW X C (.BoolOp .Or (b :: rest) pos) tb) : SW X C (.BoolOp .Or (a :: b :: rest) pos) (tOr ta tb) := by
  refine PW.imp (pw_or ha hb) fun s' H Q h => ?_
  refine tG.bind h fun m1 S1 s H1 x v z s1 l1 r1 w1 => ?_
  subst r1
  cases v with
  | false => rw [if_neg Bool.false_ne_true]; exact ⟨m1, S1, s, z, s1, l1, w1⟩
  | true => rw [if_pos rfl]; exact w1.ok s1 rfl
theorem st_w (h : SW X C a ta) : ST X C a ta := PW.pt h
theorem st_not (ha : ST X C a ta) : ST X C (.UnaryOp .Not a pos) (tNot ta) := by
  refine PT.imp (pt_not ha) fun s' H Q h => ?_
  refine tG.bind h fun m1 S1 s H1 x v z s1 l1 r1 w1 => ?_
  subst r1
  exact w1.ok s1 rfl
theorem se_if (hc : ST X C c ta) (ha : SE X C a fa) (hb : SE X C b fb) : SE X C (.IfExp c a b pos) (eIf ta fa fb) := by
  refine PE.imp (pe_ifExp hc ha hb) fun s' H Q h => ?_
  refine tG.bind h fun m1 S1 s H1 x v z s1 l1 r1 w1 => ?_
  subst r1
  cases v with
  | true => rw [if_pos rfl]; exact ⟨m1, S1, s, z, s1, l1, w1⟩
  | false => rw [if_neg Bool.false_ne_true]; exact ⟨m1, S1, s, z, s1, l1, w1⟩
/-! arguments, displays -/
variable {fr : Arg}
theorem sa_nil : SA X C [] aNil := by
  refine PA.imp pa_nil fun s' H Q h => ?_
  obtain ⟨m, S, s, z, sim, sl, w⟩ := h
  exact w.ok sim .nil
theorem sa_cons (ha : SE X C a fa) (hr : SA X C es fr) (hs : starEach (a :: es) X.env = (false, eval a X.env) :: starEach es X.env := by rfl) : SA X C (a :: es) (aCons fa fr) := by
  refine PA.imp (pa_cons ha hr hs) fun s' H Q h => ?_
  refine tG.bind h fun m1 S1 s H1 x v z s1 l1 r1 w1 => ?_
  refine ⟨m1, S1, s, z, s1, l1, w1.bind fun y S2 m2 H2 u e2 s2 r2 w2 => ?_⟩
  exact w2.ok s2 (.cons (r1.mono e2) r2)
theorem se_tup {k} (h : SA X C es fr) : SE X C (.Tuple es k pos) (eTup fr) := by
  refine PE.imp (pe_tup h) fun s' H Q h => ?_
  refine tG.bind h fun m1 S1 s H1 x v z s1 l1 r1 w1 => ?_
  split at w1
  · rename_i hl
    refine ⟨by rw [← r1.length]; exact hl, fun q hq => ?_⟩
    refine w1 m1 _ _ (Ext.plain hq) (s1.plain hq) ?_
    unfold RV
    exact ⟨q, v, rfl, .inl (.inl upd_same), r1.mono (Ext.plain hq)⟩
  · exact False.elim w1
/-- a new object -/
theorem WG.new {K : PySem.W.Frag} {mg : Str → Option Value} {m : List Addr} {H : Hp} {S : Sto} {o : Ob} {Q : VK} {E : XK} {q : Addr} {h : HO} (w : WG K mg (RV K mg) (new o S) m H Q E) (s : Sim K mg m S H) (hq : H q = none) (r : RO K mg (m ++ [q]) (upd H q h) q o) : Q (.ref q) (upd H q h) := by
  refine w (m ++ [q]) _ _ (Ext.new hq) (s.new hq r) ?_
  unfold RV
  exact ⟨q, by rw [← s.len]; simp, rfl⟩
theorem se_lst (h : SA X C es fr) : SE X C (.List es pos) (eLst fr) := by
  refine PE.imp (pe_lst h) fun s' H Q h => ?_
  refine tG.bind h fun m1 S1 s H1 x v z s1 l1 r1 w1 => ?_
  split at w1
  · rename_i hl
    refine ⟨by rw [← r1.length]; exact hl, fun q hq => ?_⟩
    exact w1.new s1 hq ⟨v, upd_same, r1.mono (Ext.new hq)⟩
  · exact False.elim w1
/-! built-ins by name -/
variable {x : Str} {id T : String} {r : List V → Hp → VK → Prop} {o : List W → M W}
theorem se_callB (hc : CallR X (.builtin id) r) (ho : OC X r o) (hg : Gl X x) (hm : X.mg x = none) (hv : bootBuiltins x = some (.builtin id)) (ha : SA X C (a :: es) fr) (hn : x ≠ "__name__" := by decide) (hdb : (x == ("__debug__" : Str)) = false := by decide)
    (he : starEach (a :: es) X.env = (false, eval a X.env) :: starEach es X.env := by rfl) (hpl : (backTo pos (starEach es X.env)).any (·.1) = false := by rfl) : SE X C (.Call (.Name x p) (a :: es) [] pos) (eB o fr) := by
  refine PE.imp (pe_callB hc hg hm hv ha hn hdb he hpl) fun s' H Q h => ?_
  exact tG.bind h fun m1 S1 s H1 x v z s1 l1 r1 w1 => ho x S1 m1 H1 v Q _ s1 r1 w1
theorem se_callTy (hc : CallR X (.type T) r) (ho : OC X r o) (hg : Gl X x) (hm : X.mg x = none) (hv : bootBuiltins x = some (.type T)) (ha : SA X C (a :: es) fr) (hn : x ≠ "__name__" := by decide) (hdb : (x == ("__debug__" : Str)) = false := by decide)
    (he : starEach (a :: es) X.env = (false, eval a X.env) :: starEach es X.env := by rfl) (hpl : (backTo pos (starEach es X.env)).any (·.1) = false := by rfl) : SE X C (.Call (.Name x p) (a :: es) [] pos) (eB o fr) := by
  refine PE.imp (pe_callTy hc hg hm hv ha hn hdb he hpl) fun s' H Q h => ?_
  exact tG.bind h fun m1 S1 s H1 x v z s1 l1 r1 w1 => ho x S1 m1 H1 v Q _ s1 r1 w1
end
end Fr

namespace Fr
open PySem PySem.Spec PyProof.Rows L2

/-! ### statements -/
def onE {α : Type} (r : Rs α) (s : Sl) (k : α → Sto → RS) : RS := match r with
  | .ok a S => k a S
  | .ex c d S => .ex c d s S
  | .bad => .bad
def sNil : Stm := fun s S => .nx s S
def sSeq (a b : Stm) : Stm := fun s S => match a s S with
  | .nx s' S' => b s' S'
  | r => r
def sExpr (e : Exp) : Stm := fun s S => onE (e s S) s fun _ S' => .nx s S'
def sRet (e : Exp) : Stm := fun s S => onE (e s S) s fun w S' => .rt w S'
def sRetN : Stm := fun _ S => .rt .non S
def sIf (c : Tst) (a b : Stm) : Stm := fun s S => onE (c s S) s fun k S' => if k = true then a s S' else b s S'
def sAsg (i : Nat) (e : Exp) : Stm := fun s S => onE (e s S) s fun w S' => .nx (s.set i (some w)) S'
abbrev Tgt := W → Sl → Option Sl
def gN (i : Nat) : Tgt := fun w s => some (s.set i (some w))
def gsNil : List W → Sl → Option Sl := fun ws s => match ws with
  | [] => some s
  | _ => none
def gsCons (g : Tgt) (r : List W → Sl → Option Sl) : List W → Sl → Option Sl := fun ws s => match ws with
  | w :: ws => match g w s with
    | some s1 => r ws s1
    | none => none
  | [] => none
def gT (n : Nat) (r : List W → Sl → Option Sl) : Tgt := fun w s => match w with
  | .tup ws => if ws.length = n then r ws s else none
  | _ => none
def sAsgT (g : Tgt) (e : Exp) : Stm := fun s S => onE (e s S) s fun w S' => match g w s with
  | some s2 => .nx s2 S'
  | none => .bad
def sBreak : Stm := fun s S => .bk s S
def sCont : Stm := fun s S => .ct s S
def sRaise (c : Str) : Stm := fun s S => .ex c none s S
/-- what a for walks: fixed values, or a list of the store as it stands -/
inductive Src where
  | vals (xs : List W) | live (n : Nat) | gen (n : Nat) (f : Nat → Sto → Option W) (c : Sto → Bool)
def forV (g : Tgt) (b : Stm) : List W → Stm
  | [], s, S => .nx s S
  | x :: xs, s, S => match g x s with
    | none => .bad
    | some s1 => match b s1 S with
      | .nx s2 S2 => forV g b xs s2 S2
      | .ct s2 S2 => forV g b xs s2 S2
      | .bk s2 S2 => .nx s2 S2
      | r => r
def forL (g : Tgt) (b : Stm) (a n : Nat) : Nat → Stm
  | 0, s, S => match S[a]? with
    | some (.lst xs) => if xs.length = n then .nx s S else .bad
    | _ => .bad
  | k + 1, s, S => match S[a]? with
    | some (.lst xs) => if xs.length = n then match xs[n - (k + 1)]? with
      | none => .bad
      | some x => match g x s with
        | none => .bad
        | some s1 => match b s1 S with
          | .nx s2 S2 => forL g b a n k s2 S2
          | .ct s2 S2 => forL g b a n k s2 S2
          | .bk s2 S2 => .nx s2 S2
          | r => r
      else .bad
    | _ => .bad
/-- n turns; f tells the item by the turn and the store, c whether the walk ends there -/
def forG (g : Tgt) (b : Stm) (n : Nat) (f : Nat → Sto → Option W) (c : Sto → Bool) : Nat → Stm
  | 0, s, S => if c S = true then .nx s S else .bad
  | k + 1, s, S => match f (n - (k + 1)) S with
    | none => .bad
    | some x => match g x s with
      | none => .bad
      | some s1 => match b s1 S with
        | .nx s2 S2 => forG g b n f c k s2 S2
        | .ct s2 S2 => forG g b n f c k s2 S2
        | .bk s2 S2 => .nx s2 S2
        | r => r
def sFor (it : Sl → M Src) (g : Tgt) (b : Stm) : Stm := fun s S => onE (it s S) s fun src S' => match src with
  | .vals xs => forV g b xs s S'
  | .live n => match S'[n]? with
    | some (.lst ys) => forL g b n ys.length ys.length s S'
    | _ => .bad
  | .gen n f c => forG g b n f c n s S'
def whileN (c : Tst) (b : Stm) : Nat → Stm
  | 0, _, _ => .bad
  | k + 1, s, S => onE (c s S) s fun q S' => if q = true then (match b s S' with
      | .nx s2 S2 => whileN c b k s2 S2
      | .ct s2 S2 => whileN c b k s2 S2
      | .bk s2 S2 => .nx s2 S2
      | r => r) else .nx s S'
def lookX (tab : List (Str × Bool)) (c : Str) : Option Bool := match tab with
  | [] => none
  | (x, b) :: r => if x = c then some b else lookX r c
/-- an except suite lets nothing out -/
def noEx (r : RS) : RS := match r with
  | .ex _ _ _ _ => .bad
  | r => r
def sTry (b : Stm) (tab : List (Str × Bool)) (su : Str → Option (List (Str × W)) → Stm) : Stm := fun s S => match b s S with
  | .ex c d s1 S1 => match lookX tab c with
    | some true => noEx (su c d s1 S1)
    | some false => .ex c d s1 S1
    | none => .bad
  | r => r
/-- .. except X as n: slot i is n's -/
def dropS (i : Nat) (r : RS) : RS := match r with
  | .nx s S => .nx (s.set i none) S
  | .bk s S => .bk (s.set i none) S
  | .ct s S => .ct (s.set i none) S
  | r => r
def sTryAs (i : Nat) (b : Stm) (tab : List (Str × Bool)) (su : Str → Option (List (Str × W)) → Stm) : Stm := fun s S => match b s S with
  | .ex c d s1 S1 => match lookX tab c with
    | some true => if i < s1.length then dropS i (noEx (su c d (s1.set i none) S1)) else .bad
    | some false => .ex c d s1 S1
    | none => .bad
  | r => r
def fnM (n : Nat) (b : Stm) : Fn := fun ws S => match b (ws.map some ++ List.replicate (n - ws.length) none) S with
  | .rt w S' => .ok w S'
  | .nx _ S' => .ok .non S'
  | .ex c d _ S' => .ex c d S'
  | _ => .bad

section
variable {K : PySem.W.Frag} {mg : Str → Option Value} {m m1 : List Addr} {H H1 : Hp} {α β : Type} {R : List Addr → Hp → α → β → Prop} {Q' : β → Hp → Prop} {C : Cc} {s : Sl} {s' : L2.St} {S : Sto} {D : Ends}
theorem WS.onE {r : Rs α} {k : α → Sto → RS} (w : WS K mg (onE r s k) m H D C) (z : C.Z s') (l : RSl K mg m H s s')
    (h : ∀ a S1 m1 H1 b, Ext m H m1 H1 → Sim K mg m1 S1 H1 → R m1 H1 a b → WS K mg (k a S1) m1 H1 D C → Q' b H1) : WG K mg R r m H Q' (fun c d H' => C.Wx c d s' H') := by
  unfold Fr.onE at w
  cases r with
  | ok a S' => exact fun m' H' b e s r => h a S' m' H' b e s r (w.shift e)
  | ex c d S' => exact fun m' H' cls d' e s r => w m' H' s' cls d' e z s (l.mono e) r
  | bad => exact w
theorem WS.nx (w : WS K mg (.nx s S) m H D C) (z : C.Z s') (sim : Sim K mg m S H) (l : RSl K mg m H s s') : D.nx s' H := w m H s' (.refl _ _) z sim l
end
section
variable {X : Cx} {C : Cc} {a b c : Expr} {fe : Exp} {ft : Tst} {fs gs : Stm} {pos pos' : Pos} {st : Stmt} {rest sa sb : List Stmt}
theorem sb_nil : SB X C [] sNil := by
  refine PSs.imp pss_nil fun D s' H h => ?_
  obtain ⟨m, S, s, z, sim, sl, w⟩ := h
  exact w.nx z sim sl
theorem sb_cons (h1 : SS X C st fs) (h2 : SB X C rest gs) : SB X C (st :: rest) (sSeq fs gs) := by
  refine PSs.imp (pss_cons h1 h2) fun D s' H h => ?_
  obtain ⟨m, S, s, z, sim, sl, w⟩ := h
  refine ⟨m, S, s, z, sim, sl, ?_⟩
  unfold sSeq at w
  cases hf : fs s S with
  | nx s2 S2 => rw [hf] at w; exact fun m' H' t e z' sm l => ⟨m', S2, s2, z', sm, l, w.shift e⟩
  | rt u S2 => rw [hf] at w; exact w
  | bk s2 S2 => rw [hf] at w; exact w
  | ct s2 S2 => rw [hf] at w; exact w
  | ex c d s2 S2 => rw [hf] at w; exact w
  | bad => rw [hf] at w; exact w
theorem sb_one (h1 : SS X C st fs) : SB X C [st] fs := pss_one h1
theorem ss_pass : SS X C (.Pass pos) sNil := by
  refine PS.imp ps_pass fun D s' H h => ?_
  obtain ⟨m, S, s, z, sim, sl, w⟩ := h
  exact w.nx z sim sl
theorem ss_break : SS X C (.Break pos) sBreak := by
  refine PS.imp ps_break fun D s' H h => ?_
  obtain ⟨m, S, s, z, sim, sl, w⟩ := h
  exact w m H s' (.refl _ _) z sim sl
theorem ss_continue : SS X C (.Continue pos) sCont := by
  refine PS.imp ps_continue fun D s' H h => ?_
  obtain ⟨m, S, s, z, sim, sl, w⟩ := h
  exact w m H s' (.refl _ _) z sim sl
theorem ss_expr (he : SE X C a fe) (hs : swapsWith a none pos.line X.env = pure false := by rfl) : SS X C (.Expr a pos) (sExpr fe) := by
  refine PS.imp (ps_expr he hs) fun D s' H h => ?_
  obtain ⟨m, S, s, z, sim, sl, w⟩ := h
  exact ⟨m, S, s, z, sim, sl, w.onE z sl fun u S1 m1 H1 v e s1 r w1 => w1.nx z s1 (sl.mono e)⟩
theorem ss_ret (he : SE X C a fe) : SS X C (.Return (some a) pos) (sRet fe) := by
  refine PS.imp (ps_ret he) fun D s' H h => ?_
  obtain ⟨m, S, s, z, sim, sl, w⟩ := h
  exact ⟨m, S, s, z, sim, sl, w.onE z sl fun u S1 m1 H1 v e s1 r w1 => w1 m1 H1 v (.refl _ _) s1 r⟩
theorem ss_retN : SS X C (.Return none pos) sRetN := by
  refine PS.imp ps_retN fun D s' H h => ?_
  obtain ⟨m, S, s, z, sim, sl, w⟩ := h
  exact w m H .non (.refl _ _) sim (by unfold RV; rfl)
theorem ss_if (hc : ST X C c ft) (ha : SB X C sa fs) (hb : SB X C sb gs) : SS X C (.If c sa sb pos) (sIf ft fs gs) := by
  refine PS.imp (ps_if hc ha hb) fun D s' H h => ?_
  obtain ⟨m, S, s, z, sim, sl, w⟩ := h
  refine ⟨m, S, s, z, sim, sl, w.onE z sl fun u S1 m1 H1 v e s1 r w1 => ?_⟩
  cases r
  cases u with
  | true => rw [if_pos rfl]; rw [if_pos rfl] at w1; exact ⟨m1, S1, s, z, s1, sl.mono e, w1⟩
  | false => rw [if_neg Bool.false_ne_true]; rw [if_neg Bool.false_ne_true] at w1; exact ⟨m1, S1, s, z, s1, sl.mono e, w1⟩
theorem ss_set {i : Nat} {x : Str} (hN : X.N.Nodup) (he : SE X C a fe) (hi : X.N[i]? = some x := by rfl) (hx : Loc X.env.scope x := by first | exact Or.inl rfl | exact Or.inr rfl) (hs : swapsWith a (some (.Name x pos')) pos.line X.env = pure false := by rfl)
    (hf : X.fn x = true ∨ X.env.scope.names.lookup x = some .local := by first | exact .inl rfl | exact .inr rfl) (hz : ∀ t v, C.Z t → C.Z (t.set i v) := by intro _ _ _; exact True.intro) : SS X C (.Assign [.Name x pos'] a pos) (sAsg i fe) := by
  refine PS.imp (ps_set hN hi hx he hs hf) fun D s' H h => ?_
  obtain ⟨m, S, s, z, sim, sl, w⟩ := h
  refine ⟨m, S, s, z, sim, sl, w.onE z sl fun u S1 m1 H1 v e s1 r w1 => ?_⟩
  exact w1.nx (hz _ _ z) s1 ((sl.mono e).set r)
/-! targets -/
end
section
variable (K : PySem.W.Frag) (mg : Str → Option Value)
def tT (C : Cc) (g : Tgt) : TG := fun v s' H Q => ∃ m S w s s2, C.Z s' ∧ Sim K mg m S H ∧ RSl K mg m H s s' ∧ RV K mg m H w v ∧ g w s = some s2 ∧ ∀ t, C.Z t → RSl K mg m H s2 t → Q t H
def tTs (C : Cc) (g : List W → Sl → Option Sl) : TGs := fun v s' H Q => ∃ m S w s s2, C.Z s' ∧ Sim K mg m S H ∧ RSl K mg m H s s' ∧ RVs K mg m H w v ∧ g w s = some s2 ∧ ∀ t, C.Z t → RSl K mg m H s2 t → Q t H
end
abbrev SG (X : Cx) (C : Cc) (tg : Expr) (g : Tgt) : Prop := PG X tg (tT X.K X.mg C g)
abbrev SGs (X : Cx) (C : Cc) (tg : List Expr) (g : List W → Sl → Option Sl) : Prop := PGs X tg (tTs X.K X.mg C g)
section
variable {X : Cx}
theorem PG.imp {e : Expr} {t t' : TG} (h : PG X e t) (k : ∀ v s H Q, t' v s H Q → t v s H Q) : PG X e t' := ⟨fun pins s σ H v u Q I r q => h.run pins s σ H v u Q I r (k _ _ _ _ q)⟩
theorem PGs.imp {e : List Expr} {t t' : TGs} (h : PGs X e t) (k : ∀ v s H Q, t' v s H Q → t v s H Q) : PGs X e t' := ⟨fun pins s σ H v u Q I r q => h.run pins s σ H v u Q I r (k _ _ _ _ q)⟩
theorem PI.imp {tg e : Expr} {t t' : TI} (h : PI X tg e t) (k : ∀ s H Q, t' s H Q → t s H Q) : PI X tg e t' := ⟨fun pins s σ H R I q => h.run pins s σ H R I (k _ _ _ q)⟩
theorem PI.or {tg e : Expr} {t t' : TI} (h : PI X tg e t) (h' : PI X tg e t') : PI X tg e (fun s H R => t s H R ∨ t' s H R) := ⟨fun pins s σ H R I q => q.elim (fun q => h.run pins s σ H R I q) fun q => h'.run pins s σ H R I q⟩
variable {C : Cc} {pos pos' : Pos} {a tg : Expr} {es : List Expr} {g : Tgt} {gr : List W → Sl → Option Sl} {fe : Exp}
theorem sg_name {i : Nat} {x : Str} (hN : X.N.Nodup) (hi : X.N[i]? = some x := by rfl) (hx : Loc X.env.scope x := by first | exact Or.inl rfl | exact Or.inr rfl) (hf : X.fn x = true ∨ X.env.scope.names.lookup x = some .local := by first | exact .inl rfl | exact .inr rfl)
    (hz : ∀ t v, C.Z t → C.Z (t.set i v) := by intro _ _ _; exact True.intro) : SG X C (.Name x pos) (gN i) := by
  refine PG.imp (pg_name hN hi hx hf) fun v s' H Q h => ?_
  obtain ⟨m, S, w, s, s2, z, sim, sl, r, e, q⟩ := h
  cases e
  exact q _ (hz _ _ z) (sl.set r)
theorem sgs_nil : SGs X C [] gsNil := by
  refine PGs.imp pgs_nil fun v s' H Q h => ?_
  obtain ⟨m, S, w, s, s2, z, sim, sl, r, e, q⟩ := h
  cases w with
  | nil => cases e; exact ⟨r.nil_inv, q _ z sl⟩
  | cons _ _ => cases e
theorem sgs_cons (h1 : SG X C a g) (h2 : SGs X C es gr) (hs : (assignEach (a :: es) X.env).map (·.2) = assign a X.env :: (assignEach es X.env).map (·.2) := by rfl) : SGs X C (a :: es) (gsCons g gr) := by
  refine PGs.imp (pgs_cons h1 h2 hs) fun v s' H Q h => ?_
  obtain ⟨m, S, w, s, s2, z, sim, sl, r, e, q⟩ := h
  cases w with
  | nil => cases e
  | cons w ws =>
    obtain ⟨v1, vr, rfl, r1, r2⟩ := r.uncons
    unfold gsCons at e
    cases hg : g w s with
    | none => simp only [hg] at e; cases e
    | some s1 =>
      simp only [hg] at e
      exact ⟨v1, vr, rfl, m, S, w, s, s1, z, sim, sl, r1, hg, fun t z1 l1 => ⟨m, S, ws, s1, s2, z1, sim, l1, r2, e, q⟩⟩
theorem sg_tup {k n : Nat} (hc : X.calm = true) (h : SGs X C es gr) (hn : (assignEach es X.env).length = n := by rfl) (hst : (assignEach es X.env).findIdx? (·.1) = none := by rfl) : SG X C (.Tuple es k pos) (gT n gr) := by
  refine PG.imp (pg_tup hc h hn hst) fun v s' H Q h => ?_
  obtain ⟨m, S, w, s, s2, z, sim, sl, r, e, q⟩ := h
  cases w with
  | tup ws =>
    unfold RV at r
    obtain ⟨p, vs, rfl, hq, hv⟩ := r
    unfold gT at e
    simp only at e
    split at e
    · rename_i hl
      exact ⟨p, vs, rfl, hq, by rw [← hv.length]; exact hl, m, S, ws, s, s2, z, sim, sl, hv, e, q⟩
    · cases e
  | _ => cases e
theorem ss_asg (he : SE X C a fe) (hg : SG X C tg g) (hs : swapsWithSole [tg] a pos.line X.env = pure false := by rfl) (hw : swappedStores [tg] a X.env = pure none := by rfl)
    (h1 : (assignEach [tg] X.env).map (·.2) = [assign tg X.env] := by rfl) : SS X C (.Assign [tg] a pos) (sAsgT g fe) := by
  refine PS.imp (ps_asg he hg hs hw h1) fun D s' H h => ?_
  obtain ⟨m, S, s, z, sim, sl, w⟩ := h
  refine ⟨m, S, s, z, sim, sl, w.onE z sl fun u S1 m1 H1 v e s1 r w1 => ?_⟩
  cases hg : g u s with
  | none => simp only [hg] at w1; exact False.elim w1
  | some s2 =>
    simp only [hg] at w1
    exact ⟨m1, S1, u, s, s2, z, s1, sl.mono e, r, hg, fun t z1 l1 => w1.nx z1 s1 l1⟩
end
/-! ### what a for walks -/
section
variable (K : PySem.W.Frag) (mg : Str → Option Value)
def JV (J : It) (m1 : List Addr) (H1 : Hp) (xs : List W) : Prop := ∀ m H, Ext m1 H1 m H → ∀ (i : Nat),
  (∀ w, xs[i]? = some w → J.go i H ∧ ∀ x H', J.yld i H x H' → RV K mg m H' w x ∧ Ext m H m H' ∧ ∀ S, Sim K mg m S H → Sim K mg m S H') ∧ (xs.length ≤ i → J.stop i H)
def JL (J : It) (m1 : List Addr) (H1 : Hp) (n : Nat) : Prop := ∀ m H S ys, Ext m1 H1 m H → Sim K mg m S H → S[n]? = some (.lst ys) → ∀ (i : Nat),
  (∀ w, ys[i]? = some w → J.go i H ∧ ∀ x H', J.yld i H x H' → H' = H ∧ RV K mg m H w x) ∧ (ys.length ≤ i → J.stop i H)
def JG (J : It) (m1 : List Addr) (H1 : Hp) (n : Nat) (f : Nat → Sto → Option W) (c : Sto → Bool) : Prop := ∀ m H S, Ext m1 H1 m H → Sim K mg m S H →
  (∀ i w, i < n → f i S = some w → J.go i H ∧ ∀ x H', J.yld i H x H' → RV K mg m H' w x ∧ Ext m H m H' ∧ Sim K mg m S H') ∧ (c S = true → J.stop n H)
def RJ (m : List Addr) (H : Hp) (src : Src) (J : It) : Prop := match src with
  | .vals xs => JV K mg J m H xs
  | .live n => JL K mg J m H n
  | .gen n f c => JG K mg J m H n f c
end
abbrev SI (X : Cx) (C : Cc) (tg e : Expr) (f : Sl → M Src) : Prop := PI X tg e (tG X.K X.mg (RJ X.K X.mg) C f)
section
variable {X : Cx} {C : Cc} {pos pos' : Pos} {a tg iter : Expr} {es : List Expr} {g : Tgt} {fb : Stm} {it : Sl → M Src} {body : List Stmt}
theorem ss_for (hp : PassesOwn (model X.prog X.w) X.A X.env X.xe) (hc : X.calm = true) (hi : SI X C tg iter it) (hg : SG X C tg g) (hb : SB X C body fb)
    (hs : ∀ x, foldedSetIterable iter X.env x = pure x := by intro _; rfl) : SS X C (.For tg iter body [] pos) (sFor it g fb) := by
  refine PS.imp (ps_for hp hc hi hg hb hs) fun D s' H h => ?_
  obtain ⟨m, S, s, z, sim, sl, w⟩ := h
  refine ⟨m, S, s, z, sim, sl, w.onE z sl fun src S1 m1 H1 J e1 s1 r w1 => ?_⟩
  have hbody : ∀ {rest : Stm} {m2 : List Addr} {H2 : Hp} {S2 : Sto} {s2 : Sl} {r : RS} {N : L2.St → Hp → Prop}, r = fb s2 S2 → WS X.K X.mg (match r with
        | .nx s3 S3 => rest s3 S3
        | .ct s3 S3 => rest s3 S3
        | .bk s3 S3 => .nx s3 S3
        | r => r) m2 H2 D C → (∀ m3 H3 t s3 S3, Ext m2 H2 m3 H3 → C.Z t → Sim X.K X.mg m3 S3 H3 → RSl X.K X.mg m3 H3 s3 t → WS X.K X.mg (rest s3 S3) m3 H3 D C → N t H3) →
      WS X.K X.mg r m2 H2 { D with nx := N, ct := N, bk := D.nx } C := by
    intro rest m2 H2 S2 s2 r N _ w h
    cases r with
    | nx s3 S3 => exact fun m3 H3 t e z s l => h m3 H3 t s3 S3 e z s l (w.shift e)
    | ct s3 S3 => exact fun m3 H3 t e z s l => h m3 H3 t s3 S3 e z s l (w.shift e)
    | bk s3 S3 => exact w
    | rt u S3 => exact w
    | ex c d s3 S3 => exact w
    | bad => exact w
  cases src with
  | vals xs =>
    have hj : JV X.K X.mg J m1 H1 xs := r
    refine ⟨fun i k t H => k = xs.length - i ∧ ∃ m S s, Ext m1 H1 m H ∧ C.Z t ∧ Sim X.K X.mg m S H ∧ RSl X.K X.mg m H s t ∧ WS X.K X.mg (forV g fb (xs.drop i) s S) m H D C,
      ⟨xs.length, by simp, m1, S1, s, .refl _ _, z, s1, sl.mono e1, by simpa using w1⟩, ?_⟩
    rintro i k t H2 ⟨rfl, m2, S2, s2, e2, z2, sm2, l2, w2⟩
    by_cases hi : i < xs.length
    · have hx : xs[i]? = some xs[i] := List.getElem?_eq_getElem hi
      rw [List.drop_eq_getElem_cons hi] at w2
      obtain ⟨go, hy⟩ := (hj m2 H2 e2 i).1 _ hx
      refine .inr ⟨go, fun t H => ∃ m S s, Ext m1 H1 m H ∧ C.Z t ∧ Sim X.K X.mg m S H ∧ RSl X.K X.mg m H s t ∧ WS X.K X.mg (forV g fb (xs.drop (i + 1)) s S) m H D C,
        fun t' H' hN => ⟨xs.length - (i + 1), by omega, rfl, hN⟩, fun x H3 y => ?_⟩
      obtain ⟨rx, e3, sm3⟩ := hy x H3 y
      unfold forV at w2
      cases hgx : g xs[i] s2 with
      | none => simp only [hgx] at w2; exact False.elim w2
      | some s3 =>
        simp only [hgx] at w2
        refine ⟨m2, S2, xs[i], s2, s3, z2, sm3 _ sm2, l2.mono e3, rx, hgx, fun t3 z3 l3 => ⟨m2, S2, s3, z3, sm3 _ sm2, l3, ?_⟩⟩
        exact hbody rfl (w2.shift e3) fun m4 H4 t4 s4 S4 e4 z4 sm4 l4 w4 => ⟨m4, S4, s4, (e2.trans e3).trans e4, z4, sm4, l4, w4⟩
    · rw [List.drop_eq_nil_of_le (by omega)] at w2
      exact .inl ⟨(hj m2 H2 e2 i).2 (by omega), w2.nx z2 sm2 l2⟩
  | live n =>
    have hj : JL X.K X.mg J m1 H1 n := r
    simp only at w1
    cases hn : S1[n]? with
    | none => simp only [hn] at w1; exact False.elim w1
    | some o =>
      cases o with
      | lst ys =>
        simp only [hn] at w1
        refine ⟨fun i k t H => k = ys.length - i ∧ i ≤ ys.length ∧ ∃ m S s, Ext m1 H1 m H ∧ C.Z t ∧ Sim X.K X.mg m S H ∧ RSl X.K X.mg m H s t ∧ WS X.K X.mg (forL g fb n ys.length (ys.length - i) s S) m H D C,
          ⟨ys.length, by simp, Nat.zero_le _, m1, S1, s, .refl _ _, z, s1, sl.mono e1, by simpa using w1⟩, ?_⟩
        rintro i k t H2 ⟨rfl, hle, m2, S2, s2, e2, z2, sm2, l2, w2⟩
        by_cases hi : i < ys.length
        · obtain ⟨q, hq⟩ : ∃ q, ys.length - i = q + 1 := ⟨ys.length - i - 1, by omega⟩
          rw [hq] at w2
          unfold forL at w2
          cases hS : S2[n]? with
          | none => simp only [hS] at w2; exact False.elim w2
          | some o2 =>
            cases o2 with
            | lst zs =>
              simp only [hS] at w2
              split at w2
              · rename_i hz
                have hi' : ys.length - (q + 1) = i := by omega
                rw [hi'] at w2
                have hx : zs[i]? = some zs[i] := List.getElem?_eq_getElem (by omega)
                rw [hx] at w2
                simp only at w2
                obtain ⟨go, hy⟩ := (hj m2 H2 S2 zs e2 sm2 hS i).1 _ hx
                have hq' : q = ys.length - (i + 1) := by omega
                refine .inr ⟨go, fun t H => ∃ m S s, Ext m1 H1 m H ∧ C.Z t ∧ Sim X.K X.mg m S H ∧ RSl X.K X.mg m H s t ∧ WS X.K X.mg (forL g fb n ys.length q s S) m H D C,
                  fun t' H' hN => ⟨ys.length - (i + 1), by omega, rfl, by omega, by rw [← hq']; exact hN⟩, fun x H3 y => ?_⟩
                obtain ⟨rfl, rx⟩ := hy x H3 y
                cases hgx : g zs[i] s2 with
                | none => simp only [hgx] at w2; exact False.elim w2
                | some s3 =>
                  simp only [hgx] at w2
                  refine ⟨m2, S2, zs[i], s2, s3, z2, sm2, l2, rx, hgx, fun t3 z3 l3 => ⟨m2, S2, s3, z3, sm2, l3, ?_⟩⟩
                  exact hbody rfl w2 fun m4 H4 t4 s4 S4 e4 z4 sm4 l4 w4 => ⟨m4, S4, s4, e2.trans e4, z4, sm4, l4, w4⟩
              · exact False.elim w2
            | _ => simp only [hS] at w2; exact False.elim w2
        · have hq : ys.length - i = 0 := by omega
          rw [hq] at w2
          unfold forL at w2
          cases hS : S2[n]? with
          | none => simp only [hS] at w2; exact False.elim w2
          | some o2 =>
            cases o2 with
            | lst zs =>
              simp only [hS] at w2
              split at w2
              · rename_i hz
                exact .inl ⟨(hj m2 H2 S2 zs e2 sm2 hS i).2 (by omega), w2.nx z2 sm2 l2⟩
              · exact False.elim w2
            | _ => simp only [hS] at w2; exact False.elim w2
      | _ => simp only [hn] at w1; exact False.elim w1
  | gen n f c =>
    have hj : JG X.K X.mg J m1 H1 n f c := r
    simp only at w1
    refine ⟨fun i k t H => k = n - i ∧ i ≤ n ∧ ∃ m S s, Ext m1 H1 m H ∧ C.Z t ∧ Sim X.K X.mg m S H ∧ RSl X.K X.mg m H s t ∧ WS X.K X.mg (forG g fb n f c (n - i) s S) m H D C,
      ⟨n, by simp, Nat.zero_le _, m1, S1, s, .refl _ _, z, s1, sl.mono e1, by simpa using w1⟩, ?_⟩
    rintro i k t H2 ⟨rfl, hle, m2, S2, s2, e2, z2, sm2, l2, w2⟩
    by_cases hi : i < n
    · obtain ⟨q, hq⟩ : ∃ q, n - i = q + 1 := ⟨n - i - 1, by omega⟩
      rw [hq] at w2
      unfold forG at w2
      have hi' : n - (q + 1) = i := by omega
      rw [hi'] at w2
      cases hx : f i S2 with
      | none => simp only [hx] at w2; exact False.elim w2
      | some x0 =>
        simp only [hx] at w2
        obtain ⟨go, hy⟩ := (hj m2 H2 S2 e2 sm2).1 i x0 hi hx
        have hq' : q = n - (i + 1) := by omega
        refine .inr ⟨go, fun t H => ∃ m S s, Ext m1 H1 m H ∧ C.Z t ∧ Sim X.K X.mg m S H ∧ RSl X.K X.mg m H s t ∧ WS X.K X.mg (forG g fb n f c q s S) m H D C,
          fun t' H' hN => ⟨n - (i + 1), by omega, rfl, by omega, by rw [← hq']; exact hN⟩, fun x H3 y => ?_⟩
        obtain ⟨rx, e3, sm3⟩ := hy x H3 y
        cases hgx : g x0 s2 with
        | none => simp only [hgx] at w2; exact False.elim w2
        | some s3 =>
          simp only [hgx] at w2
          refine ⟨m2, S2, x0, s2, s3, z2, sm3, l2.mono e3, rx, hgx, fun t3 z3 l3 => ⟨m2, S2, s3, z3, sm3, l3, ?_⟩⟩
          exact hbody rfl (w2.shift e3) fun m4 H4 t4 s4 S4 e4 z4 sm4 l4 w4 => ⟨m4, S4, s4, (e2.trans e3).trans e4, z4, sm4, l4, w4⟩
    · have hq : n - i = 0 := by omega
      have hin : i = n := by omega
      rw [hq] at w2
      unfold forG at w2
      split at w2
      · rename_i hc
        subst hin
        exact .inl ⟨(hj m2 H2 S2 e2 sm2).2 hc, w2.nx z2 sm2 l2⟩
      · exact False.elim w2
end
end Fr

namespace Fr
open PySem PySem.Spec PyProof.Rows L2

/-- a bound that the checker can weigh -/
def inR (n : Nat) (j : Int) : Bool := Nat.ble j.natAbs n
theorem inR_iff {n : Nat} {j : Int} : inR n j = true ↔ j.natAbs ≤ n := by unfold inR; rw [Nat.ble_eq]
theorem inR62 {j : Int} (h : inR 4611686018427387903 j = true) : -(2 ^ 62) ≤ j ∧ j < 2 ^ 62 := by
  have h1 := inR_iff.mp h
  have e : (2 : Int) ^ 62 = 4611686018427387904 := by decide
  rw [e]
  omega
theorem inR63 {j : Int} (h : inR 9223372036854775807 j = true) : -(2 ^ 63) ≤ j ∧ j < 2 ^ 63 := by
  have h1 := inR_iff.mp h
  have e : (2 : Int) ^ 63 = 9223372036854775808 := by decide
  rw [e]
  omega
theorem inR64 {j : Int} (h : inR 18446744073709551615 j = true) : -(2 ^ 64) < j ∧ j < 2 ^ 64 := by
  have h1 := inR_iff.mp h
  have e : (2 : Int) ^ 64 = 18446744073709551616 := by decide
  rw [e]
  omega
def chr1 (c : Nat) : W := .str ⟨#[c]⟩
def srcOf (w : W) : M Src := match w with
  | .tup xs => rt (.vals xs)
  | .fl xs => rt (.vals xs)
  | .str x => rt (.vals (x.cps.toList.map chr1))
  | .ref n => fun S => match S[n]? with
    | some (.lst _) => .ok (.live n) S
    | _ => .bad
  | _ => bad
def iE (f : Exp) : Sl → M Src := fun s => bd (f s) srcOf
def rng (lo : Int) (n : Nat) : List W := (List.range n).map fun (k : Nat) => W.int (lo + k)
def iR1 (f : Arg) : Sl → M Src := fun s => bd (f s) fun xs => match xs with
  | [.int j] => if inR 4611686018427387903 j = true then rt (.vals (rng 0 j.toNat)) else bad
  | _ => bad
def iR2 (f : Arg) : Sl → M Src := fun s => bd (f s) fun xs => match xs with
  | [.int i, .int j] => if (inR 4611686018427387903 i && inR 4611686018427387903 j) = true then rt (.vals (rng i (j - i).toNat)) else bad
  | _ => bad
section
variable {K : PySem.W.Frag} {mg : Str → Option Value} {m : List Addr} {H : Hp}
theorem jv_tup {p : Addr} {vs : List V} {xs : List W} (hq : SqT K H p vs) (hv : RVs K mg m H xs vs) : JV K mg (Itt K p) m H xs := by
  intro m' H' e i
  refine ⟨fun w hw => ?_, fun hl => ⟨vs, e.sqt hq, by rw [← hv.length]; exact hl⟩⟩
  obtain ⟨v, h1, h2⟩ := hv.get hw
  refine ⟨⟨vs, v, e.sqt hq, h1⟩, fun x H2 y => ?_⟩
  obtain ⟨rfl, y⟩ := y
  have := (y vs (e.sqt hq)).symm.trans h1
  cases this
  exact ⟨h2.mono e, .refl _ _, fun _ h => h⟩
theorem jv_fl {p : Addr} {vs : List V} {xs : List W} (hq : FzL K H p vs) (hv : RVs K mg m H xs vs) : JV K mg (Itl K p) m H xs := by
  intro m' H' e i
  refine ⟨fun w hw => ?_, fun hl => ⟨vs, (e.fzl hq).sq, by rw [← hv.length]; exact hl⟩⟩
  obtain ⟨v, h1, h2⟩ := hv.get hw
  refine ⟨⟨vs, v, (e.fzl hq).sq, h1⟩, fun x H2 y => ?_⟩
  obtain ⟨rfl, y⟩ := y
  have := (y vs (e.fzl hq).sq).symm.trans h1
  cases this
  exact ⟨h2.mono e, .refl _ _, fun _ h => h⟩
theorem jv_str {x : Str} : JV K mg (Its x) m H (x.cps.toList.map chr1) := by
  intro m' H' e i
  refine ⟨fun w hw => ?_, fun hl => ?_⟩
  · rw [List.getElem?_map] at hw
    cases hc : x.cps.toList[i]? with
    | none => rw [hc] at hw; cases hw
    | some c =>
      rw [hc] at hw
      cases hw
      have hc' : x.cps[i]? = some c := by simpa using hc
      refine ⟨(Array.getElem?_eq_some_iff.mp hc').1, fun v H2 y => ?_⟩
      obtain ⟨rfl, c', h1, rfl⟩ := y
      rw [hc'] at h1
      cases h1
      exact ⟨by unfold chr1 RV; rfl, .refl _ _, fun _ h => h⟩
  · show x.cps.size ≤ i
    simpa using hl
theorem jv_rng {lo : Int} {n : Nat} : JV K mg (Itr lo n) m H (rng lo n) := by
  intro m' H' e i
  refine ⟨fun w hw => ?_, fun hl => by show n ≤ i; simpa [rng] using hl⟩
  unfold rng at hw
  rw [List.getElem?_map] at hw
  cases hc : (List.range n)[i]? with
  | none => rw [hc] at hw; cases hw
  | some c =>
    rw [hc] at hw
    cases hw
    obtain ⟨h1, h2⟩ := List.getElem?_eq_some_iff.mp hc
    simp at h1 h2
    subst h2
    refine ⟨h1, fun v H2 y => ?_⟩
    obtain ⟨rfl, rfl⟩ := y
    exact ⟨by unfold RV; rfl, .refl _ _, fun _ h => h⟩
theorem jl_list {n : Nat} {a : Addr} (hm : m[n]? = some a) : JL K mg (Itl K a) m H n := by
  intro m' H' S ys e sm hS i
  obtain ⟨a', h1, vs, h2, h3⟩ := sm.at hS
  rw [e.get hm] at h1
  cases h1
  refine ⟨fun w hw => ?_, fun hl => ⟨vs, SqL.of h2, by rw [← h3.length]; exact hl⟩⟩
  obtain ⟨v, h4, h5⟩ := h3.get hw
  refine ⟨⟨vs, v, SqL.of h2, h4⟩, fun x H2 y => ?_⟩
  obtain ⟨rfl, y⟩ := y
  have := (y vs (SqL.of h2)).symm.trans h4
  cases this
  exact ⟨rfl, h5⟩
end
section
variable {X : Cx} {C : Cc} {pos pos' p : Pos} {a b tg iter : Expr} {es : List Expr} {fe : Exp} {fr : Arg}
theorem si_any (ha : SE X C a fe) : SI X C tg a (iE fe) := by
  refine PI.imp (PI.or (pi_list (tg := tg) ha) (PI.or (pi_tup (tg := tg) ha) (pi_str (tg := tg) ha))) fun s' H R h => ?_
  obtain ⟨m, S, s, z, sim, sl, w⟩ := h
  have key : ∀ {Q' : V → Hp → Prop}, (∀ x S1 m1 H1 v, fe s S = .ok x S1 → Ext m H m1 H1 → Sim X.K X.mg m1 S1 H1 → RV X.K X.mg m1 H1 x v → WG X.K X.mg (RJ X.K X.mg) (srcOf x S1) m1 H1 R (fun c d H' => C.Wx c d s' H') → Q' v H1) → tG X.K X.mg (RV X.K X.mg) C fe s' H Q' := by
    intro Q' hk
    refine ⟨m, S, s, z, sim, sl, ?_⟩
    unfold iE bd at w
    cases hf : fe s S with
    | ok x S1 => rw [hf] at w; exact fun m' H' v e sm r => hk x S1 m' H' v hf e sm r (w.shift e)
    | ex c d S1 => rw [hf] at w; exact w
    | bad => rw [hf] at w; exact w
  cases hf : fe s S with
  | ok x S1 =>
    cases x with
    | tup xs =>
      refine .inr (.inl (key fun y S2 m1 H1 v e0 e sm r w1 => ?_))
      rw [hf] at e0; cases e0
      unfold RV at r
      obtain ⟨q, vs, rfl, h1, h2⟩ := r
      exact ⟨q, rfl, ⟨vs, h1⟩, w1.ok sm (jv_tup h1 h2)⟩
    | fl xs =>
      refine .inl (key fun y S2 m1 H1 v e0 e sm r w1 => ?_)
      rw [hf] at e0; cases e0
      unfold RV at r
      obtain ⟨q, vs, rfl, h1, h2⟩ := r
      exact ⟨q, rfl, ⟨vs, h1.sq⟩, w1.ok sm (jv_fl h1 h2)⟩
    | str z =>
      refine .inr (.inr (key fun y S2 m1 H1 v e0 e sm r w1 => ?_))
      rw [hf] at e0; cases e0
      unfold RV at r
      exact ⟨z, r, w1.ok sm jv_str⟩
    | ref n =>
      refine .inl (key fun y S2 m1 H1 v e0 e sm r w1 => ?_)
      rw [hf] at e0; cases e0
      unfold RV at r
      obtain ⟨q, h1, rfl⟩ := r
      unfold srcOf at w1
      simp only at w1
      split at w1
      · rename_i ys hn
        obtain ⟨q', h2, vs, h3, h4⟩ := sm.at hn
        rw [h1] at h2; cases h2
        exact ⟨q, rfl, ⟨vs, SqL.of h3⟩, w1.ok sm (jl_list h1)⟩
      · exact False.elim w1
    | _ =>
      exfalso
      unfold iE bd at w
      rw [hf] at w
      exact w
  | ex c d S1 => exact .inl (key fun y S2 m1 H1 v e0 e sm r w1 => by rw [hf] at e0; cases e0)
  | bad => exact .inl (key fun y S2 m1 H1 v e0 e sm r w1 => by rw [hf] at e0; cases e0)
theorem si_range1 (hg : Gl X "range") (hm : X.mg "range" = none) (ha : SA X C [a] fr) (hs : starEach [a] X.env = [(false, eval a X.env)] := by rfl) : SI X C tg (.Call (.Name "range" p) [a] [] pos) (iR1 fr) := by
  refine PI.imp (pi_range1 (tg := tg) hg hm ha hs) fun s' H R h => ?_
  refine tG.bind h fun m1 S1 s H1 x v z s1 l1 r1 w1 => ?_
  split at w1
  · rename_i j
    split at w1
    · rename_i hj
      obtain ⟨v1, vr, rfl, h1, h2⟩ := r1.uncons
      unfold RV at h1
      rw [h2.nil_inv, h1]
      exact ⟨j, rfl, (inR62 hj).1, (inR62 hj).2, w1.ok s1 jv_rng⟩
    · exact False.elim w1
  · exact False.elim w1
theorem si_range2 (hg : Gl X "range") (hm : X.mg "range" = none) (ha : SA X C [a, b] fr) (hs : starEach [a, b] X.env = [(false, eval a X.env), (false, eval b X.env)] := by rfl) (hs2 : starEach [b] X.env = [(false, eval b X.env)] := by rfl) : SI X C tg (.Call (.Name "range" p) [a, b] [] pos) (iR2 fr) := by
  refine PI.imp (pi_range2 (tg := tg) hg hm ha hs hs2) fun s' H R h => ?_
  refine tG.bind h fun m1 S1 s H1 x v z s1 l1 r1 w1 => ?_
  split at w1
  · rename_i i j
    split at w1
    · rename_i hj
      obtain ⟨v1, vr, rfl, h1, h2⟩ := r1.uncons
      obtain ⟨v2, vr2, rfl, h3, h4⟩ := h2.uncons
      unfold RV at h1 h3
      rw [h4.nil_inv, h1, h3]
      have hi1 := inR62 (Bool.and_eq_true_iff.mp hj).1
      have hj1 := inR62 (Bool.and_eq_true_iff.mp hj).2
      exact ⟨i, j, rfl, ⟨hi1.1, hi1.2, hj1.1, hj1.2⟩, w1.ok s1 jv_rng⟩
    · exact False.elim w1
  · exact False.elim w1
/-! ### while -/
def sWhile (n : Nat) (c : Tst) (b : Stm) : Stm := whileN c b n
theorem ss_while {n : Nat} {c : Expr} {ft : Tst} {fb : Stm} {body : List Stmt} (hp : PassesOwn (model X.prog X.w) X.A X.env X.xe) (hc : ST X C c ft) (hb : SB X C body fb) : SS X C (.While c body [] pos) (sWhile n ft fb) := by
  refine PS.imp (ps_while hp hc hb) fun D s' H h => ?_
  obtain ⟨m, S, s, z, sim, sl, w⟩ := h
  refine ⟨fun k t H => ∃ m S s, C.Z t ∧ Sim X.K X.mg m S H ∧ RSl X.K X.mg m H s t ∧ WS X.K X.mg (whileN ft fb k s S) m H D C, ⟨n, m, S, s, z, sim, sl, w⟩, ?_⟩
  rintro k t H1 ⟨m1, S1, s1, z1, sm1, l1, w1⟩
  cases k with
  | zero => exact False.elim w1
  | succ k =>
    unfold whileN at w1
    refine ⟨m1, S1, s1, z1, sm1, l1, w1.onE z1 l1 fun q S2 m2 H2 v e2 sm2 r w2 => ?_⟩
    cases r
    cases q with
    | false => rw [if_neg Bool.false_ne_true]; rw [if_neg Bool.false_ne_true] at w2; exact w2.nx z1 sm2 (l1.mono e2)
    | true =>
      rw [if_pos rfl]
      rw [if_pos rfl] at w2
      refine ⟨fun t H => ∃ m S s, C.Z t ∧ Sim X.K X.mg m S H ∧ RSl X.K X.mg m H s t ∧ WS X.K X.mg (whileN ft fb k s S) m H D C, fun t' H' hN => ⟨k, Nat.lt_succ_self _, hN⟩, m2, S2, s1, z1, sm2, l1.mono e2, ?_⟩
      cases hf : fb s1 S2 with
      | nx s3 S3 => rw [hf] at w2; exact fun m3 H3 t e z s l => ⟨m3, S3, s3, z, s, l, w2.shift e⟩
      | ct s3 S3 => rw [hf] at w2; exact fun m3 H3 t e z s l => ⟨m3, S3, s3, z, s, l, w2.shift e⟩
      | bk s3 S3 => rw [hf] at w2; exact w2
      | rt u S3 => rw [hf] at w2; exact w2
      | ex c d s3 S3 => rw [hf] at w2; exact w2
      | bad => rw [hf] at w2; exact w2
end
/-! ### defs -/
def spM (K : PySem.W.Frag) (mg : Str → Option Value) (n : Nat) (F : Fn) : Sp := fun vs H Q E =>
  ∃ m S ws, Sim K mg m S H ∧ RVs K mg m H ws vs ∧ ws.length = n ∧ WG K mg (RV K mg) (F ws S) m H Q E
abbrev FnM (P : Program) (w : World) (K : PySem.W.Frag) (mg : Str → Option Value) (base : Heap) (k : Nat) (f : Addr) (fd : FuncData) (ps : List Str) (F : Fn) : Prop := FnOk P w K mg base (L2.CX P w) k f fd ps (spM K mg ps.length F)
abbrev cE (E : XK) : Cc := ⟨fun _ => True, fun cls d _ H => E cls d H⟩
abbrev cW (W : WX) : Cc := ⟨fun _ => True, W⟩
section
variable {P : Program} {w : World} {K : PySem.W.Frag} {mg : Str → Option Value} {base : Heap}
theorem RSl.begun {m : List Addr} {H : Hp} {N : List Str} {n : Nat} {ws : List W} {vs : List V} (hn : N.length = n) (h : RVs K mg m H ws vs) : RSl K mg m H (ws.map some ++ List.replicate (n - ws.length) none) (start N vs) := by
  unfold L2.start
  refine ⟨by simp [h.length, hn], fun i u hu => ?_⟩
  by_cases hi : i < ws.length
  · rw [List.getElem?_append_left (by simpa using hi), List.getElem?_map] at hu
    cases hw : ws[i]? with
    | none => rw [hw] at hu; cases hu
    | some w' =>
      rw [hw] at hu
      have hu' : some (some w') = some (some u) := hu
      cases hu'
      obtain ⟨v, h1, h2⟩ := h.get hw
      exact ⟨v, by rw [List.getElem?_append_left (by rw [List.length_map, ← h.length]; exact hi), List.getElem?_map, h1]; rfl, h2⟩
  · rw [List.getElem?_append_right (by simpa using hi)] at hu
    have := List.mem_of_getElem? hu
    simp at this
/-- a def keeps its mirror's promise -/
theorem fn_ok {x qual : Str} {st : Stmt} {f : Addr} {fd : FuncData} {N ps : List Str} {k n : Nat} {body : Stm} (F : Fun K x qual st f fd) (Sc : FnScope N ps (defScope st)) (hn : N.length = n)
    (hb : ∀ (cdv : Value) (A : Around) (outer : List Env) (s : Shared) (H : Hp) (E : XK), Room k (A.deeper (envOfC qual (defScope st) s.heap.objs.size f cdv)) →
      Takes (cxOf (L2.CX P w) P w K mg base N qual (defScope st) f cdv A outer s H E) (cE E).Wx →
      PassesOwn (model P w) (cxOf (L2.CX P w) P w K mg base N qual (defScope st) f cdv A outer s H E).A (cxOf (L2.CX P w) P w K mg base N qual (defScope st) f cdv A outer s H E).env (cxOf (L2.CX P w) P w K mg base N qual (defScope st) f cdv A outer s H E).xe →
      SB (cxOf (L2.CX P w) P w K mg base N qual (defScope st) f cdv A outer s H E) (cE E) (defBody st) body) : FnM P w K mg base (k + 1) f fd ps (fnM n body) := by
  refine F.okX Sc (fun vs H Q E h => ?_) (fun cdv A outer s H vs Q E hr h => ?_)
  · obtain ⟨m, S, ws, _, r, e, _⟩ := h
    rw [← r.length, e]
  · obtain ⟨m, S, ws, sim, r, e, wn⟩ := h
    refine ⟨_, hb cdv A outer s H E hr (takes_of rfl rfl rfl rfl) (passes_of rfl), m, S, _, trivial, sim, RSl.begun hn r, ?_⟩
    unfold fnM at wn
    cases hf : body (ws.map some ++ List.replicate (n - ws.length) none) S with
    | nx s2 S2 => rw [hf] at wn; exact fun m' H' t e z sm l => wn m' H' .non e sm (by unfold RV; rfl)
    | rt u S2 => rw [hf] at wn; exact wn
    | ex c d s2 S2 => rw [hf] at wn; exact fun m' H' t cls d' e z sm l r => wn m' H' cls d' e sm r
    | bk s2 S2 => rw [hf] at wn; exact False.elim wn
    | ct s2 S2 => rw [hf] at wn; exact False.elim wn
    | bad => rw [hf] at wn; exact False.elim wn
end
section
variable {X : Cx} {C : Cc} {pos pos' p p2 np : Pos} {a tg iter : Expr} {es : List Expr} {fe : Exp} {fr : Arg}
theorem se_call {F : Fn} {k : Nat} {f : Addr} {fd : FuncData} {ps : List Str} {x : Str} (G : FnM X.prog X.w X.K X.mg X.base k f fd ps F) (hr : Room k X.A) (hg : Gl X x) (hm : X.mg x = some (.ref f)) (hk : PySem.W.keepIn X.K (.ref f) = true) (hb : Binds X.K fd ps []) (tk : Takes X C.Wx)
    (ha : SA X C (a :: es) fr) (hl : (a :: es).length = ps.length := by rfl) (hfr : ∀ s S ws S', fr s S = .ok ws S' → ws.length = (a :: es).length)
    (hdb : (x == ("__debug__" : Str)) = false := by decide) (he : starEach (a :: es) X.env = (false, eval a X.env) :: starEach es X.env := by rfl) (hpl : (backTo pos (starEach es X.env)).any (·.1) = false := by rfl) :
    SE X C (.Call (.Name x p) (a :: es) [] pos) (eCall F fr) := by
  refine PE.imp (pe_callS (E := L2.WE C.Wx) G hr hg hm hk hb (fun σ => passAt tk σ) ha hdb he hpl) fun s' H Q h => ?_
  obtain ⟨m, S, s, z, sim, sl, w⟩ := h
  refine ⟨m, S, s, z, sim, sl, ?_⟩
  unfold eCall bd at w
  cases hf : fr s S with
  | ok ws S1 =>
    rw [hf] at w
    exact fun m' H' vs e sm r => ⟨m', S1, ws, sm, r, by rw [hfr s S ws S1 hf]; exact hl, w.shift e⟩
  | ex c d S1 => rw [hf] at w; exact w
  | bad => rw [hf] at w; exact w
theorem aNil_len : ∀ (s : Sl) (S : Sto) (ws : List W) (S' : Sto), aNil s S = .ok ws S' → ws.length = 0 := by
  intro s S ws S' h
  unfold aNil rt at h
  cases h; rfl
theorem aCons_len {n : Nat} (h : ∀ (s : Sl) (S : Sto) (ws : List W) (S' : Sto), fr s S = .ok ws S' → ws.length = n) : ∀ (s : Sl) (S : Sto) (ws : List W) (S' : Sto), aCons fe fr s S = .ok ws S' → ws.length = n + 1 := by
  intro s S ws S' e
  unfold aCons bd at e
  cases h1 : fe s S with
  | ok x S1 =>
    rw [h1] at e
    simp only at e
    cases h2 : fr s S1 with
    | ok xs S2 =>
      rw [h2] at e
      simp only [rt] at e
      cases e
      simp [h s S1 xs _ h2]
    | ex c d S2 => rw [h2] at e; cases e
    | bad => rw [h2] at e; cases e
  | ex c d S1 => rw [h1] at e; cases e
  | bad => rw [h1] at e; cases e
/-- raise X('..'): an own class over ValueError without an __init__ -/
theorem ss_raise {x msg : Str} {j : Nat} {A : Addr} (hc : X.calm = true) (tk : Takes X C.Wx) (q : PySem.W.excIn X.K A [.type "ValueError", .type "Exception", .type "BaseException", .type "object"] "ValueError.__new__" = true) (gC : X.mg x = some (.ref A))
    (kC : PySem.W.keepIn X.K (.ref A) = true) (h1 : PySem.W.subIn X.K (.ref A) (.type "BaseException") = some true) (h2 : PySem.W.typeIn X.K (.ref A) = some (.type "type")) (hg : Gl X x) (hdb : (x == ("__debug__" : Str)) = false := by decide) :
    SS X C (.Raise (some (.Call (.Name x p) [.Constant (.str msg) j p2] [] pos)) none pos') (sRaise x) := by
  refine PS.imp (ps_raise hc tk (pmk_own PySem.F.excBase_ValueError q gC kC (raises_own h1 h2) hg hdb)) fun D s' H h => ?_
  obtain ⟨m, S, s, z, sim, sl, w⟩ := h
  exact w m H s' _ _ (.refl _ _) z sim sl ⟨⟨A, rfl, gC⟩, trivial⟩
/-! ### try -/
def XTab (K : PySem.W.Frag) (mg : Str → Option Value) (tab : List (Str × Bool)) (c : Value) : Prop := ∀ x b A, lookX tab x = some b → mg x = some (.ref A) → PySem.W.exmOne K (.ref A) c = some b
theorem xtab_nil {K : PySem.W.Frag} {mg : Str → Option Value} {c : Value} : XTab K mg [] c := fun _ _ _ h => nomatch h
theorem xtab_cons {K : PySem.W.Frag} {mg : Str → Option Value} {c : Value} {x : Str} {b : Bool} {A : Addr} {tab : List (Str × Bool)} (g : mg x = some (.ref A)) (e : PySem.W.exmOne K (.ref A) c = some b) (t : XTab K mg tab c) : XTab K mg ((x, b) :: tab) c := fun y b' A' h hy => by
  unfold lookX at h
  split at h
  · rename_i q
    subst q
    cases h
    rw [g] at hy
    cases hy
    exact e
  · exact t y b' A' h hy
theorem PSs.ex {ι : Type} {sts : List Stmt} {t : ι → TS} (h : ∀ i, PSs X sts (t i)) : PSs X sts (fun D s H => ∃ i, t i D s H) := ⟨fun pins s σ H D I ⟨i, q⟩ => (h i).run pins s σ H D I q⟩
theorem sb_bad {sts : List Stmt} : SB X C sts (fun _ _ => RS.bad) := ⟨fun pins s σ H D I h => by
  obtain ⟨m, S, s, z, sim, sl, w⟩ := h
  exact False.elim w⟩
def onNone (d : Option (List (Str × W))) (s : Stm) : Stm := match d with
  | none => s
  | some _ => fun _ _ => .bad
theorem fn_bad {P : Program} {w : World} {K : PySem.W.Frag} {mg : Str → Option Value} {base : Heap} {k : Nat} {f : Addr} {fd : FuncData} {ps : List Str} : FnM P w K mg base k f fd ps (fun _ => bad) := by
  refine ⟨fun vs H Q E h => ?_, fun A outer s H args us vs Q E _ _ _ _ h => ?_⟩
  · obtain ⟨m, S, ws, _, _, _, w⟩ := h
    exact False.elim w
  · obtain ⟨m, S, ws, _, _, _, w⟩ := h
    exact False.elim w
abbrev cS : Cc := ⟨fun _ => True, fun _ _ _ _ => False⟩
theorem ss_try {x : Str} {c : Value} {body suite : List Stmt} {b0 : Stmt} {fb : Stm} {tab : List (Str × Bool)} {su : Str → Option (List (Str × W)) → Stm} (hZ : C.Z = fun _ => True) (hc : Names X x c) (tk : Takes X C.Wx) (ht : XTab X.K X.mg tab c)
    (hb : ∀ (W : WX) (pn : List (Addr × Obj)) (xe : Value → Shared → Prop), Takes (X.tr pn xe) W → PassesOwn (model X.prog X.w) X.A X.env xe → SB (X.tr pn xe) (cW W) body fb)
    (hsu : ∀ (a : Addr) (oe : Obj) (A : Addr) (d : Option Addr) (pn : List (Addr × Obj)) (n : Str) (dd : Option (List (Str × W))), Zc (.ref A) d oe → (∃ vs, oe.data = .fields vs) → lookX tab n = some true → X.mg n = some (.ref A) → SB (X.suite a ((a, oe) :: pn)) cS (b0 :: suite) (su n dd))
    (hs : X.stack = X.env :: X.outer := by rfl) (hf : X.env.frame = some X.env.locals := by rfl) :
    SS X C (.Try body [.ExceptHandler (some (.Name x np)) none (b0 :: suite) pos'] [] [] pos) (sTry fb tab su) := by
  refine PS.imp (ps_try_only (tb := fun W => tS X.K X.mg (cW W) fb)
    (ts := fun a cls d => fun D s' H => ∃ i : Str × Option (List (Str × W)), ((∃ A, cls = .ref A ∧ X.mg i.1 = some (.ref A)) ∧ lookX tab i.1 = some true) ∧ tS X.K X.mg cS (su i.1 i.2) D s' H) hs hf hc tk (fun W pn xe t po => hb W pn xe t po)
    (fun a oe cls d pn hz hfl => ?_)) fun D s' H h => ?_
  · refine PSs.ex fun i => ⟨fun pins s σ H D I ⟨⟨⟨A, h1, h2⟩, h3⟩, q⟩ => ?_⟩
    subst h1
    exact (hsu a oe A d pn i.1 i.2 hz hfl h3 h2).run pins s σ H D I q
  · obtain ⟨m, S, s, z, sim, sl, w⟩ := h
    refine ⟨m, S, s, trivial, sim, sl, ?_⟩
    have hz' : ∀ t, C.Z t := fun t => by rw [hZ]; trivial
    unfold sTry at w
    cases hf : fb s S with
    | nx s2 S2 => rw [hf] at w; exact fun m' H' t e _ sm l => w m' H' t e (hz' t) sm l
    | bk s2 S2 => rw [hf] at w; exact fun m' H' t e _ sm l => w m' H' t e (hz' t) sm l
    | ct s2 S2 => rw [hf] at w; exact fun m' H' t e _ sm l => w m' H' t e (hz' t) sm l
    | rt u S2 => rw [hf] at w; exact w
    | bad => rw [hf] at w; exact w
    | ex cn d s2 S2 =>
      rw [hf] at w
      intro m' H' t cls d' e _ sm l r
      obtain ⟨A, rfl, hA⟩ := r.1
      simp only at w
      cases hl : lookX tab cn with
      | none => rw [hl] at w; exact False.elim w
      | some b =>
        rw [hl] at w
        refine ⟨b, ht cn b A hl hA, fun hb1 a na => ?_, fun hb0 => ?_⟩
        · subst hb1
          refine ⟨(cn, d), ⟨⟨A, rfl, hA⟩, hl⟩, m', S2, s2, trivial, sm, l, ?_⟩
          have w' := w.shift e
          simp only at w'
          cases hsu2 : su cn d s2 S2 with
          | nx s3 S3 => rw [hsu2] at w'; exact fun m3 H3 t3 e3 _ sm3 l3 => w' m3 H3 t3 e3 (hz' _) sm3 l3
          | bk s3 S3 => rw [hsu2] at w'; exact fun m3 H3 t3 e3 _ sm3 l3 => w' m3 H3 t3 e3 (hz' _) sm3 l3
          | ct s3 S3 => rw [hsu2] at w'; exact fun m3 H3 t3 e3 _ sm3 l3 => w' m3 H3 t3 e3 (hz' _) sm3 l3
          | rt u S3 => rw [hsu2] at w'; exact w'
          | bad => rw [hsu2] at w'; exact w'
          | ex c3 d3 s3 S3 => rw [hsu2] at w'; exact False.elim w'
        · subst hb0
          exact w m' H' t _ d' e (hz' _) sm l r
/-- .. as n -/
abbrev cA (i : Nat) (a : Addr) : Cc := ⟨fun t => t[i]? = some (some (.ref a)), fun _ _ _ _ => False⟩
theorem ss_tryAs {i : Nat} {x n : Str} {c : Value} {body suite : List Stmt} {b0 : Stmt} {fb : Stm} {tab : List (Str × Bool)} {su : Str → Option (List (Str × W)) → Stm} (hN : X.N.Nodup) (hZ : C.Z = fun _ => True) (hc : Names X x c) (tk : Takes X C.Wx) (ht : XTab X.K X.mg tab c)
    (hb : ∀ (W : WX) (pn : List (Addr × Obj)) (xe : Value → Shared → Prop), Takes (X.tr pn xe) W → PassesOwn (model X.prog X.w) X.A X.env xe → SB (X.tr pn xe) (cW W) body fb)
    (hsu : ∀ (a : Addr) (oe : Obj) (A : Addr) (d : Option Addr) (pn : List (Addr × Obj)) (n : Str) (dd : Option (List (Str × W))), Zc (.ref A) d oe → (∃ vs, oe.data = .fields vs) → lookX tab n = some true → X.mg n = some (.ref A) → (dd = none → d = none) → SB (X.suite a ((a, oe) :: pn)) (cA i a) (b0 :: suite) (su n dd))
    (hi : X.N[i]? = some n := by rfl) (hln : X.env.kindOf n = some .local := by rfl)
    (hs : X.stack = X.env :: X.outer := by rfl) (hf : X.env.frame = some X.env.locals := by rfl) :
    SS X C (.Try body [.ExceptHandler (some (.Name x np)) (some n) (b0 :: suite) pos'] [] [] pos) (sTryAs i fb tab su) := by
  have base := ps_try_as (X := X) (pos := pos) (pos' := pos') (np := np) (body := body) (b₀ := b0) (suite := suite) (tb := fun W => tS X.K X.mg (cW W) fb)
    (ts := fun a cls d => fun D s' H => ∃ i' : Str × Option (List (Str × W)), (((∃ A, cls = .ref A ∧ X.mg i'.1 = some (.ref A)) ∧ lookX tab i'.1 = some true) ∧ (i'.2 = none → d = none)) ∧ tS X.K X.mg (cA i a) (su i'.1 i'.2) D s' H) hs hf hN hi hln hc tk (fun W pn xe t po => hb W pn xe t po)
    (fun a oe cls d pn hz hfl => ?_)
  · refine PS.imp base fun D s' H h => ?_
    obtain ⟨m, S, s, z, sim, sl, w⟩ := h
    refine ⟨m, S, s, trivial, sim, sl, ?_⟩
    have hz' : ∀ t, C.Z t := fun t => by rw [hZ]; trivial
    unfold sTryAs at w
    cases hf : fb s S with
    | nx s2 S2 => rw [hf] at w; exact fun m' H' t e _ sm l => w m' H' t e (hz' t) sm l
    | bk s2 S2 => rw [hf] at w; exact fun m' H' t e _ sm l => w m' H' t e (hz' t) sm l
    | ct s2 S2 => rw [hf] at w; exact fun m' H' t e _ sm l => w m' H' t e (hz' t) sm l
    | rt u S2 => rw [hf] at w; exact w
    | bad => rw [hf] at w; exact w
    | ex cn d s2 S2 =>
      rw [hf] at w
      intro m' H' t cls d' e _ sm l r
      obtain ⟨A, rfl, hA⟩ := r.1
      simp only at w
      cases hl : lookX tab cn with
      | none => rw [hl] at w; exact False.elim w
      | some b =>
        rw [hl] at w
        refine ⟨b, ht cn b A hl hA, fun hb1 a na => ?_, fun hb0 => ?_⟩
        · subst hb1
          have hd : d = none → d' = none := fun q => by
            subst q
            have r2 := r.2
            cases d' with
            | none => rfl
            | some _ => exact False.elim r2
          have w' := w.shift e
          simp only at w'
          split at w'
          · rename_i hi1
            have hi2 : i < t.length := by rw [← l.1]; exact hi1
            refine ⟨(cn, d), ⟨⟨⟨A, rfl, hA⟩, hl⟩, hd⟩, m', S2, s2.set i none, ?_, sm, l.drop, ?_⟩
            · show (t.set i (some (.ref a)))[i]? = some (some (.ref a))
              rw [List.getElem?_set_self hi2]
            · cases hsu2 : su cn d (s2.set i none) S2 with
              | nx s3 S3 => rw [hsu2] at w'; exact fun m3 H3 t3 e3 _ sm3 l3 => w' m3 H3 _ e3 (hz' _) sm3 l3.drop
              | bk s3 S3 => rw [hsu2] at w'; exact fun m3 H3 t3 e3 _ sm3 l3 => w' m3 H3 _ e3 (hz' _) sm3 l3.drop
              | ct s3 S3 => rw [hsu2] at w'; exact fun m3 H3 t3 e3 _ sm3 l3 => w' m3 H3 _ e3 (hz' _) sm3 l3.drop
              | rt u S3 => rw [hsu2] at w'; exact w'
              | bad => rw [hsu2] at w'; exact w'
              | ex c3 d3 s3 S3 => rw [hsu2] at w'; exact False.elim w'
          · exact False.elim w'
        · subst hb0
          exact w m' H' t _ d' e (hz' _) sm l r
  · refine PSs.ex fun i' => ⟨fun pins s σ H D I ⟨⟨⟨⟨A, h1, h2⟩, h3⟩, h4⟩, q⟩ => ?_⟩
    subst h1
    exact (hsu a oe A d pn i'.1 i'.2 hz hfl h3 h2 h4).run pins s σ H D I q
end
end Fr

namespace Fr
open PySem PySem.Spec PyProof.Rows L2

/-! ### operations by values -/
def getL (S : Sto) : W → Option (List W)
  | .ref n => match S[n]? with
    | some (.lst xs) => some xs
    | _ => none
  | .fl xs => some xs
  | _ => none
def addM (x y : W) : M W := match x, y with
  | .int i, .int j => rt (.int (i + j))
  | .str a, .str b => if a.length + b.length ≤ sizeLine then rt (.str (a ++ b)) else bad
  | .tup a, .tup b => if a.length + b.length ≤ sizeLine then rt (.tup (a ++ b)) else bad
  | .ref l, .ref r => fun S => match S[l]?, S[r]? with
    | some (.lst xs), some (.lst ys) => if xs.length + ys.length ≤ sizeLine then new (.lst (xs ++ ys)) S else .bad
    | _, _ => .bad
  | _, _ => bad
def subM (x y : W) : M W := match x, y with
  | .int i, .int j => rt (.int (i - j))
  | _, _ => bad
def strRep (a : Str) (n : Nat) : Str := ⟨(List.replicate n a.cps).foldl (· ++ ·) #[]⟩
def mulM (x y : W) : M W := match x, y with
  | .int i, .int j => if (inR 18446744073709551615 i || inR 18446744073709551615 j) = true then rt (.int (i * j)) else bad
  | .str a, .int n => if 2 ≤ n ∧ n ≤ 1000 ∧ 1 ≤ a.length ∧ a.length ≤ 1000 then rt (.str (strRep a n.toNat)) else bad
  | .ref l, .int k => fun S => match S[l]? with
    | some (.lst xs) => if inR 9223372036854775807 k = true ∧ xs.length * k.toNat ≤ sizeLine then new (.lst (List.replicate k.toNat xs).flatten) S else .bad
    | _ => .bad
  | _, _ => bad
def modM (x y : W) : M W := match x, y with
  | .int i, .int j => if j ≠ 0 then rt (.int (i.fmod j)) else bad
  | _, _ => bad
def fdivM (x y : W) : M W := match x, y with
  | .int i, .int j => if j ≠ 0 ∧ j.natAbs < 1073741824 then rt (.int (i.fdiv j)) else bad
  | _, _ => bad
def powM (x y : W) : M W := match x, y with
  | .int i, .int j => if 0 ≤ j ∧ j ≤ 1000000 ∧ i.natAbs < 2 ^ 64 then rt (.int (i ^ j.toNat)) else bad
  | _, _ => bad
def shrM (x y : W) : M W := match x, y with
  | .int i, .int j => if 0 ≤ j then rt (.int (i / 2 ^ j.toNat)) else bad
  | _, _ => bad
def bandM (x y : W) : M W := match x, y with
  | .int i, .int j => rt (.int (Builtin.bitAnd i j))
  | _, _ => bad
def negM (x : W) : M W := match x with
  | .int i => rt (.int (-i))
  | _ => bad
def ltM (x y : W) : M W := match x, y with
  | .int i, .int j => rt (.bl (decide (i < j)))
  | _, _ => bad
def leM (x y : W) : M W := match x, y with
  | .int i, .int j => rt (.bl (decide (i ≤ j)))
  | _, _ => bad
def gtM (x y : W) : M W := match x, y with
  | .int i, .int j => rt (.bl (decide (j < i)))
  | _, _ => bad
def geM (x y : W) : M W := match x, y with
  | .int i, .int j => rt (.bl (decide (j ≤ i)))
  | _, _ => bad
/-- scalars -/
def eqW : W → W → Option Bool
  | .non, .non => some true
  | .int i, .int j => some (decide (i = j))
  | .bl i, .bl j => some (decide (i = j))
  | .str i, .str j => some (decide (i = j))
  | .non, .int _ => some false
  | .int _, .non => some false
  | .non, .bl _ => some false
  | .bl _, .non => some false
  | .non, .str _ => some false
  | .str _, .non => some false
  | .int _, .str _ => some false
  | .str _, .int _ => some false
  | .bl _, .str _ => some false
  | .str _, .bl _ => some false
  | _, _ => none
def allD (f : W → Option PyData) : List W → Option (List PyData)
  | [] => some []
  | w :: ws => match f w, allD f ws with
    | some d, some ds => some (d :: ds)
    | _, _ => none
/-- a value as plain data, n deep -/
def toD (S : Sto) : Nat → W → Option PyData
  | 0, _ => none
  | n + 1, w => match w with
    | .non => some .none
    | .bl b => some (.bool b)
    | .int i => some (.int i)
    | .str x => some (.str x)
    | .tup xs => (allD (toD S n) xs).map .tuple
    | .fl xs => (allD (toD S n) xs).map .list
    | .ref k => match S[k]? with
      | some (.lst xs) => (allD (toD S n) xs).map .list
      | _ => none
    | _ => none
def eqM (x y : W) : M W := match eqW x y with
  | some b => rt (.bl b)
  | none => fun S => match toD S 40 x, toD S 40 y with
    | some d, some e => if (SeqAt.shaped d && SeqAt.shaped e) = true then .ok (.bl (PyData.eqv d e)) S else .bad
    | _, _ => .bad
def neM (x y : W) : M W := match eqW x y with
  | some b => rt (.bl !b)
  | none => fun S => match toD S 40 x, toD S 40 y with
    | some d, some e => if (SeqAt.shaped d && SeqAt.shaped e) = true then .ok (.bl !(PyData.eqv d e)) S else .bad
    | _, _ => .bad
def isM (x y : W) : M W := match x, y with
  | .non, .non => rt (.bl true)
  | _, .non => rt (.bl false)
  | _, _ => bad
def isNotM (x y : W) : M W := match x, y with
  | .non, .non => rt (.bl false)
  | _, .non => rt (.bl true)
  | _, _ => bad
def subS (i j : Str) : Bool := !(Builtin.Str.occurrences j i 0 j.length 1).isEmpty
def flatW : W → Bool
  | .non => true
  | .bl _ => true
  | .int _ => true
  | .str _ => true
  | _ => false
def eqF : W → W → Bool
  | .non, .non => true
  | .bl i, .bl j => i == j
  | .int i, .int j => i == j
  | .str i, .str j => i == j
  | .bl i, .int j => (if i then 1 else 0) == j
  | .int j, .bl i => j == (if i then 1 else 0)
  | _, _ => false
def inM (x y : W) : M W := match x, y with
  | .str i, .str j => rt (.bl (subS i j))
  | _, _ => bad
def notInM (x y : W) : M W := match x, y with
  | .str i, .str j => rt (.bl !(subS i j))
  | _, _ => bad
/-- subscripts -/
def ixM (x y : W) : M W := match x, y with
  | .tup xs, .int i => match atI xs i with
    | some w => rt w
    | none => bad
  | .fl xs, .int i => match atI xs i with
    | some w => rt w
    | none => bad
  | .str z, .int i => if z.length ≤ sizeLine then (match atI z.cps.toList i with
    | some c => rt (chr1 c)
    | none => bad) else bad
  | .ref n, .int i => fun S => match S[n]? with
    | some (.lst xs) => match atI xs i with
      | some w => .ok w S
      | none => .bad
    | _ => .bad
  | _, _ => bad
def cutW (xs : List W) (lo hi : Option Int) : List W := (xs.drop (HT.sIx xs.length 0 lo)).take (HT.sIx xs.length xs.length hi - HT.sIx xs.length 0 lo)
def slM (x : W) (lo hi : Option Int) : M W := match x with
  | .str z => if z.length ≤ sizeLine then rt (.str (cutS z lo hi)) else bad
  | .tup xs => rt (.tup (cutW xs lo hi))
  | .fl xs => new (.lst (cutW xs lo hi))
  | .ref n => fun S => match S[n]? with
    | some (.lst xs) => new (.lst (cutW xs lo hi)) S
    | _ => .bad
  | _ => bad
/-! built-ins -/
def lenM (xs : List W) : M W := match xs with
  | [.str z] => if z.length ≤ sizeLine then rt (.int z.length) else bad
  | [.tup ys] => rt (.int ys.length)
  | [.fl ys] => rt (.int ys.length)
  | [.ref n] => fun S => match S[n]? with
    | some (.lst ys) => .ok (.int ys.length) S
    | _ => .bad
  | _ => bad
def intM (xs : List W) : M W := match xs with
  | [.int i] => rt (.int i)
  | [.bl b] => rt (.int (if b then 1 else 0))
  | [.str a] => match PySem.intText? a with
    | some n => if a.length ≤ 640 then rt (.int n) else bad
    | none => bad
  | _ => bad
def tyN (S : Sto) : W → Option String
  | .non => some "NoneType"
  | .bl _ => some "bool"
  | .int _ => some "int"
  | .str _ => some "str"
  | .tup _ => some "tuple"
  | .fl _ => some "list"
  | .ref n => match S[n]? with
    | some (.lst _) => some "list"
    | some (.dK _) => some "dict"
    | some (.dT _) => some "dict"
    | _ => none
  | _ => none
def isiM (xs : List W) : M W := match xs with
  | [x, .ty n] => fun S => match tyN S x with
    | some t => match kitB t n with
      | some b => .ok (.bl b) S
      | none => .bad
    | none => .bad
  | _ => bad
/-! methods -/
def tyM (T : String) (x : W) (S : Sto) : Bool := match x with
  | .str _ => T == "str"
  | .int _ => T == "int"
  | .fl _ => T == "list"
  | .ref n => match S[n]? with
    | some (.lst _) => T == "list"
    | some (.dK _) => T == "dict"
    | some (.dT _) => T == "dict"
    | _ => false
  | _ => false
def eM (T : String) (f : W → List W → M W) (o : Exp) (a : Arg) : Exp := fun s => bd (o s) fun x S => if tyM T x S = true then bd (a s) (f x) S else .bad
def appendM (x : W) (ys : List W) : M W := match x, ys with
  | .ref n, [y] => fun S => match S[n]? with
    | some (.lst xs) => if xs.length < sizeLine then .ok .non (S.set n (.lst (xs ++ [y]))) else .bad
    | _ => .bad
  | _, _ => bad
def popM (x : W) (ys : List W) : M W := match x, ys with
  | .ref n, [] => fun S => match S[n]? with
    | some (.lst xs) => match xs[xs.length - 1]? with
      | some y => .ok y (S.set n (.lst xs.dropLast))
      | none => .bad
    | _ => .bad
  | _, _ => bad
def reverseM (x : W) (ys : List W) : M W := match x, ys with
  | .ref n, [] => fun S => match S[n]? with
    | some (.lst xs) => .ok .non (S.set n (.lst xs.reverse))
    | _ => .bad
  | _, _ => bad
def splitM (x : W) (ys : List W) : M W := match x, ys with
  | .str a, [.str b] => if (b.length == 0) = false ∧ a.length + 2 ≤ sizeLine then new (.lst ((Txt.split a b).map .str)) else bad
  | _, _ => bad
def strsOf : List W → Option (List Str)
  | [] => some []
  | .str a :: ws => (strsOf ws).map (a :: ·)
  | _ => none
def itemsOf (S : Sto) : W → Option (List W)
  | .tup xs => some xs
  | w => getL S w
def joinM (x : W) (ys : List W) : M W := match x, ys with
  | .str a, [y] => fun S => match itemsOf S y with
    | some ws => match strsOf ws with
      | some zs => if (zs.map (·.length)).sum + zs.length * a.length ≤ 16777216 then .ok (.str (Txt.join a zs)) S else .bad
      | none => .bad
    | none => .bad
  | _, _ => bad
def indexSM (x : W) (ys : List W) : M W := match x, ys with
  | .str a, [.str b] => match Txt.index0 a b with
    | some k => rt (.int k)
    | none => bad
  | _, _ => bad
def startsM (x : W) (ys : List W) : M W := match x, ys with
  | .str a, [.str b] => rt (.bl (Txt.startswith a b))
  | _, _ => bad
def endsM (x : W) (ys : List W) : M W := match x, ys with
  | .str a, [.str b] => rt (.bl (Txt.endswith a b))
  | _, _ => bad

/-! ### they keep to the layer's rules -/
section
variable {K : PySem.W.Frag} {mg : Str → Option Value} {m : List Addr} {H : Hp} {S : Sto}
theorem getL_ok (s : Sim K mg m S H) {w : W} {v : V} {xs : List W} (r : RV K mg m H w v) (h : getL S w = some xs) : ∃ a vs, v = .ref a ∧ SqL K H a vs ∧ RVs K mg m H xs vs := by
  cases w with
  | ref n =>
    unfold getL at h
    simp only at h
    split at h
    · rename_i ys hn
      cases h
      obtain ⟨a, h1, vs, h2, h3⟩ := s.at hn
      unfold RV at r
      obtain ⟨a', h4, rfl⟩ := r
      rw [h1] at h4; cases h4
      exact ⟨a, vs, rfl, SqL.of h2, h3⟩
    · cases h
  | fl ys =>
    unfold getL at h
    cases h
    unfold RV at r
    obtain ⟨p, vs, rfl, h1, h2⟩ := r
    exact ⟨p, vs, rfl, h1.sq, h2⟩
  | _ => cases h
theorem lst_ok (s : Sim K mg m S H) {n : Nat} {v : V} {xs : List W} (r : RV K mg m H (.ref n) v) (h : S[n]? = some (.lst xs)) : ∃ a vs, m[n]? = some a ∧ v = .ref a ∧ H a = some (.lst vs) ∧ RVs K mg m H xs vs := by
  obtain ⟨a, h1, vs, h2, h3⟩ := s.at h
  unfold RV at r
  obtain ⟨a', h4, rfl⟩ := r
  rw [h1] at h4; cases h4
  exact ⟨a, vs, h1, rfl, h2, h3⟩
theorem rv_int {i : Int} {v : V} : RV K mg m H (.int i) v ↔ v = .int i := by unfold RV; exact Iff.rfl
theorem rv_str {i : Str} {v : V} : RV K mg m H (.str i) v ↔ v = .str i := by unfold RV; exact Iff.rfl
theorem rv_bl {i : Bool} {v : V} : RV K mg m H (.bl i) v ↔ v = .bl i := by unfold RV; exact Iff.rfl
theorem rv_non {v : V} : RV K mg m H .non v ↔ v = .non := by unfold RV; exact Iff.rfl
theorem rv_tup {xs : List W} {v : V} : RV K mg m H (.tup xs) v ↔ ∃ p vs, v = .ref p ∧ SqT K H p vs ∧ RVs K mg m H xs vs := by unfold RV; exact Iff.rfl
/-- an object changes -/
theorem WG.set {Q : VK} {E : XK} {n : Nat} {a : Addr} {vs vs' : List V} {xs' : List W} {w : W} {v : V} (g : WG K mg (RV K mg) (.ok w (S.set n (.lst xs'))) m H Q E) (s : Sim K mg m S H) (hm : m[n]? = some a) (hp : H a = some (.lst vs)) (r : RVs K mg m H xs' vs') (rw' : RV K mg m H w v) : Q v (upd H a (.lst vs')) := by
  have e : Ext m H m (upd H a (.lst vs')) := Ext.chg hp (fun _ z => nomatch z) (fun _ _ z => nomatch z)
  exact g m _ v e (s.chg hm hp (fun _ z => nomatch z) (fun _ _ z => nomatch z) ⟨vs', upd_same, r.mono e⟩) (rw'.mono e)
end
theorem foldl_rep_size (A : Array Nat) : ∀ (n : Nat) (acc : Array Nat), ((List.replicate n A).foldl (· ++ ·) acc).size = acc.size + n * A.size
  | 0, acc => by simp
  | n + 1, acc => by
    rw [List.replicate_succ, List.foldl_cons, foldl_rep_size A n, Array.size_append, Nat.succ_mul]
    omega
theorem strRep_length (a : Str) (n : Nat) : (strRep a n).length = n * a.length := by
  unfold strRep Str.length
  rw [foldl_rep_size]
  simp
theorem op_mulS {X : Cx} : OpR X (binaryOp .Mult) (fun x y H Q => ∃ a n, x = .str a ∧ y = .int n ∧ (2 ≤ n ∧ n ≤ 1000 ∧ 1 ≤ a.length ∧ a.length ≤ 1000) ∧ Q (.str (strRep a n.toNat)) H) := by
  intro pins s σ H x y v u Q I rx ry h
  obtain ⟨a, n, rfl, rfl, ⟨h1, h2, h3, h4⟩, q⟩ := h
  obtain ⟨t, rfl⟩ := rx
  obtain ⟨t', rfl⟩ := ry
  have e1 : (n == 1 || a.length == 0) = false := by
    have : n ≠ 1 := by omega
    have : a.length ≠ 0 := by omega
    simp [*]
  refine P.mul_str ?_ (fun _ _ => ?_) (fun _ _ => ?_) ?_
  · rw [decide_eq_false (by omega), decide_eq_false (by omega)]; rfl
  · intro hh
    have hn : (0 : Int) < n := by omega
    have h5 : ((2 : Int) ^ 63 - 1) / n ≥ 1000 := by
      refine Int.le_ediv_of_mul_le hn ?_
      have : (1000 : Int) * n ≤ 1000 * 1000 := by omega
      omega
    omega
  · have : a.length * n.toNat ≤ 1000 * 1000 := Nat.mul_le_mul h4 (by omega)
    have hs : sizeLine = 16777216 := sizeLine_eq
    unfold PySem.Builtin.Str.tooLong
    rw [hs]
    first | (simp only [decide_eq_false_iff_not]; omega) | (simp; omega)
  · rw [if_neg (by omega), e1, if_neg Bool.false_ne_true]
    refine ⟨?_, ⟨.str _, H, I.tok _, ⟨_, rfl⟩, q⟩⟩
    have hl := strRep_length a n.toNat
    have hs : sizeLine = 16777216 := sizeLine_eq
    have : n.toNat * a.length ≤ 1000 * 1000 := Nat.mul_le_mul (by omega) h4
    show (strRep a n.toNat).length ≤ sizeLine
    omega
end Fr

namespace Fr
open PySem PySem.Spec PyProof.Rows L2
section
variable {X : Cx}
def rAdd4 (K : PySem.W.Frag) : R2 := fun x y H Q => rI0 (fun i j => .int (i + j)) x y H Q ∨ (∃ i j, x = .str i ∧ y = .str j ∧ i.length + j.length ≤ sizeLine ∧ Q (.str (i ++ j)) H) ∨ rCatA K x y H Q ∨ rCat x y H Q
theorem op_add4 : OpR X (binaryOp .Add) (rAdd4 X.K) := op_add.or (op_add_str.or (op_catA.or op_cat))
theorem o_add : O2 X (rAdd4 X.K) addM := by
  intro x y S m H v u Q E sim r1 r2 w
  unfold addM at w
  split at w
  · exact .inl ⟨_, _, rv_int.1 r1, rv_int.1 r2, w.ok sim (rv_int.2 rfl)⟩
  · split at w
    · rename_i hl
      exact .inr (.inl ⟨_, _, rv_str.1 r1, rv_str.1 r2, hl, w.ok sim (rv_str.2 rfl)⟩)
    · exact False.elim w
  · split at w
    · rename_i a b hl
      obtain ⟨p, vs, rfl, h1, h2⟩ := rv_tup.1 r1
      obtain ⟨q, us, rfl, h3, h4⟩ := rv_tup.1 r2
      refine .inr (.inr (.inl ⟨p, q, vs, us, rfl, rfl, h1, h3, by rw [← h2.length, ← h4.length]; exact hl, fun e => ?_, fun _ e => ?_, fun _ _ k hk => ?_⟩))
      · refine w.ok sim (rv_tup.2 ⟨q, us, rfl, h3, ?_⟩)
        have h5 := h2.append h4
        rw [e] at h5; exact h5
      · refine w.ok sim (rv_tup.2 ⟨p, vs, rfl, h1, ?_⟩)
        have h5 := h2.append h4
        rw [e, List.append_nil] at h5; exact h5
      · exact w m _ _ (Ext.plain hk) (sim.plain hk) (rv_tup.2 ⟨k, _, rfl, .inl (.inl upd_same), (h2.append h4).mono (Ext.plain hk)⟩)
    · exact False.elim w
  · try simp only at w
    split at w
    · rename_i l r xs ys h1 h2
      split at w
      · rename_i hl
        obtain ⟨a, vs, _, rfl, h3, h4⟩ := lst_ok sim r1 h1
        obtain ⟨b, us, _, rfl, h5, h6⟩ := lst_ok sim r2 h2
        refine .inr (.inr (.inr ⟨a, b, vs, us, rfl, rfl, h3, h5, by rw [← h4.length, ← h6.length]; exact hl, fun p hp => ?_⟩))
        exact w.new sim hp ⟨_, upd_same, (h4.append h6).mono (Ext.new hp)⟩
      · exact False.elim w
    · exact False.elim w
  · exact False.elim w
theorem o_sub : O2 X (rI0 fun i j => .int (i - j)) subM := by
  intro x y S m H v u Q E sim r1 r2 w
  unfold subM at w
  split at w
  · exact ⟨_, _, rv_int.1 r1, rv_int.1 r2, w.ok sim (rv_int.2 rfl)⟩
  · exact False.elim w
def rMul3 : R2 := fun x y H Q => rI CMul (fun i j => .int (i * j)) x y H Q ∨ (∃ a n, x = .str a ∧ y = .int n ∧ (2 ≤ n ∧ n ≤ 1000 ∧ 1 ≤ a.length ∧ a.length ≤ 1000) ∧ Q (.str (strRep a n.toNat)) H) ∨ rRep x y H Q
theorem op_mul3 : OpR X (binaryOp .Mult) rMul3 := op_mul.or (op_mulS.or op_rep)
theorem o_mul : O2 X rMul3 mulM := by
  intro x y S m H v u Q E sim r1 r2 w
  unfold mulM at w
  split at w
  · split at w
    · rename_i h; exact .inl ⟨_, _, rv_int.1 r1, rv_int.1 r2, (Bool.or_eq_true_iff.mp h).imp inR64 inR64, w.ok sim (rv_int.2 rfl)⟩
    · exact False.elim w
  · split at w
    · rename_i h; exact .inr (.inl ⟨_, _, rv_str.1 r1, rv_int.1 r2, h, w.ok sim (rv_str.2 rfl)⟩)
    · exact False.elim w
  · try simp only at w
    split at w
    · rename_i l r xs h1
      split at w
      · rename_i hl
        obtain ⟨a, vs, _, rfl, h3, h4⟩ := lst_ok sim r1 h1
        exact .inr (.inr ⟨a, _, vs, rfl, rv_int.1 r2, h3, (inR63 hl.1).1, (inR63 hl.1).2, by rw [← h4.length]; exact hl.2, fun p hp => w.new sim hp ⟨_, upd_same, (h4.rep _).mono (Ext.new hp)⟩⟩)
      · exact False.elim w
    · exact False.elim w
  · exact False.elim w
theorem o_mod : O2 X (rI (fun _ j => j ≠ 0) fun i j => .int (i.fmod j)) modM := by
  intro x y S m H v u Q E sim r1 r2 w
  unfold modM at w
  split at w
  · split at w
    · rename_i h; exact ⟨_, _, rv_int.1 r1, rv_int.1 r2, h, w.ok sim (rv_int.2 rfl)⟩
    · exact False.elim w
  · exact False.elim w
theorem o_fdiv : O2 X (rI CDivN fun i j => .int (i.fdiv j)) fdivM := by
  intro x y S m H v u Q E sim r1 r2 w
  unfold fdivM at w
  split at w
  · split at w
    · rename_i h; exact ⟨_, _, rv_int.1 r1, rv_int.1 r2, h, w.ok sim (rv_int.2 rfl)⟩
    · exact False.elim w
  · exact False.elim w
theorem o_pow : O2 X (rI CPow fun i j => .int (i ^ j.toNat)) powM := by
  intro x y S m H v u Q E sim r1 r2 w
  unfold powM at w
  split at w
  · split at w
    · rename_i h; exact ⟨_, _, rv_int.1 r1, rv_int.1 r2, h, w.ok sim (rv_int.2 rfl)⟩
    · exact False.elim w
  · exact False.elim w
theorem o_shr : O2 X (rI (fun _ j => 0 ≤ j) fun i j => .int (i / 2 ^ j.toNat)) shrM := by
  intro x y S m H v u Q E sim r1 r2 w
  unfold shrM at w
  split at w
  · split at w
    · rename_i h; exact ⟨_, _, rv_int.1 r1, rv_int.1 r2, h, w.ok sim (rv_int.2 rfl)⟩
    · exact False.elim w
  · exact False.elim w
theorem o_band : O2 X (rI0 fun i j => .int (Builtin.bitAnd i j)) bandM := by
  intro x y S m H v u Q E sim r1 r2 w
  unfold bandM at w
  split at w
  · exact ⟨_, _, rv_int.1 r1, rv_int.1 r2, w.ok sim (rv_int.2 rfl)⟩
  · exact False.elim w
theorem o_neg : O1 X (rU fun i => .int (-i)) negM := by
  intro x S m H v Q E sim r1 w
  unfold negM at w
  split at w
  · exact ⟨_, rv_int.1 r1, w.ok sim (rv_int.2 rfl)⟩
  · exact False.elim w
theorem o_lt : O2 X (rI0 fun i j => .bl (decide (i < j))) ltM := by
  intro x y S m H v u Q E sim r1 r2 w
  unfold ltM at w
  split at w
  · exact ⟨_, _, rv_int.1 r1, rv_int.1 r2, w.ok sim (rv_bl.2 rfl)⟩
  · exact False.elim w
theorem o_le : O2 X (rI0 fun i j => .bl (decide (i ≤ j))) leM := by
  intro x y S m H v u Q E sim r1 r2 w
  unfold leM at w
  split at w
  · exact ⟨_, _, rv_int.1 r1, rv_int.1 r2, w.ok sim (rv_bl.2 rfl)⟩
  · exact False.elim w
theorem o_gt : O2 X (rI0 fun i j => .bl (decide (j < i))) gtM := by
  intro x y S m H v u Q E sim r1 r2 w
  unfold gtM at w
  split at w
  · exact ⟨_, _, rv_int.1 r1, rv_int.1 r2, w.ok sim (rv_bl.2 rfl)⟩
  · exact False.elim w
theorem o_ge : O2 X (rI0 fun i j => .bl (decide (j ≤ i))) geM := by
  intro x y S m H v u Q E sim r1 r2 w
  unfold geM at w
  split at w
  · exact ⟨_, _, rv_int.1 r1, rv_int.1 r2, w.ok sim (rv_bl.2 rfl)⟩
  · exact False.elim w
/-! == -/
theorem eqW_ok {K : PySem.W.Frag} {mg : Str → Option Value} {m : List Addr} {H : Hp} {x y : W} {v u : V} {b : Bool} (r1 : RV K mg m H x v) (r2 : RV K mg m H y u) (h : eqW x y = some b) : scal v u = true ∧ b = decide (v = u) := by
  cases x <;> cases y <;> simp only [eqW] at h <;> first | (cases h; done) | skip
  all_goals (try simp only [rv_int, rv_str, rv_bl, rv_non] at r1 r2)
  all_goals (subst r1; subst r2; cases h; refine ⟨rfl, ?_⟩; first | rfl | simp)
theorem allD_ok {K : PySem.W.Frag} {mg : Str → Option Value} {m : List Addr} {H : Hp} {f : W → Option PyData} (hf : ∀ w v d, RV K mg m H w v → f w = some d → Dp K H v d) : ∀ {ws : List W} {vs : List V} {ds : List PyData}, RVs K mg m H ws vs → allD f ws = some ds → DpAll K H vs ds
  | [], _, _, r, h => by rw [r.nil_inv]; cases h; exact .nil
  | w :: ws, _, _, r, h => by
    obtain ⟨v, vr, rfl, r1, r2⟩ := r.uncons
    unfold allD at h
    split at h
    · rename_i d ds h1 h2
      cases h
      exact .cons (hf _ _ _ r1 h1) (allD_ok hf r2 h2)
    · cases h
theorem toD_ok {K : PySem.W.Frag} {mg : Str → Option Value} {m : List Addr} {H : Hp} {S : Sto} (s : Sim K mg m S H) : ∀ (n : Nat) (w : W) (v : V) (d : PyData), RV K mg m H w v → toD S n w = some d → Dp K H v d
  | 0, _, _, _, _, h => by cases h
  | n + 1, w, v, d, r, h => by
    unfold toD at h
    have ih := toD_ok s n
    cases w with
    | non => cases h; rw [rv_non.1 r]; exact .non
    | bl b => cases h; rw [rv_bl.1 r]; exact .bl b
    | int i => cases h; rw [rv_int.1 r]; exact .int i
    | str x => cases h; rw [rv_str.1 r]; exact .str x
    | tup xs =>
      obtain ⟨p, vs, rfl, h1, h2⟩ := rv_tup.1 r
      simp only at h
      cases ha : allD (toD S n) xs with
      | none => rw [ha] at h; cases h
      | some ds => rw [ha] at h; cases h; exact .tup h1 (allD_ok ih h2 ha)
    | fl xs =>
      unfold RV at r
      obtain ⟨p, vs, rfl, h1, h2⟩ := r
      simp only at h
      cases ha : allD (toD S n) xs with
      | none => rw [ha] at h; cases h
      | some ds => rw [ha] at h; cases h; exact .lst h1.sq (allD_ok ih h2 ha)
    | ref k =>
      simp only at h
      split at h
      · rename_i xs hk
        obtain ⟨a, vs, _, rfl, h1, h2⟩ := lst_ok s r hk
        cases ha : allD (toD S n) xs with
        | none => rw [ha] at h; cases h
        | some ds => rw [ha] at h; cases h; exact .lst (SqL.of h1) (allD_ok ih h2 ha)
      · cases h
    | _ => cases h
def rEq2 (K : PySem.W.Frag) : R2 := fun x y H Q => rEq x y H Q ∨ rEqD K x y H Q
def rNe2 (K : PySem.W.Frag) : R2 := fun x y H Q => rNe x y H Q ∨ rNeD K x y H Q
theorem op_eq2 (hu : X.A.units + 64 < cLine) : OpR X (compareOp .Eq) (rEq2 X.K) := op_eq.or (op_eqD hu)
theorem op_ne2 (hu : X.A.units + 64 < cLine) : OpR X (compareOp .NotEq) (rNe2 X.K) := op_ne.or (op_neD hu)
theorem o_eq : O2 X (rEq2 X.K) eqM := by
  intro x y S m H v u Q E sim r1 r2 w
  unfold eqM at w
  cases hb : eqW x y with
  | some b =>
    rw [hb] at w
    obtain ⟨h1, h2⟩ := eqW_ok r1 r2 hb
    exact .inl ⟨h1, w.ok sim (rv_bl.2 (by rw [h2]))⟩
  | none =>
    rw [hb] at w
    try simp only at w
    split at w
    · rename_i d e hd he
      split at w
      · rename_i hs
        simp only [Bool.and_eq_true] at hs
        exact .inr ⟨d, e, toD_ok sim _ _ _ _ r1 hd, toD_ok sim _ _ _ _ r2 he, hs.1, hs.2, w.ok sim (rv_bl.2 rfl)⟩
      · exact False.elim w
    · exact False.elim w
theorem o_ne : O2 X (rNe2 X.K) neM := by
  intro x y S m H v u Q E sim r1 r2 w
  unfold neM at w
  cases hb : eqW x y with
  | some b =>
    rw [hb] at w
    obtain ⟨h1, h2⟩ := eqW_ok r1 r2 hb
    exact .inl ⟨h1, w.ok sim (rv_bl.2 (by rw [h2]))⟩
  | none =>
    rw [hb] at w
    try simp only at w
    split at w
    · rename_i d e hd he
      split at w
      · rename_i hs
        simp only [Bool.and_eq_true] at hs
        exact .inr ⟨d, e, toD_ok sim _ _ _ _ r1 hd, toD_ok sim _ _ _ _ r2 he, hs.1, hs.2, w.ok sim (rv_bl.2 rfl)⟩
      · exact False.elim w
    · exact False.elim w
theorem rv_ne_non {K : PySem.W.Frag} {mg : Str → Option Value} {m : List Addr} {H : Hp} {x : W} {v : V} (r : RV K mg m H x v) (h : x ≠ .non) : v ≠ .non := by
  intro e
  subst e
  cases x with
  | non => exact h rfl
  | bl b => cases rv_bl.1 r
  | int b => cases rv_int.1 r
  | str b => cases rv_str.1 r
  | tup xs => obtain ⟨p, vs, e, _⟩ := rv_tup.1 r; cases e
  | fl xs => unfold RV at r; obtain ⟨p, vs, e, _⟩ := r; cases e
  | ref n => unfold RV at r; obtain ⟨a, _, e⟩ := r; cases e
  | gl n => unfold RV at r; obtain ⟨a, _, e⟩ := r; cases e
  | ty n => unfold RV at r; cases r
theorem o_is : O2 X (fun x y H Q => y = .non ∧ Q (.bl (decide (x = .non))) H) isM := by
  intro x y S m H v u Q E sim r1 r2 w
  unfold isM at w
  split at w
  · exact ⟨rv_non.1 r2, w.ok sim (rv_bl.2 (by rw [rv_non.1 r1]; rfl))⟩
  · rename_i h
    exact ⟨rv_non.1 r2, w.ok sim (rv_bl.2 (by rw [decide_eq_false (rv_ne_non r1 h)]))⟩
  · exact False.elim w
theorem o_isNot : O2 X (fun x y H Q => y = .non ∧ Q (.bl (!decide (x = .non))) H) isNotM := by
  intro x y S m H v u Q E sim r1 r2 w
  unfold isNotM at w
  split at w
  · exact ⟨rv_non.1 r2, w.ok sim (rv_bl.2 (by rw [rv_non.1 r1]; rfl))⟩
  · rename_i h
    exact ⟨rv_non.1 r2, w.ok sim (rv_bl.2 (by rw [decide_eq_false (rv_ne_non r1 h)]; rfl))⟩
  · exact False.elim w
theorem o_in : O2 X (fun x y H Q => ∃ i j, x = .str i ∧ y = .str j ∧ Q (.bl (!(Builtin.Str.occurrences j i 0 j.length 1).isEmpty)) H) inM := by
  intro x y S m H v u Q E sim r1 r2 w
  unfold inM at w
  split at w
  · exact ⟨_, _, rv_str.1 r1, rv_str.1 r2, w.ok sim (rv_bl.2 rfl)⟩
  · exact False.elim w
theorem o_notIn : O2 X (fun x y H Q => ∃ i j, x = .str i ∧ y = .str j ∧ Q (.bl (!(!(Builtin.Str.occurrences j i 0 j.length 1).isEmpty))) H) notInM := by
  intro x y S m H v u Q E sim r1 r2 w
  unfold notInM at w
  split at w
  · exact ⟨_, _, rv_str.1 r1, rv_str.1 r2, w.ok sim (rv_bl.2 rfl)⟩
  · exact False.elim w
/-! subscripts and slices -/
theorem RVs.atI {K : PySem.W.Frag} {mg : Str → Option Value} {m : List Addr} {H : Hp} {ws : List W} {vs : List V} {i : Int} {w : W} (r : RVs K mg m H ws vs) (h : L2.atI ws i = some w) : ∃ v, L2.atI vs i = some v ∧ RV K mg m H w v := by
  unfold L2.atI at h ⊢
  rw [← r.length]
  cases hi : ixN ws.length i with
  | none => rw [hi] at h; cases h
  | some j => rw [hi] at h; exact r.get h
theorem o_ix : O2 X (rIx X.K) ixM := by
  intro x y S m H v u Q E sim r1 r2 w
  unfold ixM at w
  split at w
  · rename_i xs i
    cases hw : L2.atI xs i with
    | some z0 =>
      rw [hw] at w
      obtain ⟨p, vs, rfl, h1, h2⟩ := rv_tup.1 r1
      obtain ⟨z, h3, h4⟩ := h2.atI hw
      exact .inr (.inl ⟨p, vs, _, z, rfl, rv_int.1 r2, h1, h3, w.ok sim h4⟩)
    | none => rw [hw] at w; exact False.elim w
  · rename_i xs i
    cases hw : L2.atI xs i with
    | some z0 =>
      rw [hw] at w
      unfold RV at r1
      obtain ⟨p, vs, rfl, h1, h2⟩ := r1
      obtain ⟨z, h3, h4⟩ := h2.atI hw
      exact .inl ⟨p, vs, _, z, rfl, rv_int.1 r2, h1.sq, h3, w.ok sim h4⟩
    | none => rw [hw] at w; exact False.elim w
  · rename_i z i
    split at w
    · rename_i hl
      cases hw : L2.atI z.cps.toList i with
      | some z0 =>
        rw [hw] at w
        exact .inr (.inr ⟨_, _, _, rv_str.1 r1, rv_int.1 r2, hl, hw, w.ok sim (by unfold chr1; exact rv_str.2 rfl)⟩)
      | none => rw [hw] at w; exact False.elim w
    · exact False.elim w
  · try simp only at w
    split at w
    · rename_i xs hn
      split at w
      · rename_i hw
        obtain ⟨a, vs, _, rfl, h1, h2⟩ := lst_ok sim r1 hn
        obtain ⟨z, h3, h4⟩ := h2.atI hw
        exact .inl ⟨a, vs, _, z, rfl, rv_int.1 r2, SqL.of h1, h3, w.ok sim h4⟩
      · exact False.elim w
    · exact False.elim w
  · exact False.elim w
variable {C : Cc} {a b : Expr} {es : List Expr} {fa fb : Exp} {fr : Arg} {pos p2 : Pos}
theorem se_ix (ha : SE X C a fa) (hb : SE X C b fb) (hs : PlainIx b := by exact fun _ _ => rfl) : SE X C (.Subscript a b pos) (eOp ixM fa fb) := by
  refine PE.imp (pe_ix ix_seq ha hb hs) fun s' H Q h => ?_
  refine tG.bind h fun m1 S1 s H1 x v z s1 l1 r1 w1 => ?_
  exact ⟨m1, S1, s, z, s1, l1, w1.bind fun y S2 m2 H2 u e2 s2 r2 w2 => o_ix x y S2 m2 H2 v u Q _ s2 (r1.mono e2) r2 w2⟩
abbrev SO (X : Cx) (C : Cc) (e : Option Expr) (f : Sl → M (Option Int)) : Prop := PO X e (tG X.K X.mg eqR C f)
def oNone : Sl → M (Option Int) := fun _ => rt none
def oSome (f : Exp) : Sl → M (Option Int) := fun s => bd (f s) fun x => match x with
  | .int i => rt (some i)
  | _ => bad
theorem PO.imp {e : Option Expr} {t t' : TO} (h : PO X e t) (k : ∀ s H Q, t' s H Q → t s H Q) : PO X e t' := ⟨fun pins s σ H Q I q => h.run pins s σ H Q I (k _ _ _ q)⟩
theorem so_none : SO X C none oNone := by
  refine PO.imp po_none fun s' H Q h => ?_
  obtain ⟨m, S, s, z, sim, sl, w⟩ := h
  exact w.ok sim rfl
theorem so_some (ha : SE X C a fa) : SO X C (some a) (oSome fa) := by
  refine PO.imp (po_some ha) fun s' H Q h => ?_
  refine tG.bind h fun m1 S1 s H1 x v z s1 l1 r1 w1 => ?_
  cases x with
  | int i => exact ⟨i, rv_int.1 r1, w1.ok s1 rfl⟩
  | _ => exact False.elim w1
def eSl (f : Exp) (lo hi : Sl → M (Option Int)) : Exp := fun s => bd (f s) fun x => bd (lo s) fun l => bd (hi s) fun u => slM x l u
theorem RVs.cut {K : PySem.W.Frag} {mg : Str → Option Value} {m : List Addr} {H : Hp} {ws : List W} {vs : List V} (lo hi : Option Int) (r : RVs K mg m H ws vs) : RVs K mg m H (cutW ws lo hi) (cutV vs lo hi) := by
  unfold cutW cutV
  rw [← r.length]
  exact (r.drop _).take _
theorem se_slice {lo hi : Option Expr} {fl fh : Sl → M (Option Int)} (ha : SE X C a fa) (hl : SO X C lo fl) (hh : SO X C hi fh) : SE X C (.Subscript a (.Slice lo hi none p2) pos) (eSl fa fl fh) := by
  refine PE.imp (pe_slice (sl_str.or (sl_list.or sl_tupA)) ha hl hh) fun s' H Q h => ?_
  refine tG.bind h fun m1 S1 s H1 x v z s1 l1 r1 w1 => ?_
  refine ⟨m1, S1, s, z, s1, l1, w1.bind fun y S2 m2 H2 u e2 s2 r2 w2 => ?_⟩
  refine ⟨m2, S2, s, z, s2, l1.mono e2, w2.bind fun y3 S3 m3 H3 u3 e3 s3 r3 w3 => ?_⟩
  cases r2
  cases r3
  have rx := (r1.mono e2).mono e3
  unfold slM at w3
  split at w3
  · split at w3
    · rename_i hz; exact .inl ⟨_, rv_str.1 rx, hz, w3.ok s3 (rv_str.2 rfl)⟩
    · exact False.elim w3
  · obtain ⟨p, vs, rfl, h1, h2⟩ := rv_tup.1 rx
    refine .inr (.inr ⟨p, vs, rfl, h1, fun hw => ?_, fun _ q hq => ?_⟩)
    · refine w3.ok s3 (rv_tup.2 ⟨p, vs, rfl, h1, ?_⟩)
      have h3 := h2.cut y y3
      have e : cutV vs y y3 = vs := by
        unfold cutV
        rw [hw.1, hw.2]
        simp
      rw [e] at h3
      exact h3
    · exact w3 m3 _ _ (Ext.plain hq) (s3.plain hq) (rv_tup.2 ⟨q, _, rfl, .inl (.inl upd_same), (h2.cut y y3).mono (Ext.plain hq)⟩)
  · unfold RV at rx
    obtain ⟨p, vs, rfl, h1, h2⟩ := rx
    exact .inr (.inl ⟨p, vs, rfl, h1.sq, fun q hq => w3.new s3 hq ⟨_, upd_same, (h2.cut y y3).mono (Ext.new hq)⟩⟩)
  · try simp only at w3
    split at w3
    · rename_i xs hn
      obtain ⟨p, vs, _, rfl, h1, h2⟩ := lst_ok s3 rx hn
      exact .inr (.inl ⟨p, vs, rfl, SqL.of h1, fun q hq => w3.new s3 hq ⟨_, upd_same, (h2.cut y y3).mono (Ext.new hq)⟩⟩)
    · exact False.elim w3
  · exact False.elim w3
end
end Fr

namespace Fr
open PySem PySem.Spec PyProof.Rows L2
section
variable {X : Cx}
theorem RVs.one {K : PySem.W.Frag} {mg : Str → Option Value} {m : List Addr} {H : Hp} {w : W} {vs : List V} (r : RVs K mg m H [w] vs) : ∃ v, vs = [v] ∧ RV K mg m H w v := by
  obtain ⟨v, t, rfl, h1, h2⟩ := r.uncons
  rw [h2.nil_inv]
  exact ⟨v, rfl, h1⟩
theorem RVs.two {K : PySem.W.Frag} {mg : Str → Option Value} {m : List Addr} {H : Hp} {w w2 : W} {vs : List V} (r : RVs K mg m H [w, w2] vs) : ∃ v v2, vs = [v, v2] ∧ RV K mg m H w v ∧ RV K mg m H w2 v2 := by
  obtain ⟨v, t, rfl, h1, h2⟩ := r.uncons
  obtain ⟨v2, rfl, h3⟩ := h2.one
  exact ⟨v, v2, rfl, h1, h3⟩
def rLen (K : PySem.W.Frag) : List V → Hp → VK → Prop := fun xs H Q => ∃ x n, xs = [x] ∧ LenV K x H n ∧ Q (.int n) H
theorem cr_len : CallR X (.builtin "len") (rLen X.K) := call_len
theorem o_len : OC X (rLen X.K) lenM := by
  intro x S m H v Q E sim r w
  unfold lenM at w
  split at w
  · split at w
    · rename_i hl
      obtain ⟨v1, rfl, h1⟩ := r.one
      rw [rv_str.1 h1]
      exact ⟨_, _, rfl, ⟨hl, rfl⟩, w.ok sim (rv_int.2 rfl)⟩
    · exact False.elim w
  · obtain ⟨v1, rfl, h1⟩ := r.one
    obtain ⟨p, vs, rfl, h2, h3⟩ := rv_tup.1 h1
    exact ⟨_, _, rfl, .inr ⟨vs, h2, rfl⟩, w.ok sim (rv_int.2 (by rw [h3.length]))⟩
  · obtain ⟨v1, rfl, h1⟩ := r.one
    unfold RV at h1
    obtain ⟨p, vs, rfl, h2, h3⟩ := h1
    exact ⟨_, _, rfl, .inl ⟨vs, h2.sq, rfl⟩, w.ok sim (rv_int.2 (by rw [h3.length]))⟩
  · try simp only at w
    split at w
    · rename_i ys hn
      obtain ⟨v1, rfl, h1⟩ := r.one
      obtain ⟨p, vs, _, rfl, h2, h3⟩ := lst_ok sim h1 hn
      exact ⟨_, _, rfl, .inl ⟨vs, SqL.of h2, rfl⟩, w.ok sim (rv_int.2 (by rw [h3.length]))⟩
    · exact False.elim w
  · exact False.elim w
def rInt3 : List V → Hp → VK → Prop := fun xs H Q => ((∃ i, xs = [.int i] ∧ Q (.int i) H) ∨ ∃ k, xs = [.bl k] ∧ Q (.int (if k then 1 else 0)) H) ∨ ∃ a n, xs = [.str a] ∧ PySem.intText? a = some n ∧ a.length ≤ 640 ∧ Q (.int n) H
theorem cr_int : CallR X (.type "int") rInt3 := call_int1.or call_int_str
theorem o_int : OC X rInt3 intM := by
  intro x S m H v Q E sim r w
  unfold intM at w
  split at w
  · obtain ⟨v1, rfl, h1⟩ := r.one
    rw [rv_int.1 h1]
    exact .inl (.inl ⟨_, rfl, w.ok sim (rv_int.2 rfl)⟩)
  · obtain ⟨v1, rfl, h1⟩ := r.one
    rw [rv_bl.1 h1]
    exact .inl (.inr ⟨_, rfl, w.ok sim (rv_int.2 rfl)⟩)
  · rename_i a
    obtain ⟨v1, rfl, h1⟩ := r.one
    rw [rv_str.1 h1]
    cases hn : PySem.intText? a with
    | none => rw [hn] at w; exact False.elim w
    | some n =>
      rw [hn] at w
      dsimp only at w
      split at w
      · rename_i hl
        exact .inr ⟨a, n, rfl, hn, hl, w.ok sim (rv_int.2 rfl)⟩
      · exact False.elim w
  · exact False.elim w
theorem tyN_ok {K : PySem.W.Frag} {mg : Str → Option Value} {m : List Addr} {H : Hp} {S : Sto} (s : Sim K mg m S H) {w : W} {v : V} {t : String} (r : RV K mg m H w v) (h : tyN S w = some t) : TyX K H v (.type t) := by
  cases w with
  | non => cases h; rw [rv_non.1 r]; exact .base .non
  | bl b => cases h; rw [rv_bl.1 r]; exact .base (.bl b)
  | int b => cases h; rw [rv_int.1 r]; exact .base (.int b)
  | str b => cases h; rw [rv_str.1 r]; exact .base (.str b)
  | tup xs =>
    cases h
    obtain ⟨p, vs, rfl, h1, h2⟩ := rv_tup.1 r
    rcases h1 with (h1 | ⟨o, h1⟩) | ⟨o, its, n, h1, h2, _⟩
    · exact .base (.tup h1)
    · exact .fTuple h1
    · exact .kTuple h1 h2
  | fl xs =>
    cases h
    unfold RV at r
    obtain ⟨p, vs, rfl, h1, h2⟩ := r
    rcases h1 with ⟨o, h1⟩ | ⟨o, its, n, h1, h2, _⟩
    · exact .base (.frz h1)
    · exact .kList h1 h2
  | ref n =>
    unfold tyN at h
    dsimp only at h
    unfold RV at r
    obtain ⟨a, h4, rfl⟩ := r
    split at h
    · rename_i xs hn
      cases h
      obtain ⟨a', h1, vs, h2, h3⟩ := s.at hn
      rw [h4] at h1; cases h1
      exact .base (.lst h2)
    · rename_i xs hn
      cases h
      obtain ⟨a', h1, vs, h2, h3⟩ := s.at hn
      rw [h4] at h1; cases h1
      exact .base (.dK h2)
    · rename_i xs hn
      cases h
      obtain ⟨a', h1, vs, h2, h3⟩ := s.at hn
      rw [h4] at h1; cases h1
      exact .base (.dT h2)
    · cases h
  | _ => cases h
theorem o_isi : OC X (rIsi X.K) isiM := by
  intro x S m H v Q E sim r w
  unfold isiM at w
  split at w
  · rename_i y n
    obtain ⟨v1, v2, rfl, h1, h2⟩ := r.two
    unfold RV at h2
    subst h2
    try dsimp only at w
    cases ht : tyN S y with
    | none => rw [ht] at w; exact False.elim w
    | some t =>
      rw [ht] at w
      dsimp only at w
      cases hk : kitB t n with
      | none => rw [hk] at w; exact False.elim w
      | some b =>
        rw [hk] at w
        exact ⟨v1, .ty n, .type t, .type n, b, rfl, .ty n, tyN_ok sim h1 ht, kit_ty hk, w.ok sim (rv_bl.2 rfl)⟩
  · exact False.elim w
/-! ### methods of built-in types -/
theorem tyM_ok {K : PySem.W.Frag} {mg : Str → Option Value} {m : List Addr} {H : Hp} {S : Sto} (s : Sim K mg m S H) {w : W} {v : V} {T : String} (r : RV K mg m H w v) (h : tyM T w S = true) : tyV K T v H := by
  cases w with
  | str b => rw [rv_str.1 r]; exact beq_iff_eq.mp h
  | int b => rw [rv_int.1 r]; exact beq_iff_eq.mp h
  | fl xs =>
    unfold RV at r
    obtain ⟨p, vs, rfl, h1, h2⟩ := r
    exact .inl ⟨beq_iff_eq.mp h, vs, h1.sq⟩
  | ref n =>
    unfold tyM at h
    dsimp only at h
    unfold RV at r
    obtain ⟨a, h4, rfl⟩ := r
    split at h
    · rename_i xs hn
      obtain ⟨a', h1, vs, h2, h3⟩ := s.at hn
      rw [h4] at h1; cases h1
      exact .inl ⟨beq_iff_eq.mp h, vs, SqL.of h2⟩
    · rename_i xs hn
      obtain ⟨a', h1, vs, h2, h3⟩ := s.at hn
      rw [h4] at h1; cases h1
      exact .inr (.inr (.inl ⟨beq_iff_eq.mp h, .inl ⟨vs, h2⟩⟩))
    · rename_i xs hn
      obtain ⟨a', h1, vs, h2, h3⟩ := s.at hn
      rw [h4] at h1; cases h1
      exact .inr (.inr (.inl ⟨beq_iff_eq.mp h, .inr ⟨vs, h2⟩⟩))
    · cases h
  | _ => cases h
def OM (X : Cx) (r : V → List V → Hp → VK → Prop) (f : W → List W → M W) : Prop := ∀ x xs S m H v vs Q E, Sim X.K X.mg m S H → RV X.K X.mg m H x v → RVs X.K X.mg m H xs vs → WG X.K X.mg (RV X.K X.mg) (f x xs S) m H Q E → r v vs H Q
variable {C : Cc} {a b e o : Expr} {es : List Expr} {fa fb fo : Exp} {fr : Arg} {pos p2 apos cpos : Pos} {name : Str} {T id : String} {r : V → List V → Hp → VK → Prop} {f : W → List W → M W}
theorem se_m0 (hm : MtR X id r) (hf : OM X r f) (pa : PlainAttrs T) (slot : Slot T name id) (hty : typeOf (.builtin id) = pure (.type "method_descriptor")) (ho : SE X C o fo)
    (hbase : attributeBase o name X.env (eval o X.env) = eval o X.env := by rfl) (hline : (apos.endLine == cpos.line) = true := by rfl) : SE X C (.Call (.Attribute o name apos) [] [] cpos) (eM T f fo aNil) := by
  refine PE.imp (pe_bm0 pa slot hty hm ho hbase hline) fun s' H Q h => ?_
  refine tG.bind h fun m1 S1 s H1 x v z s1 l1 r1 w1 => ?_
  split at w1
  · rename_i ht
    exact ⟨tyM_ok s1 r1 ht, hf x [] S1 m1 H1 v [] Q _ s1 r1 .nil w1⟩
  · exact False.elim w1
theorem se_m (hm : MtR X id r) (hf : OM X r f) (pa : PlainAttrs T) (slot : Slot T name id) (hty : typeOf (.builtin id) = pure (.type "method_descriptor")) (ho : SE X C o fo) (ha : SA X C (e :: es) fr)
    (hbase : attributeBase o name X.env (eval o X.env) = eval o X.env := by rfl)
    (hfew : ((backTo cpos (starEach (e :: es) X.env)).all (fun x => !x.1) && (backToKw cpos (keywordEach [] X.env)).all (fun x => x.1.isSome)
      && decide ((e :: es).length + ([] : List Keyword).length + (if ([] : List Keyword).isEmpty then 0 else 1) < 30)) = true := by rfl)
    (hline : (apos.endLine == cpos.line) = true := by rfl) (hs : starEach (e :: es) X.env = (false, eval e X.env) :: starEach es X.env := by rfl) (hplain : (backTo cpos (starEach es X.env)).any (·.1) = false := by rfl) :
    SE X C (.Call (.Attribute o name apos) (e :: es) [] cpos) (eM T f fo fr) := by
  refine PE.imp (pe_bm pa slot hty hm ho ha hbase hfew hline hs hplain) fun s' H Q h => ?_
  refine tG.bind h fun m1 S1 s H1 x v z s1 l1 r1 w1 => ?_
  split at w1
  · rename_i ht
    exact ⟨tyM_ok s1 r1 ht, m1, S1, s, z, s1, l1, w1.bind fun ys S2 m2 H2 vs e2 s2 r2 w2 => hf x ys S2 m2 H2 v vs Q _ s2 (r1.mono e2) r2 w2⟩
  · exact False.elim w1
theorem o_append : OM X rAppend appendM := by
  intro x xs S m H v vs Q E sim r1 r2 w
  unfold appendM at w
  split at w
  · try dsimp only at w
    split at w
    · rename_i ys hn
      split at w
      · rename_i hl
        obtain ⟨p, us, h0, rfl, h2, h3⟩ := lst_ok sim r1 hn
        obtain ⟨v1, rfl, h4⟩ := r2.one
        exact ⟨p, us, v1, rfl, rfl, h2, by rw [← h3.length]; exact hl, w.set sim h0 h2 (h3.append (.cons h4 .nil)) (rv_non.2 rfl)⟩
      · exact False.elim w
    · exact False.elim w
  · exact False.elim w
theorem o_pop : OM X rPop popM := by
  intro x xs S m H v vs Q E sim r1 r2 w
  unfold popM at w
  split at w
  · try dsimp only at w
    split at w
    · rename_i ys hn
      split at w
      · rename_i y hy
        obtain ⟨p, us, h0, rfl, h2, h3⟩ := lst_ok sim r1 hn
        obtain ⟨u, h4, h5⟩ := h3.get hy
        exact ⟨p, us, u, rfl, r2.nil_inv, h2, by rw [← h3.length]; exact h4, w.set sim h0 h2 h3.dropLast h5⟩
      · exact False.elim w
    · exact False.elim w
  · exact False.elim w
theorem o_reverse : OM X rReverse reverseM := by
  intro x xs S m H v vs Q E sim r1 r2 w
  unfold reverseM at w
  split at w
  · try dsimp only at w
    split at w
    · rename_i ys hn
      obtain ⟨p, us, h0, rfl, h2, h3⟩ := lst_ok sim r1 hn
      exact ⟨p, us, rfl, r2.nil_inv, h2, w.set sim h0 h2 h3.reverse (rv_non.2 rfl)⟩
    · exact False.elim w
  · exact False.elim w
def rSplit : V → List V → Hp → VK → Prop := fun x xs H Q => ∃ a b, x = .str a ∧ xs = [.str b] ∧ (b.length == 0) = false ∧ a.length + 2 ≤ sizeLine ∧ rNewStrs (Txt.split a b) H Q
theorem m_split : MtR X "str.split" rSplit := mt_split
theorem o_split : OM X rSplit splitM := by
  intro x xs S m H v vs Q E sim r1 r2 w
  unfold splitM at w
  split at w
  · split at w
    · rename_i hc
      obtain ⟨v1, rfl, h4⟩ := r2.one
      refine ⟨_, _, rv_str.1 r1, by rw [rv_str.1 h4], hc.1, hc.2, fun p hp => ?_⟩
      exact w.new sim hp ⟨_, upd_same, RVs.strs⟩
    · exact False.elim w
  · exact False.elim w
theorem strsOf_ok {K : PySem.W.Frag} {mg : Str → Option Value} {m : List Addr} {H : Hp} : ∀ {ws : List W} {vs : List V} {zs : List Str}, RVs K mg m H ws vs → strsOf ws = some zs → vs = zs.map V.str
  | [], _, _, r, h => by cases h; exact r.nil_inv
  | w :: ws, _, _, r, h => by
    obtain ⟨v, vr, rfl, r1, r2⟩ := r.uncons
    cases w with
    | str a =>
      unfold strsOf at h
      cases hs : strsOf ws with
      | none => rw [hs] at h; cases h
      | some ys =>
        rw [hs] at h
        cases h
        rw [rv_str.1 r1, strsOf_ok r2 hs]
        rfl
    | _ => cases h
theorem itemsOf_ok {K : PySem.W.Frag} {mg : Str → Option Value} {m : List Addr} {H : Hp} {S : Sto} (s : Sim K mg m S H) {w : W} {v : V} {xs : List W} (r : RV K mg m H w v) (h : itemsOf S w = some xs) : ∃ a vs, v = .ref a ∧ (SqL K H a vs ∨ SqT K H a vs) ∧ RVs K mg m H xs vs := by
  cases w with
  | tup ys =>
    unfold itemsOf at h
    cases h
    obtain ⟨p, vs, rfl, h1, h2⟩ := rv_tup.1 r
    exact ⟨p, vs, rfl, .inr h1, h2⟩
  | _ =>
    all_goals
      unfold itemsOf at h
      obtain ⟨p, vs, rfl, h1, h2⟩ := getL_ok s r h
      exact ⟨p, vs, rfl, .inl h1, h2⟩
def rJoin (K : PySem.W.Frag) : V → List V → Hp → VK → Prop := fun x xs H Q => ∃ a p, ∃ ys : List Str, x = .str a ∧ xs = [.ref p] ∧ (SqL K H p (ys.map V.str) ∨ SqT K H p (ys.map V.str)) ∧ (ys.map (·.length)).sum + ys.length * a.length ≤ 16777216 ∧ Q (.str (Txt.join a ys)) H
theorem m_join : MtR X "str.join" (rJoin X.K) := mt_join
theorem o_join : OM X (rJoin X.K) joinM := by
  intro x xs S m H v vs Q E sim r1 r2 w
  unfold joinM at w
  split at w
  · try dsimp only at w
    split at w
    · rename_i ws hi
      split at w
      · rename_i zs hz
        split at w
        · rename_i hl
          obtain ⟨v1, rfl, h4⟩ := r2.one
          obtain ⟨p, us, rfl, h5, h6⟩ := itemsOf_ok sim h4 hi
          have e := strsOf_ok h6 hz
          subst e
          exact ⟨_, p, zs, rv_str.1 r1, rfl, h5, hl, w.ok sim (rv_str.2 rfl)⟩
        · exact False.elim w
      · exact False.elim w
    · exact False.elim w
  · exact False.elim w
def rStarts : V → List V → Hp → VK → Prop := fun x xs H Q => ∃ a b, x = .str a ∧ xs = [.str b] ∧ Q (.bl (Txt.startswith a b)) H
def rEnds : V → List V → Hp → VK → Prop := fun x xs H Q => ∃ a b, x = .str a ∧ xs = [.str b] ∧ Q (.bl (Txt.endswith a b)) H
theorem m_starts : MtR X "str.startswith" rStarts := mt_startswith
theorem m_ends : MtR X "str.endswith" rEnds := mt_endswith
theorem o_starts : OM X rStarts startsM := by
  intro x xs S m H v vs Q E sim r1 r2 w
  unfold startsM at w
  split at w
  · obtain ⟨v1, rfl, h4⟩ := r2.one
    exact ⟨_, _, rv_str.1 r1, by rw [rv_str.1 h4], w.ok sim (rv_bl.2 rfl)⟩
  · exact False.elim w
theorem o_ends : OM X rEnds endsM := by
  intro x xs S m H v vs Q E sim r1 r2 w
  unfold endsM at w
  split at w
  · obtain ⟨v1, rfl, h4⟩ := r2.one
    exact ⟨_, _, rv_str.1 r1, by rw [rv_str.1 h4], w.ok sim (rv_bl.2 rfl)⟩
  · exact False.elim w
/-- s.index(t), t stands in s -/
theorem se_indexS (hc : X.calm = true) (tk : Takes X C.Wx) (ho : SE X C o fo) (ha : SA X C (e :: es) fr)
    (hbase : attributeBase o "index" X.env (eval o X.env) = eval o X.env := by rfl)
    (hfew : ((backTo cpos (starEach (e :: es) X.env)).all (fun x => !x.1) && (backToKw cpos (keywordEach [] X.env)).all (fun x => x.1.isSome)
      && decide ((e :: es).length + ([] : List Keyword).length + (if ([] : List Keyword).isEmpty then 0 else 1) < 30)) = true := by rfl)
    (hline : (apos.endLine == cpos.line) = true := by rfl) (hs : starEach (e :: es) X.env = (false, eval e X.env) :: starEach es X.env := by rfl) (hplain : (backTo cpos (starEach es X.env)).any (·.1) = false := by rfl) :
    SE X C (.Call (.Attribute o "index" apos) (e :: es) [] cpos) (eM "str" indexSM fo fr) := by
  refine PE.imp (pe_bmS PySem.F.plainAttrs_str PySem.F.slot_str_index PySem.F.type_str_index (mt_indexX hc tk) ho ha hbase hfew hline hs hplain) fun s' H Q h => ?_
  refine tG.bind h fun m1 S1 s H1 x v z s1 l1 r1 w1 => ?_
  split at w1
  · rename_i ht
    refine ⟨tyM_ok s1 r1 ht, m1, S1, s, z, s1, l1, w1.bind fun ys S2 m2 H2 vs e2 s2 r2 w2 => ?_⟩
    unfold indexSM at w2
    split at w2
    · rename_i a b
      obtain ⟨v1, rfl, h4⟩ := r2.one
      refine ⟨a, b, rv_str.1 (r1.mono e2), by rw [rv_str.1 h4], fun k hk => ?_, fun hk => ?_⟩
      · rw [hk] at w2
        exact w2.ok s2 (rv_int.2 rfl)
      · rw [hk] at w2
        exact False.elim w2
    · exact False.elim w2
  · exact False.elim w1
/-! ### isinstance(e, X) of the exception at hand -/
/-- the exception's class is c; tab says of which classes it is -/
def eIsX (tab : List (Str × Bool)) (c : Str) : Exp := fun _ => match lookX tab c with
  | some b => rt (.bl b)
  | none => bad
/-- tab's answers are those of the class that stands as x -/
def KTab (K : PySem.W.Frag) (mg : Str → Option Value) (tab : List (Str × Bool)) (cv : Value) : Prop := ∀ n b A, lookX tab n = some b → mg n = some (.ref A) → ExcC K A ∧ PySem.W.kitOne K (.ref A) cv = some b
theorem ktab_nil {K : PySem.W.Frag} {mg : Str → Option Value} {c : Value} : KTab K mg [] c := fun _ _ _ h => nomatch h
theorem ktab_cons {K : PySem.W.Frag} {mg : Str → Option Value} {c : Value} {x : Str} {b : Bool} {A : Addr} {tab : List (Str × Bool)} (g : mg x = some (.ref A)) (ec : ExcC K A) (e : PySem.W.kitOne K (.ref A) c = some b) (t : KTab K mg tab c) : KTab K mg ((x, b) :: tab) c := fun y b' A' h hy => by
  unfold lookX at h
  split at h
  · rename_i q
    subst q
    cases h
    rw [g] at hy
    cases hy
    exact ⟨ec, e⟩
  · exact t y b' A' h hy
theorem se_isX {i : Nat} {n : Str} {q A : Addr} {oe : Obj} {pn : List (Addr × Obj)} {c : V} {cv : Value} {tab : List (Str × Bool)} {c0 : Str} {p1 p3 : Pos} (hz : Zc (.ref A) none oe) (hf : ∃ vs, oe.data = .fields vs) (hA : X.mg c0 = some (.ref A)) (ht : KTab X.K X.mg tab cv)
    (hcx : PE (X.suite q ((q, oe) :: pn)) b (tC c)) (hcv : ∀ u, RelV c u → u = cv) (hg : Gl (X.suite q ((q, oe) :: pn)) "isinstance") (hm : X.mg "isinstance" = none)
    (hN : X.N[i]? = some n := by rfl) (hv : Vis X.env.scope n := by first | exact Or.inl rfl | exact Or.inr (Or.inl rfl) | exact Or.inr (Or.inr rfl))
    (hd : (n == ("__debug__" : Str)) = false := by decide) (hcd : (n == ("__classdict__" : Str)) = false := by decide)
    (hs1 : starEach [.Name n p1, b] X.env = (false, eval (.Name n p1) X.env) :: starEach [b] X.env := by rfl) (hs2 : starEach [b] X.env = (false, eval b X.env) :: starEach [] X.env := by rfl) (hpl : (backTo pos (starEach [b] X.env)).any (·.1) = false := by rfl) :
    SE (X.suite q ((q, oe) :: pn)) (cA i q) (.Call (.Name "isinstance" p3) [.Name n p1, b] [] pos) (eIsX tab c0) := by
  have hva : PE (X.suite q ((q, oe) :: pn)) (.Name n p1) (tVar i) := pe_var hN hv hd hcd
  cases hl : lookX tab c0 with
  | none =>
    refine ⟨fun pins sh σ H Q I h => ?_⟩
    obtain ⟨m, S, s, z, sim, sl, w⟩ := h
    unfold eIsX at w
    rw [hl] at w
    exact False.elim w
  | some r =>
    obtain ⟨hE, hk⟩ := ht c0 r A hl hA
    refine PE.imp (pe_callB (call_isE (X := X) hE hz hf) hg hm (by decide +kernel) (pa_cons hva (pa_cons hcx pa_nil hs2) hs1) (by decide) (by decide) hs1 hpl) fun s' H Q h => ?_
    obtain ⟨m, S, s, z, sim, sl, w⟩ := h
    unfold eIsX at w
    rw [hl] at w
    exact ⟨.ref q, z, c, cv, r, rfl, hcv, hk, w.ok sim (rv_bl.2 rfl)⟩
/-- a module's constant, by a fact -/
theorem se_const {x : Str} {w : W} {v : V} (h : ∃ u, X.mg x = some u ∧ RelV v u) (hg : Gl X x) (hr : ∀ m H, RV X.K X.mg m H w v) (hd : (x == ("__debug__" : Str)) = false := by decide) : SE X C (.Name x pos) (eC w) := by
  obtain ⟨u, h1, h2⟩ := h
  exact se_glob hg h1 h2 hr hd
/-! ### facts of classes -/
theorem kitCls_ref {K : PySem.W.Frag} {t : Value} {A : Addr} {r : Bool} (h1 : PySem.W.hasDictIn K A = true) (h2 : PySem.W.typeIn K (.ref A) = some (.type "type")) (h3 : PySem.W.subIn K t (.ref A) = some r) : PySem.W.kitCls K t (.ref A) = some r := by
  obtain ⟨cd, hc, _⟩ := PySem.W.any_some h1
  have e2 : ((PySem.W.clsIn K A).isSome && PySem.W.typeIn K (.ref A) == some (.type "type")) = true := by rw [hc, h2] <;> rfl
  show (if ((PySem.W.clsIn K A).isSome && PySem.W.typeIn K (.ref A) == some (.type "type")) = true then PySem.W.subIn K t (.ref A) else none) = some r
  rw [if_pos e2]
  exact h3
theorem kitCls_ty {K : PySem.W.Frag} {t : Value} {T : String} {r : Bool} (h1 : PySem.W.kitMeta T = true) (h3 : PySem.W.subIn K t (.type T) = some r) : PySem.W.kitCls K t (.type T) = some r := by
  show (if PySem.W.kitMeta T = true then PySem.W.subIn K t (.type T) else none) = some r
  rw [if_pos h1]
  exact h3
theorem kit_sub {K : PySem.W.Frag} {t c : Value} {r : Bool} (h : PySem.W.kitCls K t c = some r) (hb : (t == c) = false ∨ r = true) : PySem.W.kitOne K t c = some r := by
  unfold PySem.W.kitOne
  split
  · rename_i e
    rcases hb with z | z
    · rw [e] at z; cases z
    · rw [z]
  · exact h
theorem exm_kit {K : PySem.W.Frag} {t c : Value} {r : Bool} (h1 : PySem.W.subIn K c (.type "BaseException") = some true) (h : PySem.W.kitCls K t c = some r) : PySem.W.exmOne K t c = some r := by
  unfold PySem.W.exmOne
  rw [h1]
  exact h
/-! ### the end -/
def spLaw (K : PySem.W.Frag) : Sp := fun vs H Q _ => ∃ (a : Addr) (ns : List Int), vs = [.ref a] ∧ SqL K H a (ns.map V.int) ∧ ns.length ≤ 63 ∧ Only H ∧ ∀ H', Q (.bl true) H'
theorem law_end {P : Program} {w : World} {K : PySem.W.Frag} {mg : Str → Option Value} {base : Heap} {k : Nat} {f : Addr} {fd : FuncData} {x : Str} {F : Fn} (G : FnM P w K mg base k f fd [x] F) (h : ∀ ns : List Int, ns.length ≤ 63 → ∃ S, F [.fl (ns.map .int)] [] = .ok (.bl true) S) : FnOk P w K mg base (L2.CX P w) k f fd [x] (spLaw K) := by
  refine FnOk.imp G fun vs H Q E q => ?_
  obtain ⟨a, ns, rfl, hs, hl, ho, hq⟩ := q
  obtain ⟨S, e⟩ := h ns hl
  refine ⟨[], [], [.fl (ns.map .int)], ⟨rfl, List.nodup_nil, fun i o a h => by simp at h⟩, .cons ?_ .nil, rfl, ?_⟩
  · unfold RV
    refine ⟨a, _, rfl, ?_, RVs.ints⟩
    rcases hs with (h1 | ⟨o, h1⟩) | h1
    · rcases ho a with z | ⟨o, xs, z⟩
      · rw [h1] at z; cases z
      · rw [h1] at z; cases z
    · exact .inl ⟨o, h1⟩
    · exact .inr h1
  · rw [e]
    intro m' H' v _ _ r
    rw [rv_bl.1 r]
    exact hq H'
theorem no_exc {P : Program} {w : World} {H : Hp} {s : Shared} {e : Value} {s' : Shared} (h : L2.CX P w [] H s (fun _ _ _ => False) e s') : False := by
  obtain ⟨_, _, _, _, _, _, _, _, _, _, _, _, z⟩ := h
  exact z.elim
end
end Fr

namespace Fr
open PySem PySem.Spec PyProof.Rows L2

/-! ### list comprehensions -/
def wipeW (s : Sl) : List Nat → Sl
  | [] => s
  | v :: vs => (wipeW s vs).set v none
def lcT (g : Tgt) (tt : Tst) (e : Exp) (s0 : Sl) (D : Nat) (x : W) (S : Sto) : Option Sto := match g x s0 with
  | none => none
  | some s1 => match tt s1 S with
    | .ok true S2 => match e s1 S2 with
      | .ok w S3 => match S3[D]? with
        | some (.lst acc) => if acc.length < sizeLine then some (S3.set D (.lst (acc ++ [w]))) else none
        | _ => none
      | _ => none
    | .ok false S2 => some S2
    | _ => none
def lcV (g : Tgt) (tt : Tst) (e : Exp) (s0 : Sl) (D : Nat) : List W → Sto → Option Sto
  | [], S => some S
  | x :: xs, S => match lcT g tt e s0 D x S with
    | some S' => lcV g tt e s0 D xs S'
    | none => none
def lcN (g : Tgt) (tt : Tst) (e : Exp) (s0 : Sl) (D n : Nat) (f : Nat → Sto → Option W) (c : Sto → Bool) : Nat → Sto → Option Sto
  | 0, S => if c S = true then some S else none
  | k + 1, S => match f (n - (k + 1)) S with
    | none => none
    | some x => match lcT g tt e s0 D x S with
      | some S' => lcN g tt e s0 D n f c k S'
      | none => none
def liveF (a n : Nat) (i : Nat) (S : Sto) : Option W := match S[a]? with
  | some (.lst zs) => if zs.length = n then zs[i]? else none
  | _ => none
def liveC (a n : Nat) (S : Sto) : Bool := match S[a]? with
  | some (.lst zs) => zs.length == n
  | _ => false
def optS (D : Nat) (o : Option Sto) : Rs W := match o with
  | some S => .ok (.ref D) S
  | none => .bad
def eLc (it : Sl → M Src) (g : Tgt) (tt : Tst) (e : Exp) (vs : List Nat) : Exp := fun s S => match it s S with
  | .ok (.vals xs) S1 => optS S1.length (lcV g tt e (wipeW s vs) S1.length xs (S1 ++ [.lst []]))
  | .ok (.live a) S1 => match S1[a]? with
    | some (.lst ys) => optS S1.length (lcN g tt e (wipeW s vs) S1.length ys.length (liveF a ys.length) (liveC a ys.length) ys.length (S1 ++ [.lst []]))
    | _ => .bad
  | .ok (.gen n f c) S1 => optS S1.length (lcN g tt e (wipeW s vs) S1.length n f c n (S1 ++ [.lst []]))
  | .ex x d S1 => .ex x d S1
  | .bad => .bad
def tYs : Tst := fun _ => rt true
section
theorem lcV_eq (g : Tgt) (tt : Tst) (e : Exp) (s0 : Sl) (D : Nat) (xs : List W) : ∀ (k : Nat) (S : Sto), k ≤ xs.length → lcN g tt e s0 D xs.length (fun i _ => xs[i]?) (fun _ => true) k S = lcV g tt e s0 D (xs.drop (xs.length - k)) S
  | 0, S, _ => by simp [lcN, lcV]
  | k + 1, S, h => by
    unfold lcN
    have hi : xs.length - (k + 1) < xs.length := by omega
    rw [List.getElem?_eq_getElem hi, List.drop_eq_getElem_cons hi]
    unfold lcV
    have e1 : xs.length - (k + 1) + 1 = xs.length - k := by omega
    simp only [e1]
    cases lcT g tt e s0 D xs[xs.length - (k + 1)] S with
    | none => rfl
    | some S' => exact lcV_eq g tt e s0 D xs k S' (by omega)
theorem wipe_comm {i : Nat} {o : Option V} : ∀ {vs : List Nat} {t : L2.St}, i ∉ vs → wipe (t.set i o) vs = (wipe t vs).set i o
  | [], t, _ => rfl
  | v :: vs, t, h => by
    have h1 : i ≠ v := fun e => h (by simp [e])
    have h2 : i ∉ vs := fun e => h (List.mem_cons_of_mem _ e)
    show (wipe (t.set i o) vs).set v none = ((wipe t vs).set v none).set i o
    rw [wipe_comm h2, List.set_comm _ _ h1]
theorem wipe_set {i : Nat} {o : Option V} : ∀ {vs : List Nat} {t : L2.St}, i ∈ vs → wipe (t.set i o) vs = wipe t vs
  | [], t, h => by simp at h
  | v :: vs, t, h => by
    show (wipe (t.set i o) vs).set v none = (wipe t vs).set v none
    by_cases hi : i ∈ vs
    · rw [wipe_set hi]
    · have : i = v := by simpa [hi] using h
      subst this
      rw [wipe_comm hi, List.set_set]
theorem wipe_wipe : ∀ (us vs : List Nat) (t : L2.St), (∀ u ∈ us, u ∈ vs) → wipe (wipe t us) vs = wipe t vs
  | [], vs, t, _ => rfl
  | u :: us, vs, t, h => by
    show wipe ((wipe t us).set u none) vs = _
    rw [wipe_set (h u (by simp))]
    exact wipe_wipe us vs t fun x hx => h x (List.mem_cons_of_mem _ hx)
variable {K : PySem.W.Frag} {mg : Str → Option Value} {m m1 : List Addr} {H H1 : Hp}
theorem RSl.wipe {s : Sl} {t : L2.St} : ∀ (vs : List Nat), RSl K mg m H s t → RSl K mg m H (wipeW s vs) (L2.wipe t vs)
  | [], h => h
  | v :: vs, h => (h.wipe vs).drop
theorem jg_vals {J : It} {xs : List W} (h : JV K mg J m H xs) : JG K mg J m H xs.length (fun i _ => xs[i]?) (fun _ => true) := by
  intro m' H' S e sm
  refine ⟨fun i w hi hw => ?_, fun _ => (h m' H' e _).2 (Nat.le_refl _)⟩
  obtain ⟨h1, h2⟩ := (h m' H' e i).1 w hw
  exact ⟨h1, fun x H2 y => let ⟨q1, q2, q3⟩ := h2 x H2 y; ⟨q1, q2, q3 _ sm⟩⟩
theorem jg_live {J : It} {a n : Nat} (h : JL K mg J m H a) : JG K mg J m H n (liveF a n) (liveC a n) := by
  intro m' H' S e sm
  refine ⟨fun i w hi hw => ?_, fun hc => ?_⟩
  · unfold liveF at hw
    split at hw
    · rename_i zs hS
      split at hw
      · obtain ⟨h1, h2⟩ := (h m' H' S zs e sm hS i).1 w hw
        exact ⟨h1, fun x H2 y => by obtain ⟨rfl, q⟩ := h2 x H2 y; exact ⟨q, .refl _ _, sm⟩⟩
      · cases hw
    · cases hw
  · unfold liveC at hc
    split at hc
    · rename_i zs hS
      have : zs.length = n := beq_iff_eq.mp hc
      exact (h m' H' S zs e sm hS n).2 (by omega)
    · cases hc
/-- a target of a comprehension: it sets the comprehension's own slots alone -/
def GOK (K : PySem.W.Frag) (mg : Str → Option Value) (vs : List Nat) (g : TG) (gm : Tgt) : Prop := ∀ (v : V) (w : W) (s s2 : Sl) (t : L2.St) (m : List Addr) (S : Sto) (H : Hp) (Q : L2.St → Hp → Prop), Sim K mg m S H → RV K mg m H w v → RSl K mg m H s t → gm w s = some s2 →
  (∀ t', RSl K mg m H s2 t' → L2.wipe t' vs = L2.wipe t vs → Q t' H) → g v t H Q
def GOKs (K : PySem.W.Frag) (mg : Str → Option Value) (vs : List Nat) (g : TGs) (gm : List W → Sl → Option Sl) : Prop := ∀ (v : List V) (w : List W) (s s2 : Sl) (t : L2.St) (m : List Addr) (S : Sto) (H : Hp) (Q : L2.St → Hp → Prop), Sim K mg m S H → RVs K mg m H w v → RSl K mg m H s t → gm w s = some s2 →
  (∀ t', RSl K mg m H s2 t' → L2.wipe t' vs = L2.wipe t vs → Q t' H) → g v t H Q
theorem gok_name {vs : List Nat} {i : Nat} (h : i ∈ vs := by decide) : GOK K mg vs (gName i) (gN i) := by
  intro v w s s2 t m S H Q sim r l e q
  cases e
  exact q _ (l.set r) (wipe_set h)
theorem goks_nil {vs : List Nat} : GOKs K mg vs gNil gsNil := by
  intro v w s s2 t m S H Q sim r l e q
  cases w with
  | nil => cases e; exact ⟨r.nil_inv, q _ l rfl⟩
  | cons _ _ => cases e
theorem goks_cons {vs : List Nat} {g : TG} {gm : Tgt} {gs : TGs} {gms : List W → Sl → Option Sl} (h1 : GOK K mg vs g gm) (h2 : GOKs K mg vs gs gms) : GOKs K mg vs (gCons g gs) (gsCons gm gms) := by
  intro v w s s2 t m S H Q sim r l e q
  cases w with
  | nil => cases e
  | cons w ws =>
    obtain ⟨v1, vr, rfl, r1, r2⟩ := r.uncons
    unfold gsCons at e
    cases hg : gm w s with
    | none => simp only [hg] at e; cases e
    | some s1 =>
      simp only [hg] at e
      refine ⟨v1, vr, rfl, h1 v1 w s s1 t m S H _ sim r1 l hg fun t1 l1 q1 => ?_⟩
      exact h2 vr ws s1 s2 t1 m S H Q sim r2 l1 e fun t2 l2 q2 => q t2 l2 (q2.trans q1)
theorem gok_tup {vs : List Nat} {n : Nat} {gs : TGs} {gms : List W → Sl → Option Sl} (h : GOKs K mg vs gs gms) : GOK K mg vs (gTup K n gs) (gT n gms) := by
  intro v w s s2 t m S H Q sim r l e q
  cases w with
  | tup ws =>
    obtain ⟨p, us, rfl, hq, hv⟩ := rv_tup.1 r
    unfold gT at e
    simp only at e
    split at e
    · rename_i hl
      exact ⟨p, us, rfl, hq, by rw [← hv.length]; exact hl, h us ws s s2 t m S H Q sim hv l e q⟩
    · cases e
  | _ => cases e
end
abbrev STs (X : Cx) (C : Cc) (ifs : List Expr) (f : Tst) : Prop := PTs X ifs (tG X.K X.mg eqR C f)
section
variable {X : Cx} {C : Cc} {a : Expr} {ft : Tst}
theorem PTs.imp {e : List Expr} {t t' : TT} (h : PTs X e t) (k : ∀ s H Q, t' s H Q → t s H Q) : PTs X e t' := ⟨fun pins s σ H Q I q => h.run pins s σ H Q I (k _ _ _ q)⟩
theorem sts_nil : STs X C [] tYs := by
  refine PTs.imp pts_nil fun s' H Q h => ?_
  obtain ⟨m, S, s, z, sim, sl, w⟩ := h
  exact w.ok sim rfl
theorem sts_one (h : ST X C a ft) : STs X C [a] ft := pts_one h
theorem se_lc {elt tg iter : Expr} {ifs : List Expr} {scope : Scope} {own : List (Str × Nat)} {pos : Pos} {it : Sl → M Src} {gg : TG} {g : Tgt} {tt : Tst} {e : Exp} {vs : List Nat} (hc : X.calm = true) (hN : X.N.Nodup) (hvs : own.map (·.2) = vs) (hi : SI X C tg iter it) (ok : BlkOk X.N X.env.scope scope own)
    (hg : ∀ (s : Shared) (H : Hp) (Ca : Addr) (cl : List (Str × Addr)) (fp : List Addr), PG (X.blk s H scope (compEnvC scope cl Ca X.env) fp) tg gg) (hk : GOK X.K X.mg vs gg g)
    (ht : ∀ (s : Shared) (H : Hp) (Ca : Addr) (cl : List (Str × Addr)) (fp : List Addr), STs (X.blk s H scope (compEnvC scope cl Ca X.env) fp) cS ifs tt)
    (he : ∀ (s : Shared) (H : Hp) (Ca : Addr) (cl : List (Str × Addr)) (fp : List Addr), SE (X.blk s H scope (compEnvC scope cl Ca X.env) fp) cS elt e) (hs : ∀ x, foldedSetIterable iter X.env x = pure x := by intro _; rfl) :
    SE X C (.ListComp elt [⟨tg, iter, ifs, 0⟩] scope pos) (eLc it g tt e vs) ∧
    ∀ {i : Nat} {y : Str} {py spos : Pos}, X.N[i]? = some y → X.env.scope.names.lookup y = some .local → swapsWith (.ListComp elt [⟨tg, iter, ifs, 0⟩] scope pos) (some (.Name y py)) spos.line X.env = pure true → (∀ t v, C.Z t → C.Z (t.set i v)) →
      SS X C (.Assign [.Name y py] (.ListComp elt [⟨tg, iter, ifs, 0⟩] scope pos) spos) (sAsg i (eLc it g tt e vs)) := by
  subst hvs
  have core : ∀ (s' : L2.St) (H : Hp) (Q : VK), tG X.K X.mg (RV X.K X.mg) C (eLc it g tt e (own.map (·.2))) s' H Q →
      tLc (tG X.K X.mg (RJ X.K X.mg) C it) gg (tG X.K X.mg eqR cS tt) (tG X.K X.mg (RV X.K X.mg) cS e) (own.map (·.2)) s' H Q := by
    intro s' H Q h
    obtain ⟨m, S, s, z, sim, sl, w⟩ := h
    refine ⟨m, S, s, z, sim, sl, ?_⟩
    -- one core, for a walk by turns
    have turn : ∀ {n : Nat} {f : Nat → Sto → Option W} {c : Sto → Bool} {J : It} {m1 : List Addr} {H1 : Hp} {S1 Sf : Sto}, Ext m H m1 H1 → Sim X.K X.mg m1 S1 H1 → JG X.K X.mg J m1 H1 n f c →
        lcN g tt e (wipeW s (own.map (·.2))) S1.length n f c n (S1 ++ [.lst []]) = some Sf → WG X.K X.mg (RV X.K X.mg) (.ok (.ref S1.length) Sf) m1 H1 Q (fun c d H' => C.Wx c d s' H') →
        ∀ D, H1 D = none → ∃ W : Nat → Nat → Hp → Prop, (∃ m, W 0 m (upd H1 D (.lst []))) ∧ ∀ i m H, W i m H →
          (J.stop i H ∧ Q (.ref D) H) ∨ (J.go i H ∧ ∃ Nx : Hp → Prop, (∀ H', Nx H' → ∃ m', m' < m ∧ W (i + 1) m' H') ∧ ∀ x H', J.yld i H x H' → gg x (wipe s' (own.map (·.2))) H' fun σ2 H2 => wipe σ2 (own.map (·.2)) = wipe s' (own.map (·.2)) ∧ (tG X.K X.mg eqR cS tt) σ2 H2 fun b H3 =>
            if b = true then (tG X.K X.mg (RV X.K X.mg) cS e) σ2 H3 fun y H4 => ∃ acc, H4 D = some (.lst acc) ∧ acc.length < sizeLine ∧ Nx (upd H4 D (.lst (acc ++ [y]))) else Nx H3) := by
      intro n f c J m1 H1 S1 Sf e1 s1 hj hl wq D hD
      have eN : Ext m1 H1 (m1 ++ [D]) (upd H1 D (.lst [])) := Ext.new hD
      have sN : Sim X.K X.mg (m1 ++ [D]) (S1 ++ [.lst []]) (upd H1 D (.lst [])) := s1.new hD ⟨[], upd_same, .nil⟩
      refine ⟨fun i k H => k = n - i ∧ i ≤ n ∧ ∃ mm SS, Ext (m1 ++ [D]) (upd H1 D (.lst [])) mm H ∧ Sim X.K X.mg mm SS H ∧ lcN g tt e (wipeW s (own.map (·.2))) S1.length n f c (n - i) SS = some Sf,
        ⟨n, by simp, Nat.zero_le _, m1 ++ [D], _, .refl _ _, sN, by simpa using hl⟩, ?_⟩
      rintro i k H2 ⟨rfl, hle, mm, SS, e2, s2, l2⟩
      have hmD : mm[S1.length]? = some D := e2.get (by rw [← s1.len]; simp)
      have lw : RSl X.K X.mg mm H2 (wipeW s (own.map (·.2))) (wipe s' (own.map (·.2))) := (sl.wipe _).mono ((e1.trans eN).trans e2)
      by_cases hi : i < n
      · obtain ⟨q, hq⟩ : ∃ q, n - i = q + 1 := ⟨n - i - 1, by omega⟩
        rw [hq] at l2
        unfold lcN at l2
        have hi' : n - (q + 1) = i := by omega
        rw [hi'] at l2
        have hq' : q = n - (i + 1) := by omega
        cases hx : f i SS with
        | none => simp only [hx] at l2; cases l2
        | some x0 =>
          simp only [hx] at l2
          obtain ⟨go, hy⟩ := (hj mm H2 SS (eN.trans e2) s2).1 i x0 hi hx
          refine .inr ⟨go, fun H => ∃ mm SS, Ext (m1 ++ [D]) (upd H1 D (.lst [])) mm H ∧ Sim X.K X.mg mm SS H ∧ lcN g tt e (wipeW s (own.map (·.2))) S1.length n f c q SS = some Sf,
            fun H' hN => ⟨n - (i + 1), by omega, rfl, by omega, by rw [← hq']; exact hN⟩, fun x H3 y => ?_⟩
          obtain ⟨rx, e3, s3⟩ := hy x H3 y
          cases hT : lcT g tt e (wipeW s (own.map (·.2))) S1.length x0 SS with
          | none => simp only [hT] at l2; cases l2
          | some S' =>
            simp only [hT] at l2
            unfold lcT at hT
            cases hgx : g x0 (wipeW s (own.map (·.2))) with
            | none => simp only [hgx] at hT; cases hT
            | some s5 =>
              simp only [hgx] at hT
              refine hk x x0 _ s5 _ mm SS H3 _ s3 rx (lw.mono e3) hgx fun t lt ewt => ⟨?_, mm, SS, s5, trivial, s3, lt, ?_⟩
              · rw [ewt]; exact wipe_wipe _ _ _ fun u hu => hu
              · cases htt : tt s5 SS with
                | ok b S6 =>
                  rw [htt] at hT
                  intro m6 H6 b' e6 s6 rb
                  cases rb
                  cases b with
                  | true =>
                    rw [if_pos rfl]
                    simp only at hT
                    refine ⟨m6, S6, s5, trivial, s6, lt.mono e6, ?_⟩
                    cases hee : e s5 S6 with
                    | ok w7 S7 =>
                      rw [hee] at hT
                      simp only at hT
                      intro m7 H7 v7 e7 s7 r7
                      cases hS7 : S7[S1.length]? with
                      | none => rw [hS7] at hT; cases hT
                      | some o7 =>
                        cases o7 with
                        | lst acc =>
                          rw [hS7] at hT
                          simp only at hT
                          split at hT
                          · rename_i hacc
                            cases hT
                            have eD : Ext mm H2 m7 H7 := (e3.trans e6).trans e7
                            obtain ⟨D', hD', vs7, hv7, rv7⟩ := s7.at hS7
                            rw [eD.get hmD] at hD'
                            cases hD'
                            have ec : Ext m7 H7 m7 (upd H7 D (.lst (vs7 ++ [v7]))) := Ext.chg hv7 (fun _ z => nomatch z) (fun _ _ z => nomatch z)
                            refine ⟨vs7, hv7, by rw [← rv7.length]; exact hacc, m7, _, (e2.trans eD).trans ec, ?_, l2⟩
                            exact s7.chg (eD.get hmD) hv7 (fun _ z => nomatch z) (fun _ _ z => nomatch z) ⟨vs7 ++ [v7], upd_same, (rv7.append (.cons r7 .nil)).mono ec⟩
                          · cases hT
                        | _ => rw [hS7] at hT; cases hT
                    | ex _ _ _ => rw [hee] at hT; cases hT
                    | bad => rw [hee] at hT; cases hT
                  | false =>
                    rw [if_neg Bool.false_ne_true]
                    simp only at hT
                    cases hT
                    exact ⟨m6, _, (e2.trans e3).trans e6, s6, l2⟩
                | ex _ _ _ => rw [htt] at hT; cases hT
                | bad => rw [htt] at hT; cases hT
      · have hq : n - i = 0 := by omega
        have hin : i = n := by omega
        rw [hq] at l2
        unfold lcN at l2
        split at l2
        · rename_i hcc
          cases l2
          subst hin
          refine .inl ⟨(hj mm H2 _ (eN.trans e2) s2).2 hcc, wq mm H2 (.ref D) (eN.trans e2) s2 ?_⟩
          unfold RV
          exact ⟨D, hmD, rfl⟩
        · cases l2
    unfold eLc at w
    cases hit : it s S with
    | ex x d S1 => rw [hit] at w; exact w
    | bad => rw [hit] at w; exact w
    | ok src S1 =>
      rw [hit] at w
      intro m1 H1 J e1 s1 r
      cases src with
      | vals xs =>
        have hj : JV X.K X.mg J m1 H1 xs := r
        simp only at w
        cases hl : lcV g tt e (wipeW s (own.map (·.2))) S1.length xs (S1 ++ [.lst []]) with
        | none => rw [hl] at w; exact False.elim w
        | some Sf =>
          rw [hl] at w
          refine turn e1 s1 (jg_vals hj) ?_ (w.shift e1)
          rw [lcV_eq _ _ _ _ _ _ _ _ (Nat.le_refl _)]
          simpa using hl
      | live b =>
        have hj : JL X.K X.mg J m1 H1 b := r
        simp only at w
        cases hS : S1[b]? with
        | none => rw [hS] at w; exact False.elim w
        | some o =>
          cases o with
          | lst ys =>
            rw [hS] at w
            simp only at w
            cases hl : lcN g tt e (wipeW s (own.map (·.2))) S1.length ys.length (liveF b ys.length) (liveC b ys.length) ys.length (S1 ++ [.lst []]) with
            | none => rw [hl] at w; exact False.elim w
            | some Sf => rw [hl] at w; exact turn e1 s1 (jg_live hj) hl (w.shift e1)
          | _ => rw [hS] at w; exact False.elim w
      | gen n f c =>
        have hj : JG X.K X.mg J m1 H1 n f c := r
        simp only at w
        cases hl : lcN g tt e (wipeW s (own.map (·.2))) S1.length n f c n (S1 ++ [.lst []]) with
        | none => rw [hl] at w; exact False.elim w
        | some Sf => rw [hl] at w; exact turn e1 s1 hj hl (w.shift e1)
  refine ⟨PE.imp (pe_lc (tt := tG X.K X.mg eqR cS tt) (te := tG X.K X.mg (RV X.K X.mg) cS e) hc hN hi ok hg ht he hs) core, fun {i y py spos} hy hyl hsw hz => ?_⟩
  refine PS.imp (ps_setLc (tt := tG X.K X.mg eqR cS tt) (te := tG X.K X.mg (RV X.K X.mg) cS e) hc hN hy hyl hsw hi ok hg ht he hs) fun D s' H h => ?_
  obtain ⟨m, S, s, z, sim, sl, w⟩ := h
  exact core s' H _ ⟨m, S, s, z, sim, sl, w.onE z sl fun u S1 m1 H1 v e1 s1 r w1 => w1.nx (hz _ _ z) s1 ((sl.mono e1).set r)⟩
end
end Fr

namespace Fr
open PySem PySem.Spec PyProof.Rows L2 RT RZ

/-! ### zip, reversed -/
def zipF (x y : W) (i : Nat) (S : Sto) : Option W := match getL S x, getL S y with
  | some xs, some ys => match xs[i]?, ys[i]? with
    | some a, some b => some (.tup [a, b])
    | _, _ => none
  | _, _ => none
def zipC (x y : W) (n : Nat) (S : Sto) : Bool := match getL S x, getL S y with
  | some xs, some ys => decide (xs.length ≤ n ∨ ys.length ≤ n)
  | _, _ => false
def zipM (ws : List W) : M Src := match ws with
  | [.tup xs, .tup ys] => rt (.vals (List.zipWith (fun a b => W.tup [a, b]) xs ys))
  | [x, y] => fun S => match getL S x, getL S y with
    | some xs, some ys => .ok (.gen (min xs.length ys.length) (zipF x y) (zipC x y (min xs.length ys.length))) S
    | _, _ => .bad
  | _ => bad
def iZip (f : Arg) : Sl → M Src := fun s => bd (f s) zipM
def revF (x : W) (n : Nat) (i : Nat) (S : Sto) : Option W := match getL S x with
  | some xs => xs[n - 1 - i]?
  | none => none
def revM (x : W) : M Src := match x with
  | .tup xs => rt (.vals xs.reverse)
  | x => fun S => match getL S x with
    | some xs => .ok (.gen xs.length (revF x xs.length) (fun _ => true)) S
    | none => .bad
def iRev (f : Exp) : Sl → M Src := fun s => bd (f s) revM
section
variable {K : PySem.W.Frag} {mg : Str → Option Value} {m m' : List Addr} {H H' : Hp} {S : Sto}
theorem getL_at (s : Sim K mg m S H) {w : W} {a : Addr} {xs : List W} (r : RV K mg m H w (.ref a)) (h : getL S w = some xs) : ∃ vs, SqL K H a vs ∧ RVs K mg m H xs vs := by
  obtain ⟨a', vs, e, h1, h2⟩ := getL_ok s r h
  cases e
  exact ⟨vs, h1, h2⟩
theorem jg_zip {x y : W} {a b : Addr} {n : Nat} (r1 : RV K mg m H x (.ref a)) (r2 : RV K mg m H y (.ref b)) : JG K mg (Itz K a b) m H n (zipF x y) (zipC x y n) := by
  intro m' H' S e sm
  refine ⟨fun i w hi hw => ?_, fun hc => ?_⟩
  · unfold zipF at hw
    cases h1 : getL S x with
    | none => rw [h1] at hw; cases hw
    | some xs =>
      cases h2 : getL S y with
      | none => rw [h1, h2] at hw; cases hw
      | some ys =>
        rw [h1, h2] at hw
        simp only at hw
        cases h3 : xs[i]? with
        | none => rw [h3] at hw; cases hw
        | some p =>
          cases h4 : ys[i]? with
          | none => rw [h3, h4] at hw; cases hw
          | some q =>
            rw [h3, h4] at hw
            cases hw
            obtain ⟨vs, k1, k2⟩ := getL_at sm (r1.mono e) h1
            obtain ⟨us, k3, k4⟩ := getL_at sm (r2.mono e) h2
            obtain ⟨v, e1, e2⟩ := k2.get h3
            obtain ⟨u, e3, e4⟩ := k4.get h4
            refine ⟨⟨vs, us, v, u, k1, k3, e1, e3⟩, fun z H2 yl => ?_⟩
            obtain ⟨T, v', u', rfl, hT, rfl, f1, f2⟩ := yl
            have g1 := (f1 vs k1).symm.trans e1
            have g2 := (f2 us k3).symm.trans e3
            cases g1
            cases g2
            have ex : Ext m' H' m' (upd H' T (.tup [v, u])) := Ext.plain hT
            exact ⟨rv_tup.2 ⟨T, [v, u], rfl, .inl (.inl upd_same), .cons (e2.mono ex) (.cons (e4.mono ex) .nil)⟩, ex, sm.plain hT⟩
  · unfold zipC at hc
    cases h1 : getL S x with
    | none => rw [h1] at hc; cases hc
    | some xs =>
      cases h2 : getL S y with
      | none => rw [h1, h2] at hc; cases hc
      | some ys =>
        rw [h1, h2] at hc
        simp only [decide_eq_true_eq] at hc
        obtain ⟨vs, k1, k2⟩ := getL_at sm (r1.mono e) h1
        obtain ⟨us, k3, k4⟩ := getL_at sm (r2.mono e) h2
        exact ⟨vs, us, k1, k3, by rw [← k2.length, ← k4.length]; exact hc⟩
theorem jv_zip {xs ys : List W} {a b : Addr} {vs us : List V} (h1 : SqT K H a vs) (h2 : SqT K H b us) (r1 : RVs K mg m H xs vs) (r2 : RVs K mg m H ys us) : JV K mg (ItzT K a b) m H (List.zipWith (fun a b => W.tup [a, b]) xs ys) := by
  intro m' H' e i
  refine ⟨fun w hw => ?_, fun hl => ⟨vs, us, e.sqt h1, e.sqt h2, ?_⟩⟩
  · rw [List.getElem?_zipWith] at hw
    cases h3 : xs[i]? with
    | none => rw [h3] at hw; cases hw
    | some p =>
      cases h4 : ys[i]? with
      | none => rw [h3, h4] at hw; cases hw
      | some q =>
        rw [h3, h4] at hw
        cases hw
        obtain ⟨v, e1, e2⟩ := r1.get h3
        obtain ⟨u, e3, e4⟩ := r2.get h4
        refine ⟨⟨vs, us, v, u, e.sqt h1, e.sqt h2, e1, e3⟩, fun z H2 yl => ?_⟩
        obtain ⟨T, v', u', rfl, hT, rfl, f1, f2⟩ := yl
        have g1 := (f1 vs (e.sqt h1)).symm.trans e1
        have g2 := (f2 us (e.sqt h2)).symm.trans e3
        cases g1
        cases g2
        have ex : Ext m' H' m' (upd H' T (.tup [v, u])) := Ext.plain hT
        exact ⟨rv_tup.2 ⟨T, [v, u], rfl, .inl (.inl upd_same), .cons ((e2.mono e).mono ex) (.cons ((e4.mono e).mono ex) .nil)⟩, ex, fun S sm => sm.plain hT⟩
  · rw [← r1.length, ← r2.length]
    simp only [List.length_zipWith] at hl
    omega
theorem jg_rev {x : W} {a : Addr} {n : Nat} (r1 : RV K mg m H x (.ref a)) : JG K mg (Itv K a n) m H n (revF x n) (fun _ => true) := by
  intro m' H' S e sm
  refine ⟨fun i w hi hw => ?_, fun _ => Nat.le_refl _⟩
  unfold revF at hw
  cases h1 : getL S x with
  | none => rw [h1] at hw; cases hw
  | some xs =>
    rw [h1] at hw
    simp only at hw
    obtain ⟨vs, k1, k2⟩ := getL_at sm (r1.mono e) h1
    obtain ⟨v, e1, e2⟩ := k2.get hw
    refine ⟨⟨hi, vs, v, k1, e1⟩, fun z H2 yl => ?_⟩
    obtain ⟨rfl, f1⟩ := yl
    have g1 := (f1 vs k1).symm.trans e1
    cases g1
    exact ⟨e2, .refl _ _, sm⟩
theorem jv_rev {xs : List W} {a : Addr} {vs : List V} (h1 : SqT K H a vs) (r1 : RVs K mg m H xs vs) : JV K mg (ItvT K a vs.length) m H xs.reverse := by
  intro m' H' e i
  refine ⟨fun w hw => ?_, fun hl => ?_⟩
  · have hi : i < xs.length := by
      have := (List.getElem?_eq_some_iff.mp hw).1
      simpa using this
    rw [List.getElem?_reverse hi, r1.length] at hw
    obtain ⟨v, e1, e2⟩ := r1.get hw
    refine ⟨⟨by rw [← r1.length]; exact hi, vs, v, e.sqt h1, e1⟩, fun z H2 yl => ?_⟩
    obtain ⟨rfl, f1⟩ := yl
    have g1 := (f1 vs (e.sqt h1)).symm.trans e1
    cases g1
    exact ⟨e2.mono e, .refl _ _, fun S sm => sm⟩
  · show vs.length ≤ i
    rw [← r1.length]
    simpa using hl
end
section
variable {X : Cx} {C : Cc} {pos pos' p tpos : Pos} {a b tg iter e e2 : Expr} {es elts : List Expr} {fe fa fb fc : Exp} {fr : Arg} {kk : Nat}
theorem rv_ref_of {K : PySem.W.Frag} {mg : Str → Option Value} {m : List Addr} {H : Hp} {S : Sto} (s : Sim K mg m S H) {w : W} {v : V} {xs : List W} (r : RV K mg m H w v) (h : getL S w = some xs) : ∃ a vs, v = .ref a ∧ RV K mg m H w (.ref a) ∧ SqL K H a vs ∧ RVs K mg m H xs vs := by
  obtain ⟨a', vs, rfl, h1, h2⟩ := getL_ok s r h
  exact ⟨a', vs, rfl, r, h1, h2⟩
theorem si_zip (hg : Gl X "zip") (hm : X.mg "zip" = none) (ha : SA X C [e, e2] fr) (hs : starEach [e, e2] X.env = (false, eval e X.env) :: starEach [e2] X.env := by rfl) (hpl : (backTo pos (starEach [e2] X.env)).any (·.1) = false := by rfl) :
    SI X C (.Tuple elts kk tpos) (.Call (.Name "zip" p) [e, e2] [] pos) (iZip fr) := by
  refine PI.imp (pi_zipA (tpos := tpos) (elts := elts) (kk := kk) hg hm ha hs hpl) fun s' H R h => ?_
  refine tG.bind h fun m1 S1 s H1 x v z s1 l1 r1 w1 => ?_
  unfold zipM at w1
  split at w1
  · obtain ⟨v1, v2, rfl, h1, h2⟩ := r1.two
    obtain ⟨p1, vs, rfl, k1, k2⟩ := rv_tup.1 h1
    obtain ⟨p2, us, rfl, k3, k4⟩ := rv_tup.1 h2
    exact ⟨p1, p2, vs, us, rfl, .inr ⟨k1, k3, w1.ok s1 (jv_zip k1 k3 k2 k4)⟩⟩
  · rename_i x y hne
    obtain ⟨v1, v2, rfl, h1, h2⟩ := r1.two
    try simp only at w1
    split at w1
    · rename_i xs ys g1 g2
      obtain ⟨a1, vs, rfl, q1, k1, k2⟩ := rv_ref_of s1 h1 g1
      obtain ⟨a2, us, rfl, q2, k3, k4⟩ := rv_ref_of s1 h2 g2
      exact ⟨a1, a2, vs, us, rfl, .inl ⟨k1, k3, w1.ok s1 (jg_zip q1 q2)⟩⟩
    · exact False.elim w1
  · exact False.elim w1
theorem si_rev (hg : Gl X "reversed") (hm : X.mg "reversed" = none) (ha : SE X C e fe) (hs : starEach [e] X.env = (false, eval e X.env) :: starEach [] X.env := by rfl) : SI X C tg (.Call (.Name "reversed" p) [e] [] pos) (iRev fe) := by
  refine PI.imp (pi_revA (tg := tg) hg hm ha hs) fun s' H R h => ?_
  refine tG.bind h fun m1 S1 s H1 x v z s1 l1 r1 w1 => ?_
  unfold revM at w1
  split at w1
  · obtain ⟨p1, vs, rfl, k1, k2⟩ := rv_tup.1 r1
    exact ⟨p1, vs, rfl, .inr ⟨k1, w1.ok s1 (jv_rev k1 k2)⟩⟩
  · try simp only at w1
    split at w1
    · rename_i xs g1
      obtain ⟨a1, vs, rfl, q1, k1, k2⟩ := rv_ref_of s1 r1 g1
      refine ⟨a1, vs, rfl, .inl ⟨k1, w1.ok s1 ?_⟩⟩
      rw [← k2.length]
      exact jg_rev q1
    · exact False.elim w1
end
/-! ### list(x), tuple(x), divmod, str, min, max, sum -/
def keyW : Key → W
  | .inl i => .int i
  | .inr x => .str x
def listM (ws : List W) : M W := match ws with
  | [.tup xs] => new (.lst xs)
  | [.fl xs] => new (.lst xs)
  | [.ref n] => fun S => match S[n]? with
    | some (.lst xs) => new (.lst xs) S
    | some (.dK kvs) => new (.lst (kvs.map fun kv => keyW kv.1)) S
    | _ => .bad
  | _ => bad
def tupleM (ws : List W) : M W := match ws with
  | [.tup xs] => rt (.tup xs)
  | [.fl xs] => rt (.tup xs)
  | [.ref n] => fun S => match S[n]? with
    | some (.lst xs) => .ok (.tup xs) S
    | _ => .bad
  | _ => bad
def divmodM (ws : List W) : M W := match ws with
  | [.int i, .int j] => if 0 < j ∧ inR 1073741823 j = true then rt (.tup [.int (i / j), .int (i % j)]) else bad
  | _ => bad
def strM (ws : List W) : M W := match ws with
  | [.int i] => if i.natAbs.log2 < 1920 then rt (.str (toString i)) else bad
  | _ => bad
def intsOf : List W → Option (List Int)
  | [] => some []
  | .int a :: ws => (intsOf ws).map (a :: ·)
  | _ => none
def min2M (ws : List W) : M W := match ws with
  | [.int i, .int j] => rt (.int (if j < i then j else i))
  | _ => bad
def max2M (ws : List W) : M W := match ws with
  | [.int i, .int j] => rt (.int (if j > i then j else i))
  | _ => bad
def sumM (ws : List W) : M W := match ws with
  | [w] => fun S => match getL S w with
    | some xs => match intsOf xs with
      | some ns => .ok (.int ns.sum) S
      | none => .bad
    | none => .bad
  | _ => bad
/-- sorting by insertion -/
def insB {α : Type} (le : α → α → Bool) (a : α) : List α → List α
  | [] => [a]
  | b :: l => if le a b = true then a :: b :: l else b :: insB le a l
def sortB {α : Type} (le : α → α → Bool) (l : List α) : List α := l.foldr (insB le) []
theorem insB_perm {α : Type} (le : α → α → Bool) (a : α) : ∀ l : List α, (insB le a l).Perm (a :: l)
  | [] => .refl _
  | b :: l => by
    unfold insB
    split
    · exact .refl _
    · exact ((insB_perm le a l).cons b).trans (.swap a b l)
theorem sortB_perm {α : Type} (le : α → α → Bool) : ∀ l : List α, (sortB le l).Perm l
  | [] => .refl _
  | a :: l => (insB_perm le a _).trans ((sortB_perm le l).cons a)
theorem insB_pw {α : Type} {le : α → α → Bool} (ht : ∀ a b c, le a b = true → le b c = true → le a c = true) (hn : ∀ a b, le a b = false → le b a = true) (a : α) : ∀ l : List α, l.Pairwise (fun x y => le x y = true) → (insB le a l).Pairwise (fun x y => le x y = true)
  | [], _ => by simp [insB]
  | b :: l, h => by
    have h1 := List.pairwise_cons.mp h
    unfold insB
    split
    · rename_i hab
      refine List.pairwise_cons.mpr ⟨fun x hx => ?_, h⟩
      rcases List.mem_cons.mp hx with rfl | hx
      · exact hab
      · exact ht _ _ _ hab (h1.1 x hx)
    · rename_i hab
      refine List.pairwise_cons.mpr ⟨fun x hx => ?_, insB_pw ht hn a l h1.2⟩
      rcases List.mem_cons.mp ((insB_perm le a l).mem_iff.mp hx) with rfl | hx
      · exact hn _ _ (by simpa using hab)
      · exact h1.1 x hx
theorem sortB_pw {α : Type} {le : α → α → Bool} (ht : ∀ a b c, le a b = true → le b c = true → le a c = true) (hn : ∀ a b, le a b = false → le b a = true) : ∀ l : List α, (sortB le l).Pairwise (fun x y => le x y = true)
  | [] => .nil
  | a :: l => insB_pw ht hn a _ (sortB_pw ht hn l)
def leI (a b : Int) : Bool := decide (a ≤ b)
def sortI (ns : List Int) : List Int := sortB leI ns
def sortedM (ws : List W) : M W := match ws with
  | [w] => fun S => match getL S w with
    | some xs => match intsOf xs with
      | some ns => new (.lst ((sortI ns).map .int)) S
      | none => .bad
    | none => .bad
  | _ => bad
section
variable {K : PySem.W.Frag} {mg : Str → Option Value} {m m' : List Addr} {H H' : Hp} {S : Sto}
theorem intsOf_ok : ∀ {ws : List W} {vs : List V} {zs : List Int}, RVs K mg m H ws vs → intsOf ws = some zs → vs = zs.map V.int
  | [], _, _, r, h => by cases h; exact r.nil_inv
  | w :: ws, _, _, r, h => by
    obtain ⟨v, vr, rfl, r1, r2⟩ := r.uncons
    cases w with
    | int a =>
      unfold intsOf at h
      cases hs : intsOf ws with
      | none => rw [hs] at h; cases h
      | some ys =>
        rw [hs] at h
        cases h
        rw [rv_int.1 r1, intsOf_ok r2 hs]
        rfl
    | _ => cases h
theorem RKs.keys : ∀ {kvs : List (Key × W)} {vs : List (Key × V)}, RKs K mg m H kvs vs → RVs K mg m H (kvs.map fun kv => keyW kv.1) (vs.map fun kv => kV kv.1)
  | [], _, h => by
    unfold RKs at h
    subst h
    exact .nil
  | (k, w) :: kvs, _, h => by
    unfold RKs at h
    obtain ⟨v, r, rfl, h1, h2⟩ := h
    refine .cons ?_ h2.keys
    cases k with
    | inl i => exact rv_int.2 rfl
    | inr i => exact rv_str.2 rfl
end
theorem sortI_pw (ns : List Int) : (sortI ns).Pairwise (· ≤ ·) :=
  (sortB_pw (le := leI) (fun a b c h h' => by unfold leI at *; simp at *; omega) (fun a b h => by unfold leI at *; simp at *; omega) ns).imp (by intro a b h; unfold leI at h; simpa using h)
theorem sortI_of {ns ns' : List Int} (h1 : ns'.Perm ns) (h2 : ns'.Pairwise (· ≤ ·)) : ns' = sortI ns :=
  (h1.trans (sortB_perm leI ns).symm).eq_of_pairwise (fun a b _ _ h h' => Int.le_antisymm h h') h2 (sortI_pw ns)
section
variable {X : Cx}
def rLst (K : PySem.W.Frag) : List V → Hp → VK → Prop := fun xs H Q => (∃ p ys, xs = [.ref p] ∧ (SqL K H p ys ∨ SqT K H p ys) ∧ ∀ l, H l = none → Q (.ref l) (upd H l (.lst ys))) ∨ rListD xs H Q
theorem cr_list (hc : X.calm = true) : CallR X (.type "list") (rLst X.K) := call_list_of.or (call_list_dK hc)
theorem o_list : OC X (rLst X.K) listM := by
  intro x S m H v Q E sim r w
  unfold listM at w
  split at w
  · obtain ⟨v1, rfl, h1⟩ := r.one
    obtain ⟨p, vs, rfl, h2, h3⟩ := rv_tup.1 h1
    exact .inl ⟨p, vs, rfl, .inr h2, fun l hl => w.new sim hl ⟨_, upd_same, h3.mono (Ext.new hl)⟩⟩
  · obtain ⟨v1, rfl, h1⟩ := r.one
    unfold RV at h1
    obtain ⟨p, vs, rfl, h2, h3⟩ := h1
    exact .inl ⟨p, vs, rfl, .inl h2.sq, fun l hl => w.new sim hl ⟨_, upd_same, h3.mono (Ext.new hl)⟩⟩
  · try simp only at w
    obtain ⟨v1, rfl, h1⟩ := r.one
    split at w
    · rename_i ys hn
      obtain ⟨p, vs, _, rfl, h2, h3⟩ := lst_ok sim h1 hn
      exact .inl ⟨p, vs, rfl, .inl (SqL.of h2), fun l hl => w.new sim hl ⟨_, upd_same, h3.mono (Ext.new hl)⟩⟩
    · rename_i kvs hn
      obtain ⟨p, e1, vs, h2, h3⟩ := sim.at hn
      unfold RV at h1
      obtain ⟨p', e2, rfl⟩ := h1
      rw [e1] at e2; cases e2
      exact .inr ⟨p, vs, rfl, h2, fun l hl => w.new sim hl ⟨_, upd_same, h3.keys.mono (Ext.new hl)⟩⟩
    · exact False.elim w
  · exact False.elim w
def rTpl (K : PySem.W.Frag) : List V → Hp → VK → Prop := fun xs H Q => ∃ p ys, xs = [.ref p] ∧ ((SqL K H p ys ∧ ∀ l, H l = none → Q (.ref l) (upd H l (.tup ys))) ∨ (SqT K H p ys ∧ Q (.ref p) H))
theorem cr_tuple : CallR X (.type "tuple") (rTpl X.K) := call_tuple_of
theorem WG.tup {K : PySem.W.Frag} {mg : Str → Option Value} {m : List Addr} {H : Hp} {S : Sto} {xs : List W} {vs : List V} {Q : VK} {E : XK} {q : Addr} (w : WG K mg (RV K mg) (.ok (.tup xs) S) m H Q E) (s : Sim K mg m S H) (hq : H q = none) (r : RVs K mg m H xs vs) : Q (.ref q) (upd H q (.tup vs)) := by
  refine w m _ _ (Ext.plain hq) (s.plain hq) (rv_tup.2 ⟨q, vs, rfl, .inl (.inl upd_same), r.mono (Ext.plain hq)⟩)
theorem o_tuple : OC X (rTpl X.K) tupleM := by
  intro x S m H v Q E sim r w
  unfold tupleM at w
  split at w
  · obtain ⟨v1, rfl, h1⟩ := r.one
    obtain ⟨p, vs, rfl, h2, h3⟩ := rv_tup.1 h1
    exact ⟨p, vs, rfl, .inr ⟨h2, w.ok sim (rv_tup.2 ⟨p, vs, rfl, h2, h3⟩)⟩⟩
  · obtain ⟨v1, rfl, h1⟩ := r.one
    unfold RV at h1
    obtain ⟨p, vs, rfl, h2, h3⟩ := h1
    exact ⟨p, vs, rfl, .inl ⟨h2.sq, fun l hl => WG.tup w sim hl h3⟩⟩
  · try simp only at w
    obtain ⟨v1, rfl, h1⟩ := r.one
    split at w
    · rename_i ys hn
      obtain ⟨p, vs, _, rfl, h2, h3⟩ := lst_ok sim h1 hn
      exact ⟨p, vs, rfl, .inl ⟨SqL.of h2, fun l hl => WG.tup w sim hl h3⟩⟩
    · exact False.elim w
  · exact False.elim w
def rDm : List V → Hp → VK → Prop := fun xs H Q => ∃ i j, xs = [.int i, .int j] ∧ CDiv i j ∧ ∀ p, H p = none → Q (.ref p) (upd H p (.tup [.int (i / j), .int (i % j)]))
theorem cr_divmod : CallR X (.builtin "divmod") rDm := call_divmod
theorem o_divmod : OC X rDm divmodM := by
  intro x S m H v Q E sim r w
  unfold divmodM at w
  split at w
  · split at w
    · rename_i i j hc
      obtain ⟨v1, v2, rfl, h1, h2⟩ := r.two
      rw [rv_int.1 h1, rv_int.1 h2]
      exact ⟨i, j, rfl, ⟨hc.1, by have := inR_iff.mp hc.2; omega⟩, fun p hp => WG.tup w sim hp (.cons (rv_int.2 rfl) (.cons (rv_int.2 rfl) .nil))⟩
    · exact False.elim w
  · exact False.elim w
def rStrI : List V → Hp → VK → Prop := fun xs H Q => ∃ i, xs = [.int i] ∧ i.natAbs.log2 < 1920 ∧ Q (.str (toString i)) H
theorem cr_str : CallR X (.type "str") rStrI := call_str_int
theorem o_str : OC X rStrI strM := by
  intro x S m H v Q E sim r w
  unfold strM at w
  split at w
  · split at w
    · rename_i i hc
      obtain ⟨v1, rfl, h1⟩ := r.one
      rw [rv_int.1 h1]
      exact ⟨i, rfl, hc, w.ok sim (rv_str.2 rfl)⟩
    · exact False.elim w
  · exact False.elim w
def rMin2 : List V → Hp → VK → Prop := fun xs H Q => ∃ i j, xs = [.int i, .int j] ∧ Q (.int (if j < i then j else i)) H
def rMax2 : List V → Hp → VK → Prop := fun xs H Q => ∃ i j, xs = [.int i, .int j] ∧ Q (.int (if j > i then j else i)) H
theorem cr_min2 (hc : X.calm = true) : CallR X (.builtin "min") rMin2 := call_min2 hc
theorem cr_max2 (hc : X.calm = true) : CallR X (.builtin "max") rMax2 := call_max2 hc
theorem o_min2 : OC X rMin2 min2M := by
  intro x S m H v Q E sim r w
  unfold min2M at w
  split at w
  · obtain ⟨v1, v2, rfl, h1, h2⟩ := r.two
    rw [rv_int.1 h1, rv_int.1 h2]
    exact ⟨_, _, rfl, w.ok sim (rv_int.2 rfl)⟩
  · exact False.elim w
theorem o_max2 : OC X rMax2 max2M := by
  intro x S m H v Q E sim r w
  unfold max2M at w
  split at w
  · obtain ⟨v1, v2, rfl, h1, h2⟩ := r.two
    rw [rv_int.1 h1, rv_int.1 h2]
    exact ⟨_, _, rfl, w.ok sim (rv_int.2 rfl)⟩
  · exact False.elim w
theorem o_sum : OC X (rSum X.K) sumM := by
  intro x S m H v Q E sim r w
  unfold sumM at w
  split at w
  · try simp only at w
    split at w
    · rename_i xs hx
      split at w
      · rename_i ns hn
        obtain ⟨v1, rfl, h1⟩ := r.one
        obtain ⟨a, vs, rfl, _, h2, h3⟩ := rv_ref_of sim h1 hx
        have e := intsOf_ok h3 hn
        subst e
        exact ⟨a, ns, rfl, h2, w.ok sim (rv_int.2 rfl)⟩
      · exact False.elim w
    · exact False.elim w
  · exact False.elim w
theorem o_sorted : OC X (rSortedI X.K) sortedM := by
  intro x S m H v Q E sim r w
  unfold sortedM at w
  split at w
  · try simp only at w
    split at w
    · rename_i xs hx
      split at w
      · rename_i ns hn
        obtain ⟨v1, rfl, h1⟩ := r.one
        obtain ⟨a, vs, rfl, _, h2, h3⟩ := rv_ref_of sim h1 hx
        have e := intsOf_ok h3 hn
        subst e
        refine ⟨a, ns, rfl, h2, fun ns' p q1 q2 hp => ?_⟩
        rw [sortI_of q1 q2]
        exact w.new sim hp ⟨_, upd_same, RVs.ints⟩
      · exact False.elim w
    · exact False.elim w
  · exact False.elim w
end
/-! ### methods of lists -/
def insertM (x : W) (ys : List W) : M W := match x, ys with
  | .ref n, [.int i, y] => fun S => match S[n]? with
    | some (.lst xs) => if xs.length < sizeLine ∧ 0 ≤ i ∧ inR 9223372036854775807 i = true then .ok .non (S.set n (.lst (xs.take i.toNat ++ [y] ++ xs.drop i.toNat))) else .bad
    | _ => .bad
  | _, _ => bad
def extendM (x : W) (ys : List W) : M W := match x, ys with
  | .ref n, [.ref k] => fun S => match S[n]?, S[k]? with
    | some (.lst xs), some (.lst zs) => if xs.length + zs.length ≤ sizeLine then .ok .non (S.set n (.lst (xs ++ zs))) else .bad
    | _, _ => .bad
  | _, _ => bad
def popAtM (x : W) (ys : List W) : M W := match x, ys with
  | .ref n, [.int i] => fun S => match S[n]? with
    | some (.lst xs) => match ixN xs.length i with
      | some k => match xs[k]? with
        | some y => if inR 9223372036854775807 i = true then .ok y (S.set n (.lst (xs.eraseIdx k))) else .bad
        | none => .bad
      | none => .bad
    | _ => .bad
  | _, _ => bad
def clearM (x : W) (ys : List W) : M W := match x, ys with
  | .ref n, [] => fun S => match S[n]? with
    | some (.lst _) => .ok .non (S.set n (.lst []))
    | _ => .bad
  | _, _ => bad
/-- the first place of an equal one -/
def findD (d : PyData) : List PyData → Nat → Option Nat
  | [], _ => none
  | z :: ds, j => if PyData.eqv z d = true then some j else findD d ds (j + 1)
def indexLM (x : W) (ys : List W) : M W := match ys with
  | [y] => fun S => match toD S 40 x, toD S 40 y with
    | some (.list ds), some d => if (SeqAt.shaped (.list ds) && SeqAt.shaped d) = true then match findD d ds 0 with
        | some j => .ok (.int j) S
        | none => .bad
      else .bad
    | _, _ => .bad
  | _ => bad
theorem findD_ok {d : PyData} : ∀ {ds : List PyData} {i j : Nat}, findD d ds i = some j → ∃ k z, j = i + k ∧ ds[k]? = some z ∧ PyData.eqv z d = true ∧ ∀ (m : Nat) (z' : PyData), m < k → ds[m]? = some z' → PyData.eqv z' d = false
  | [], _, _, h => by cases h
  | z :: ds, i, j, h => by
    unfold findD at h
    split at h
    · rename_i hz
      cases h
      exact ⟨0, z, rfl, rfl, hz, fun m z' hm => by omega⟩
    · rename_i hz
      obtain ⟨k, z1, e1, e2, e3, e4⟩ := findD_ok h
      refine ⟨k + 1, z1, by omega, by simpa using e2, e3, fun m z' hm hz' => ?_⟩
      cases m with
      | zero =>
        simp at hz'
        subst hz'
        simpa using hz
      | succ m => exact e4 m z' (by omega) (by simpa using hz')
section
variable {X : Cx}
def rIns : V → List V → Hp → VK → Prop := fun x vs H Q => ∃ (l : Addr) (xs : List V) (i : Int) (y : V), x = .ref l ∧ vs = [.int i, y] ∧ H l = some (.lst xs) ∧ xs.length < sizeLine ∧ 0 ≤ i ∧ i < 2 ^ 63 ∧
    Q .non (upd H l (.lst (xs.take i.toNat ++ [y] ++ xs.drop i.toNat)))
theorem m_insert : MtR X "list.insert" rIns := mt_insert
theorem o_insert : OM X rIns insertM := by
  intro x xs S m H v vs Q E sim r1 r2 w
  unfold insertM at w
  split at w
  · try dsimp only at w
    split at w
    · rename_i ys hn
      split at w
      · rename_i hl
        obtain ⟨p, us, h0, rfl, h2, h3⟩ := lst_ok sim r1 hn
        obtain ⟨v1, v2, rfl, h4, h5⟩ := r2.two
        exact ⟨p, us, _, v2, rfl, by rw [rv_int.1 h4], h2, by rw [← h3.length]; exact hl.1, hl.2.1, (inR63 hl.2.2).2, w.set sim h0 h2 (((h3.take _).append (.cons h5 .nil)).append (h3.drop _)) (rv_non.2 rfl)⟩
      · exact False.elim w
    · exact False.elim w
  · exact False.elim w
theorem o_extend : OM X rExtend extendM := by
  intro x xs S m H v vs Q E sim r1 r2 w
  unfold extendM at w
  split at w
  · try dsimp only at w
    split at w
    · rename_i ys zs hn hk
      split at w
      · rename_i hl
        obtain ⟨p, us, h0, rfl, h2, h3⟩ := lst_ok sim r1 hn
        obtain ⟨v1, rfl, h4⟩ := r2.one
        obtain ⟨q, us2, h6, rfl, h7, h8⟩ := lst_ok sim h4 hk
        exact ⟨p, q, us, us2, rfl, rfl, h2, h7, by rw [← h3.length, ← h8.length]; exact hl, w.set sim h0 h2 (h3.append h8) (rv_non.2 rfl)⟩
      · exact False.elim w
    · exact False.elim w
  · exact False.elim w
theorem o_popAt : OM X rPopAt popAtM := by
  intro x xs S m H v vs Q E sim r1 r2 w
  unfold popAtM at w
  split at w
  · try dsimp only at w
    split at w
    · rename_i ys hn
      split at w
      · rename_i k hk
        split at w
        · rename_i y hy
          split at w
          · rename_i hl
            obtain ⟨p, us, h0, rfl, h2, h3⟩ := lst_ok sim r1 hn
            obtain ⟨v1, rfl, h4⟩ := r2.one
            obtain ⟨u, h5, h6⟩ := h3.get hy
            exact ⟨p, us, _, k, u, rfl, by rw [rv_int.1 h4], h2, (inR63 hl).1, (inR63 hl).2, by rw [← h3.length]; exact (ixN_seq hk).1, h5, w.set sim h0 h2 (h3.eraseIdx k) h6⟩
          · exact False.elim w
        · exact False.elim w
      · exact False.elim w
    · exact False.elim w
  · exact False.elim w
theorem o_clear : OM X rClear clearM := by
  intro x xs S m H v vs Q E sim r1 r2 w
  unfold clearM at w
  split at w
  · try dsimp only at w
    split at w
    · rename_i ys hn
      obtain ⟨p, us, h0, rfl, h2, h3⟩ := lst_ok sim r1 hn
      exact ⟨p, us, rfl, r2.nil_inv, h2, w.set sim h0 h2 .nil (rv_non.2 rfl)⟩
    · exact False.elim w
  · exact False.elim w
theorem o_indexL : OM X (rIndexD X.K) indexLM := by
  intro x xs S m H v vs Q E sim r1 r2 w
  unfold indexLM at w
  split at w
  · try dsimp only at w
    obtain ⟨v1, rfl, h4⟩ := r2.one
    split at w
    · rename_i ds d hx hd
      split at w
      · rename_i hs
        simp only [Bool.and_eq_true] at hs
        split at w
        · rename_i j hj
          have q1 := toD_ok sim _ _ _ _ r1 hx
          have q2 := toD_ok sim _ _ _ _ h4 hd
          obtain ⟨k, z, e1, e2, e3, e4⟩ := findD_ok hj
          have e1' : j = k := by omega
          subst e1'
          cases q1 with
          | @lst a ys _ g1 g2 => exact ⟨a, v1, d, ds, j, z, rfl, rfl, .lst g1 g2, q2, hs.1, hs.2, e2, e3, e4, w.ok sim (rv_int.2 rfl)⟩
        · exact False.elim w
      · exact False.elim w
    · exact False.elim w
  · exact False.elim w
end

/-! ### in, <, truth -/
def memB (S : Sto) (x y : W) : Option Bool := match x, y with
  | .str i, .str j => some (subS i j)
  | x, y => match itemsOf S y with
    | some ws => if (flatW x && ws.all flatW) = true then some (ws.any fun z => eqF z x) else match toD S 40 x, toD S 40 y with
      | some d, some (.list ds) => if (SeqAt.shaped d && SeqAt.shaped (.list ds)) = true then some (ds.any fun z => PyData.eqv z d) else none
      | _, _ => none
    | none => none
def memM (x y : W) : M W := fun S => match memB S x y with
  | some b => .ok (.bl b) S
  | none => .bad
def notMemM (x y : W) : M W := fun S => match memB S x y with
  | some b => .ok (.bl !b) S
  | none => .bad
def rMem (K : PySem.W.Frag) : R2 := fun x y H Q => (∃ i j, x = .str i ∧ y = .str j ∧ Q (.bl (!(Builtin.Str.occurrences j i 0 j.length 1).isEmpty)) H) ∨ rIn K false x y H Q ∨ rInD K x y H Q
def rNMem (K : PySem.W.Frag) : R2 := fun x y H Q => (∃ i j, x = .str i ∧ y = .str j ∧ Q (.bl (!(!(Builtin.Str.occurrences j i 0 j.length 1).isEmpty))) H) ∨ rIn K true x y H Q ∨ rNotInD K x y H Q
section
variable {X : Cx}
theorem op_mem (hu : X.A.units + 65 < cLine) : OpR X (compareOp .In) (rMem X.K) := op_in_str.or (op_in_seq.or (op_inD hu))
theorem op_nmem (hu : X.A.units + 65 < cLine) : OpR X (compareOp .NotIn) (rNMem X.K) := op_notin_str.or (op_notIn_seq.or (op_notInD hu))
variable {K : PySem.W.Frag} {mg : Str → Option Value} {m m' : List Addr} {H H' : Hp} {S : Sto}
theorem flatW_ok {w : W} {v : V} (r : RV K mg m H w v) (h : flatW w = true) : flatV v = true := by
  cases w with
  | non => rw [rv_non.1 r]; rfl
  | bl b => rw [rv_bl.1 r]; rfl
  | int b => rw [rv_int.1 r]; rfl
  | str b => rw [rv_str.1 r]; rfl
  | _ => cases h
theorem eqF_ok {x y : W} {v u : V} (r1 : RV K mg m H x v) (r2 : RV K mg m H y u) (h1 : flatW x = true) (h2 : flatW y = true) : eqV v u = eqF x y := by
  cases x <;> first | (cases h1; done) | skip
  all_goals (cases y <;> first | (cases h2; done) | skip)
  all_goals (try simp only [rv_int, rv_str, rv_bl, rv_non] at r1 r2)
  all_goals (subst r1; subst r2; rfl)
theorem allFlat_ok : ∀ {ws : List W} {vs : List V}, RVs K mg m H ws vs → ws.all flatW = true → vs.all flatV = true
  | [], _, r, _ => by rw [r.nil_inv]; rfl
  | w :: ws, _, r, h => by
    obtain ⟨v, vr, rfl, r1, r2⟩ := r.uncons
    simp only [List.all_cons, Bool.and_eq_true] at h ⊢
    exact ⟨flatW_ok r1 h.1, allFlat_ok r2 h.2⟩
theorem anyF_ok {x : W} {v : V} (r1 : RV K mg m H x v) (h1 : flatW x = true) : ∀ {ws : List W} {vs : List V}, RVs K mg m H ws vs → ws.all flatW = true → inV v vs = ws.any fun z => eqF z x
  | [], _, r, _ => by rw [r.nil_inv]; rfl
  | w :: ws, _, r, h => by
    obtain ⟨u, vr, rfl, r3, r4⟩ := r.uncons
    simp only [List.all_cons, Bool.and_eq_true] at h
    have ih := anyF_ok r1 h1 r4 h.2
    unfold inV at ih ⊢
    rw [List.any_cons, List.any_cons, ih, eqF_ok r3 r1 h.1 h1]
theorem memB_ok (s : Sim K mg m S H) {x y : W} {v u : V} {b : Bool} (r1 : RV K mg m H x v) (r2 : RV K mg m H y u) (h : memB S x y = some b) :
    (∃ i j, v = .str i ∧ u = .str j ∧ b = !(Builtin.Str.occurrences j i 0 j.length 1).isEmpty) ∨
    (∃ p xs, u = .ref p ∧ (SqL K H p xs ∨ SqT K H p xs) ∧ flatV v = true ∧ xs.all flatV = true ∧ b = inV v xs) ∨
    ∃ d ds, Dp K H v d ∧ Dp K H u (.list ds) ∧ SeqAt.shaped d = true ∧ SeqAt.shaped (.list ds) = true ∧ b = ds.any fun z => PyData.eqv z d := by
  unfold memB at h
  split at h
  · cases h
    exact .inl ⟨_, _, rv_str.1 r1, rv_str.1 r2, rfl⟩
  · split at h
    · rename_i ws hi
      split at h
      · rename_i hf
        simp only [Bool.and_eq_true] at hf
        cases h
        obtain ⟨p, us, rfl, h5, h6⟩ := itemsOf_ok s r2 hi
        exact .inr (.inl ⟨p, us, rfl, h5, flatW_ok r1 hf.1, allFlat_ok h6 hf.2, (anyF_ok r1 hf.1 h6 hf.2).symm⟩)
      · split at h
        · rename_i d ds hd he
          split at h
          · rename_i hs
            simp only [Bool.and_eq_true] at hs
            cases h
            exact .inr (.inr ⟨d, ds, toD_ok s _ _ _ _ r1 hd, toD_ok s _ _ _ _ r2 he, hs.1, hs.2, rfl⟩)
          · cases h
        · cases h
    · cases h
theorem o_mem : O2 X (rMem X.K) memM := by
  intro x y S m H v u Q E sim r1 r2 w
  unfold memM at w
  cases hb : memB S x y with
  | none => rw [hb] at w; exact False.elim w
  | some b =>
    rw [hb] at w
    have q := w.ok sim (rv_bl.2 rfl)
    rcases memB_ok sim r1 r2 hb with ⟨i, j, e1, e2, e3⟩ | ⟨p, xs, e1, e2, e3, e4, e5⟩ | ⟨d, ds, e1, e2, e3, e4, e5⟩
    · exact .inl ⟨i, j, e1, e2, by rw [← e3]; exact q⟩
    · exact .inr (.inl ⟨p, xs, e1, e2, e3, e4, by rw [if_neg Bool.false_ne_true, ← e5]; exact q⟩)
    · exact .inr (.inr ⟨d, ds, e1, e2, e3, e4, by rw [← e5]; exact q⟩)
theorem o_nmem : O2 X (rNMem X.K) notMemM := by
  intro x y S m H v u Q E sim r1 r2 w
  unfold notMemM at w
  cases hb : memB S x y with
  | none => rw [hb] at w; exact False.elim w
  | some b =>
    rw [hb] at w
    have q := w.ok sim (rv_bl.2 rfl)
    rcases memB_ok sim r1 r2 hb with ⟨i, j, e1, e2, e3⟩ | ⟨p, xs, e1, e2, e3, e4, e5⟩ | ⟨d, ds, e1, e2, e3, e4, e5⟩
    · exact .inl ⟨i, j, e1, e2, by rw [← e3]; exact q⟩
    · exact .inr (.inl ⟨p, xs, e1, e2, e3, e4, by rw [if_pos rfl, ← e5]; exact q⟩)
    · exact .inr (.inr ⟨d, ds, e1, e2, e3, e4, by rw [← e5]; exact q⟩)
end
/-- x < y: ints, texts, else data place by place -/
def ltG (x y : W) : M W := match x, y with
  | .int i, .int j => rt (.bl (decide (i < j)))
  | .str i, .str j => rt (.bl (decide (i.cps.toList < j.cps.toList)))
  | x, y => fun S => match toD S 40 x, toD S 40 y with
    | some (.list ds), some (.list es) => if (PySem.W.alikeAll ds es && SeqAt.shaped (.list ds)) = true then .ok (.bl (PySem.W.dataLt (.list ds) (.list es))) S else .bad
    | some (.tuple ds), some (.tuple es) => if (PySem.W.alikeAll ds es && SeqAt.shaped (.tuple ds)) = true then .ok (.bl (PySem.W.dataLt (.tuple ds) (.tuple es))) S else .bad
    | _, _ => .bad
def rLtD (K : PySem.W.Frag) : R2 := fun x y H Q => ∃ d e, Dp K H x d ∧ Dp K H y e ∧ PySem.W.alike d e = true ∧ d ≠ .none ∧ SeqAt.shaped d = true ∧ Q (.bl (PySem.W.dataLt d e)) H
def rLtG (K : PySem.W.Frag) : R2 := fun x y H Q => rI0 (fun i j => .bl (decide (i < j))) x y H Q ∨ (∃ i j, x = .str i ∧ y = .str j ∧ Q (.bl (decide (i.cps.toList < j.cps.toList))) H) ∨ rLtD K x y H Q
section
variable {X : Cx}
theorem op_ltD (hu : X.A.units + 64 < cLine) : OpR X (compareOp .Lt) (rLtD X.K) := by
  intro pins s σ H x y v u Q I rx ry h
  obtain ⟨d, e, hd, he, al, hn, sd, q⟩ := h
  obtain ⟨as, r1⟩ := Dp.reads I d x v hd rx
  obtain ⟨bs, r2⟩ := Dp.reads I e y u he ry
  exact PySem.W.rcLt_alike d e X.A s v u as bs r1 r2 al hn (SeqAt.room_of_shaped sd hu) X.prog X.w X.xe _ ⟨.bl _, H, I, rfl, q⟩
theorem op_ltG (hu : X.A.units + 64 < cLine) : OpR X (compareOp .Lt) (rLtG X.K) := op_lt.or (op_lt_str.or (op_ltD hu))
theorem o_ltG : O2 X (rLtG X.K) ltG := by
  intro x y S m H v u Q E sim r1 r2 w
  unfold ltG at w
  split at w
  · exact .inl ⟨_, _, rv_int.1 r1, rv_int.1 r2, w.ok sim (rv_bl.2 rfl)⟩
  · exact .inr (.inl ⟨_, _, rv_str.1 r1, rv_str.1 r2, w.ok sim (rv_bl.2 rfl)⟩)
  · try simp only at w
    split at w
    · rename_i ds es hd he
      split at w
      · rename_i hs
        simp only [Bool.and_eq_true] at hs
        exact .inr (.inr ⟨_, _, toD_ok sim _ _ _ _ r1 hd, toD_ok sim _ _ _ _ r2 he, by unfold PySem.W.alike; exact hs.1, (fun z => nomatch z), hs.2, w.ok sim (rv_bl.2 rfl)⟩)
      · exact False.elim w
    · rename_i ds es hd he
      split at w
      · rename_i hs
        simp only [Bool.and_eq_true] at hs
        exact .inr (.inr ⟨_, _, toD_ok sim _ _ _ _ r1 hd, toD_ok sim _ _ _ _ r2 he, by unfold PySem.W.alike; exact hs.1, (fun z => nomatch z), hs.2, w.ok sim (rv_bl.2 rfl)⟩)
      · exact False.elim w
    · exact False.elim w
end
/-- the truth of a value -/
def truW (S : Sto) : W → Option Bool
  | .non => some false
  | .bl b => some b
  | .int i => some (i != 0)
  | .str z => if z.length ≤ sizeLine then some ((z.length : Int) != 0) else none
  | .tup xs => some !xs.isEmpty
  | .fl xs => some !xs.isEmpty
  | .ref n => match S[n]? with
    | some (.lst xs) => some !xs.isEmpty
    | some (.dK xs) => some !xs.isEmpty
    | _ => none
  | _ => none
def tV (a : Exp) : Tst := fun s => bd (a s) fun x S => match truW S x with
  | some b => .ok b S
  | none => .bad
section
variable {K : PySem.W.Frag} {mg : Str → Option Value} {m m' : List Addr} {H H' : Hp} {S : Sto}
theorem RVs.isEmpty {ws : List W} {vs : List V} (r : RVs K mg m H ws vs) : ws.isEmpty = vs.isEmpty := by
  cases ws with
  | nil => rw [r.nil_inv]; rfl
  | cons w ws => obtain ⟨v, vr, rfl, _⟩ := r.uncons; rfl
theorem RKs.isEmpty {κ : Type} {ws : List (κ × W)} {vs : List (κ × V)} (r : RKs K mg m H ws vs) : ws.isEmpty = vs.isEmpty := by
  cases ws with
  | nil => unfold RKs at r; subst r; rfl
  | cons w ws => obtain ⟨k, w⟩ := w; unfold RKs at r; obtain ⟨v, vr, rfl, _⟩ := r; rfl
theorem truW_ok (s : Sim K mg m S H) {w : W} {v : V} {b : Bool} (r : RV K mg m H w v) (h : truW S w = some b) : TruV K v H b := by
  cases w with
  | non => cases h; rw [rv_non.1 r]; rfl
  | bl b => cases h; rw [rv_bl.1 r]; rfl
  | int b => cases h; rw [rv_int.1 r]; rfl
  | str z =>
    unfold truW at h
    simp only at h
    split at h
    · rename_i hz; cases h; rw [rv_str.1 r]; exact ⟨hz, rfl⟩
    · cases h
  | tup xs => cases h; obtain ⟨p, vs, rfl, h1, h2⟩ := rv_tup.1 r; exact .inr (.inl ⟨vs, h1, by rw [h2.isEmpty]⟩)
  | fl xs => cases h; unfold RV at r; obtain ⟨p, vs, rfl, h1, h2⟩ := r; exact .inl ⟨vs, h1.sq, by rw [h2.isEmpty]⟩
  | ref n =>
    unfold truW at h
    simp only at h
    unfold RV at r
    obtain ⟨a, h4, rfl⟩ := r
    split at h
    · rename_i xs hn
      cases h
      obtain ⟨a', h1, vs, h2, h3⟩ := s.at hn
      rw [h4] at h1; cases h1
      exact .inl ⟨vs, SqL.of h2, by rw [h3.isEmpty]⟩
    · rename_i xs hn
      cases h
      obtain ⟨a', h1, vs, h2, h3⟩ := s.at hn
      rw [h4] at h1; cases h1
      exact .inr (.inr ⟨vs, h2, by rw [h3.isEmpty]⟩)
    · cases h
  | _ => cases h
variable {X : Cx} {C : Cc} {a : Expr} {fa : Exp}
theorem st_truth (ha : SE X C a fa) (he : ∀ whole, isTrue a X.env whole = (do let v ← whole; standAt a.pos; holding [v] (truthy v)) := by intro _; rfl) : ST X C a (tV fa) := by
  refine PT.imp (pt_truth ha he) fun s' H Q h => ?_
  refine tG.bind h fun m1 S1 s H1 x v z s1 l1 r1 w1 => ?_
  cases hb : truW S1 x with
  | none => rw [hb] at w1; exact False.elim w1
  | some b =>
    rw [hb] at w1
    exact ⟨b, truW_ok s1 r1 hb, w1.ok s1 rfl⟩
end
/-! ### o[i] = e, x op= e, list(range(..)), calls without arguments -/
def sSetIx (fo fi fe : Exp) : Stm := fun s S => onE (bd (fe s) (fun v => bd (fo s) fun o => bd (fi s) fun i S => match o, i with
  | .ref n, .int k => match S[n]? with
    | some (.lst xs) => match ixN xs.length k with
      | some j => .ok W.non (S.set n (.lst (xs.set j v)))
      | none => .bad
    | _ => .bad
  | _, _ => .bad) S) s fun _ S' => .nx s S'
def sAug (i : Nat) (o : W → W → M W) (e : Exp) : Stm := fun s S => match s[i]? with
  | some (some x) => onE (bd (e s) (fun y => o x y) S) s fun w S' => .nx (s.set i (some w)) S'
  | _ => .bad
def iaddM (x y : W) : M W := match x, y with
  | .int i, .int j => rt (.int (i + j))
  | _, _ => bad
def isubM (x y : W) : M W := match x, y with
  | .int i, .int j => rt (.int (i - j))
  | _, _ => bad
def eListR (b : Bool) (f : Sl → M (Int × Int)) : Exp := fun s => bd (f s) fun x => if (inR 4611686018427387903 x.1 && inR 4611686018427387903 x.2) = true ∧ (x.2 - x.1).toNat ≤ 16777216 then (if b = true then new (.lst (rng x.1 (x.2 - x.1).toNat)) else rt (.tup (rng x.1 (x.2 - x.1).toNat))) else bad
def rg1 (a : Exp) : Sl → M (Int × Int) := fun s => bd (a s) fun x => match x with
  | .int n => rt (0, n)
  | _ => bad
def rg2 (a b : Exp) : Sl → M (Int × Int) := fun s => bd (a s) fun x => bd (b s) fun y => match x, y with
  | .int n, .int k => rt (n, k)
  | _, _ => bad
section
variable {X : Cx} {C : Cc} {a b e o i e1 e2 : Expr} {fa fb fe fo fi : Exp} {pos pos' p p2 tpos : Pos}
theorem ss_setIx (he : SE X C e fe) (ho : SE X C o fo) (hi : SE X C i fi) (hs : swapsWithSole [.Subscript o i tpos] e pos.line X.env = pure false := by rfl) (hw : swappedStores [.Subscript o i tpos] e X.env = pure none := by rfl)
    (h1 : (assignEach [.Subscript o i tpos] X.env).map (·.2) = [assign (.Subscript o i tpos) X.env] := by rfl)
    (ha : ∀ v, assign (.Subscript o i tpos) X.env v = (do
      let ov ← holding [v] (eval o X.env)
      let iv ← holding [v, ov] (eval i X.env)
      standAt tpos
      holding [v, ov, iv] (setItem ov iv v)
      release [v, ov, iv] []) := by intro _; rfl) : SS X C (.Assign [.Subscript o i tpos] e pos) (sSetIx fo fi fe) := by
  refine PS.imp (ps_asg he (pg_sub ho hi set_list ha) hs hw h1) fun D s' H h => ?_
  obtain ⟨m, S, s, z, sim, sl, w⟩ := h
  have w' := w.onE (Q' := fun (_ : W) H' => D.nx s' H') (R := fun _ _ _ _ => True) z sl fun u S1 m1 H1 v e s1 r w1 => w1.nx z s1 (sl.mono e)
  refine ⟨m, S, s, z, sim, sl, w'.bind fun v S1 m1 H1 vv e1 s1 r1 w1 => ?_⟩
  refine ⟨m1, S1, s, z, s1, sl.mono e1, w1.bind fun ow S2 m2 H2 ov e2 s2 r2 w2 => ?_⟩
  refine ⟨m2, S2, s, z, s2, (sl.mono e1).mono e2, w2.bind fun iw S3 m3 H3 iv e3 s3 r3 w3 => ?_⟩
  split at w3
  · rename_i n k
    split at w3
    · rename_i xs hn
      split at w3
      · rename_i j hj
        obtain ⟨q, us, h0, rfl, h2, h3⟩ := lst_ok s3 (r2.mono e3) hn
        refine ⟨q, us, k, j, rfl, rv_int.1 r3, h2, by rw [← h3.length]; exact hj, ?_⟩
        have ex : Ext m3 H3 m3 (upd H3 q (.lst (us.set j vv))) := Ext.chg h2 (fun _ z => nomatch z) (fun _ _ z => nomatch z)
        exact w3 m3 _ W.non ex (s3.chg h0 h2 (fun _ z => nomatch z) (fun _ _ z => nomatch z) ⟨_, upd_same, (h3.set ((r1.mono e2).mono e3) j).mono ex⟩) trivial
      · exact False.elim w3
    · exact False.elim w3
  · exact False.elim w3
theorem ss_aug {k : Nat} {x : Str} {op : Operator} {r : TIp} {om : W → W → M W} (hN : X.N.Nodup) (hp : PIp X op r) (hr : O2 X r om) (he : SE X C e fe) (hi : X.N[k]? = some x := by rfl) (hx : Loc X.env.scope x := by first | exact Or.inl rfl | exact Or.inr rfl)
    (hf : X.fn x = true ∨ X.env.scope.names.lookup x = some .local := by first | exact .inl rfl | exact .inr rfl) (hz : ∀ t v, C.Z t → C.Z (t.set k v) := by intro _ _ _; exact True.intro) : SS X C (.AugAssign (.Name x pos') op e pos) (sAug k om fe) := by
  refine PS.imp (ps_aug hN hi hx he hp hf) fun D s' H h => ?_
  obtain ⟨m, S, s, z, sim, sl, w⟩ := h
  unfold sAug at w
  split at w
  · rename_i u hu
    obtain ⟨v, h1, h2⟩ := sl.2 k u hu
    refine ⟨v, h1, ?_⟩
    have w' := w.onE (R := RV X.K X.mg) (Q' := fun zv H2 => D.nx (s'.set k (some zv)) H2) z sl fun u S1 m1 H1 v e s1 r w1 => w1.nx (hz _ _ z) s1 ((sl.mono e).set r)
    exact ⟨m, S, s, z, sim, sl, w'.bind fun y S1 m1 H1 yv e1 s1 r1 w1 => hr u y S1 m1 H1 v yv _ _ s1 (h2.mono e1) r1 w1⟩
  · exact False.elim w
theorem o_iadd : O2 X (ipI fun i j => i + j) iaddM := by
  intro x y S m H v u Q E sim r1 r2 w
  unfold iaddM at w
  split at w
  · exact ⟨_, _, rv_int.1 r1, rv_int.1 r2, w.ok sim (rv_int.2 rfl)⟩
  · exact False.elim w
theorem o_isub : O2 X (ipI fun i j => i - j) isubM := by
  intro x y S m H v u Q E sim r1 r2 w
  unfold isubM at w
  split at w
  · exact ⟨_, _, rv_int.1 r1, rv_int.1 r2, w.ok sim (rv_int.2 rfl)⟩
  · exact False.elim w
def SRg (X : Cx) (C : Cc) (e : Expr) (f : Sl → M (Int × Int)) : Prop := PRg X e (fun s' H Q => tG X.K X.mg (fun _ _ a b => b = a) C f s' H fun x H' => Q x.1 x.2 H')
theorem srg1 (hg : Gl X "range") (hm : X.mg "range" = none) (ha : SE X C a fa) (na : starEach [a] X.env = (false, eval a X.env) :: starEach [] X.env := by rfl) : SRg X C (.Call (.Name "range" p) [a] [] pos) (rg1 fa) := by
  intro pins s σ H Q I h
  refine prg_1 (p := p) (pos := pos) hg hm ha na pins s σ H Q I ?_
  refine tG.bind h fun m1 S1 s H1 x v z s1 l1 r1 w1 => ?_
  split at w1
  · exact ⟨_, rv_int.1 r1, w1.ok s1 rfl⟩
  · exact False.elim w1
theorem srg2 (hg : Gl X "range") (hm : X.mg "range" = none) (ha : SE X C a fa) (hb : SE X C b fb) (na : starEach [a, b] X.env = (false, eval a X.env) :: starEach [b] X.env := by rfl)
    (nb : starEach [b] X.env = (false, eval b X.env) :: starEach [] X.env := by rfl) (hp : (backTo pos (starEach [b] X.env)).any (·.1) = false := by rfl) : SRg X C (.Call (.Name "range" p) [a, b] [] pos) (rg2 fa fb) := by
  intro pins s σ H Q I h
  refine prg_2 (p := p) (pos := pos) hg hm ha hb na nb hp pins s σ H Q I ?_
  refine tG.bind h fun m1 S1 s H1 x v z s1 l1 r1 w1 => ?_
  refine ⟨m1, S1, s, z, s1, l1, w1.bind fun y S2 m2 H2 u e2 s2 r2 w2 => ?_⟩
  split at w2
  · exact ⟨_, _, rv_int.1 (r1.mono e2), rv_int.1 r2, w2.ok s2 rfl⟩
  · exact False.elim w2
theorem rng_rgV {K : PySem.W.Frag} {mg : Str → Option Value} {m : List Addr} {H : Hp} (a b : Int) : RVs K mg m H (rng a (b - a).toNat) (rgV a b) := by
  have e1 : rng a (b - a).toNat = ((List.range (b - a).toNat).map fun (i : Nat) => a + (i : Int)).map W.int := by unfold rng; rw [List.map_map]; rfl
  have e2 : rgV a b = ((List.range (b - a).toNat).map fun (i : Nat) => a + (i : Int)).map V.int := by unfold rgV; rw [List.map_map]; rfl
  rw [e1, e2]
  exact RVs.ints
theorem se_listR {f : Sl → M (Int × Int)} (hc : X.calm = true) (hg : Gl X "list") (hm : X.mg "list" = none) (he : SRg X C e f) (na : starEach [e] X.env = (false, eval e X.env) :: starEach [] X.env := by rfl) : SE X C (.Call (.Name "list" p) [e] [] pos) (eListR true f) := by
  refine PE.imp (pe_listRg hc hg hm he na) fun s' H Q h => ?_
  refine tG.bind h fun m1 S1 s H1 x v z s1 l1 r1 w1 => ?_
  cases r1
  split at w1
  · rename_i hk
    rw [if_pos rfl] at w1
    have k1 := inR62 (Bool.and_eq_true_iff.mp hk.1).1
    have k2 := inR62 (Bool.and_eq_true_iff.mp hk.1).2
    exact ⟨⟨k1.1, k1.2, k2.1, k2.2, hk.2⟩, fun q hq => w1.new s1 hq ⟨_, upd_same, rng_rgV _ _⟩⟩
  · exact False.elim w1
theorem se_tupR {f : Sl → M (Int × Int)} (hc : X.calm = true) (hg : Gl X "tuple") (hm : X.mg "tuple" = none) (he : SRg X C e f) (na : starEach [e] X.env = (false, eval e X.env) :: starEach [] X.env := by rfl) : SE X C (.Call (.Name "tuple" p) [e] [] pos) (eListR false f) := by
  refine PE.imp (pe_tupRg hc hg hm he na) fun s' H Q h => ?_
  refine tG.bind h fun m1 S1 s H1 x v z s1 l1 r1 w1 => ?_
  cases r1
  split at w1
  · rename_i hk
    rw [if_neg Bool.false_ne_true] at w1
    have k1 := inR62 (Bool.and_eq_true_iff.mp hk.1).1
    have k2 := inR62 (Bool.and_eq_true_iff.mp hk.1).2
    exact ⟨⟨k1.1, k1.2, k2.1, k2.2, hk.2⟩, fun q hq => WG.tup w1 s1 hq (rng_rgV _ _)⟩
  · exact False.elim w1
theorem se_lcE {elt tg iter : Expr} {ifs : List Expr} {scope : Scope} {own : List (Str × Nat)} {pos : Pos} {it : Sl → M Src} {gg : TG} {g : Tgt} {tt : Tst} {e : Exp} {vs : List Nat} (hc : X.calm = true) (hN : X.N.Nodup) (hvs : own.map (·.2) = vs) (hi : SI X C tg iter it) (ok : BlkOk X.N X.env.scope scope own)
    (hg : ∀ (s : Shared) (H : Hp) (Ca : Addr) (cl : List (Str × Addr)) (fp : List Addr), PG (X.blk s H scope (compEnvC scope cl Ca X.env) fp) tg gg) (hk : GOK X.K X.mg vs gg g)
    (ht : ∀ (s : Shared) (H : Hp) (Ca : Addr) (cl : List (Str × Addr)) (fp : List Addr), STs (X.blk s H scope (compEnvC scope cl Ca X.env) fp) cS ifs tt)
    (he : ∀ (s : Shared) (H : Hp) (Ca : Addr) (cl : List (Str × Addr)) (fp : List Addr), SE (X.blk s H scope (compEnvC scope cl Ca X.env) fp) cS elt e) (hs : ∀ x, foldedSetIterable iter X.env x = pure x := by intro _; rfl) :
    SE X C (.ListComp elt [⟨tg, iter, ifs, 0⟩] scope pos) (eLc it g tt e vs) := (se_lc hc hN hvs hi ok hg hk ht he hs).1
theorem ss_lc {i : Nat} {y : Str} {py spos : Pos} {elt tg iter : Expr} {ifs : List Expr} {scope : Scope} {own : List (Str × Nat)} {pos : Pos} {it : Sl → M Src} {gg : TG} {g : Tgt} {tt : Tst} {e : Exp} {vs : List Nat} (hc : X.calm = true) (hN : X.N.Nodup) (hvs : own.map (·.2) = vs) (hi : SI X C tg iter it) (ok : BlkOk X.N X.env.scope scope own)
    (hg : ∀ (s : Shared) (H : Hp) (Ca : Addr) (cl : List (Str × Addr)) (fp : List Addr), PG (X.blk s H scope (compEnvC scope cl Ca X.env) fp) tg gg) (hk : GOK X.K X.mg vs gg g)
    (ht : ∀ (s : Shared) (H : Hp) (Ca : Addr) (cl : List (Str × Addr)) (fp : List Addr), STs (X.blk s H scope (compEnvC scope cl Ca X.env) fp) cS ifs tt)
    (he : ∀ (s : Shared) (H : Hp) (Ca : Addr) (cl : List (Str × Addr)) (fp : List Addr), SE (X.blk s H scope (compEnvC scope cl Ca X.env) fp) cS elt e) (hy : X.N[i]? = some y) (hl : X.env.scope.names.lookup y = some .local) (hw : swapsWith (.ListComp elt [⟨tg, iter, ifs, 0⟩] scope pos) (some (.Name y py)) spos.line X.env = pure true) (hz : ∀ t v, C.Z t → C.Z (t.set i v) := by intro _ _ _; exact True.intro) (hs : ∀ x, foldedSetIterable iter X.env x = pure x := by intro _; rfl) :
      SS X C (.Assign [.Name y py] (.ListComp elt [⟨tg, iter, ifs, 0⟩] scope pos) spos) (sAsg i (eLc it g tt e vs)) := (se_lc hc hN hvs hi ok hg hk ht he hs).2 hy hl hw hz
theorem units65 {k : Nat} {A : Around} (r : Room k A) : A.units + 65 < cLine := by have := r.un; omega
end
end Fr

/-! Fr: how a mirror is reckoned: equations for simp -/
namespace Fr
open PySem
def seqK (r : RS) (b : Stm) : RS := match r with
  | .nx s S => b s S
  | r => r
def loopK (r : RS) (k : Stm) : RS := match r with
  | .nx s S => k s S
  | .ct s S => k s S
  | .bk s S => .nx s S
  | r => r
def bdK {α β : Type} (r : Rs α) (k : α → M β) : Rs β := match r with
  | .ok a S => k a S
  | .ex c d S => .ex c d S
  | .bad => .bad
def fnK (r : RS) : Rs W := match r with
  | .rt w S => .ok w S
  | .nx _ S => .ok .non S
  | .ex c d _ S => .ex c d S
  | _ => .bad
section
variable {α β : Type} {c : Prop} [Decidable c]
theorem bd_eq (f : M α) (k : α → M β) (S : Sto) : bd f k S = bdK (f S) k := rfl
theorem bdK_ok (a : α) (S : Sto) (k : α → M β) : bdK (.ok a S) k = k a S := rfl
theorem bdK_ex (x : Str) (d : Option (List (Str × W))) (S : Sto) (k : α → M β) : bdK (.ex x d S) k = .ex x d S := rfl
theorem bdK_bad (k : α → M β) : bdK .bad k = .bad := rfl
theorem bdK_ite (x y : Rs α) (k : α → M β) : bdK (if c then x else y) k = if c then bdK x k else bdK y k := by split <;> rfl
theorem rt_eq (a : α) (S : Sto) : rt a S = .ok a S := rfl
theorem bad_eq (S : Sto) : (bad : M α) S = .bad := rfl
theorem app_ite (f g : M α) (S : Sto) : (if c then f else g) S = if c then f S else g S := by split <;> rfl
theorem onE_ok (a : α) (S : Sto) (s : Sl) (k : α → Sto → RS) : onE (.ok a S) s k = k a S := rfl
theorem onE_ex (x : Str) (d : Option (List (Str × W))) (S : Sto) (s : Sl) (k : α → Sto → RS) : onE (.ex x d S) s k = .ex x d s S := rfl
theorem onE_bad (s : Sl) (k : α → Sto → RS) : onE .bad s k = .bad := rfl
theorem onE_ite (x y : Rs α) (s : Sl) (k : α → Sto → RS) : onE (if c then x else y) s k = if c then onE x s k else onE y s k := by split <;> rfl
theorem seq_eq (a b : Stm) (s : Sl) (S : Sto) : sSeq a b s S = seqK (a s S) b := by unfold sSeq seqK; cases a s S <;> rfl
theorem seqK_nx (s : Sl) (S : Sto) (b : Stm) : seqK (.nx s S) b = b s S := rfl
theorem seqK_rt (w : W) (S : Sto) (b : Stm) : seqK (.rt w S) b = .rt w S := rfl
theorem seqK_bk (s : Sl) (S : Sto) (b : Stm) : seqK (.bk s S) b = .bk s S := rfl
theorem seqK_ct (s : Sl) (S : Sto) (b : Stm) : seqK (.ct s S) b = .ct s S := rfl
theorem seqK_ex (x : Str) (d : Option (List (Str × W))) (s : Sl) (S : Sto) (b : Stm) : seqK (.ex x d s S) b = .ex x d s S := rfl
theorem seqK_bad (b : Stm) : seqK .bad b = .bad := rfl
theorem seqK_ite (x y : RS) (b : Stm) : seqK (if c then x else y) b = if c then seqK x b else seqK y b := by split <;> rfl
theorem loopK_nx (s : Sl) (S : Sto) (b : Stm) : loopK (.nx s S) b = b s S := rfl
theorem loopK_ct (s : Sl) (S : Sto) (b : Stm) : loopK (.ct s S) b = b s S := rfl
theorem loopK_bk (s : Sl) (S : Sto) (b : Stm) : loopK (.bk s S) b = .nx s S := rfl
theorem loopK_rt (w : W) (S : Sto) (b : Stm) : loopK (.rt w S) b = .rt w S := rfl
theorem loopK_ex (x : Str) (d : Option (List (Str × W))) (s : Sl) (S : Sto) (b : Stm) : loopK (.ex x d s S) b = .ex x d s S := rfl
theorem loopK_bad (b : Stm) : loopK .bad b = .bad := rfl
theorem loopK_ite (x y : RS) (b : Stm) : loopK (if c then x else y) b = if c then loopK x b else loopK y b := by split <;> rfl
theorem fn_eq (n : Nat) (b : Stm) (ws : List W) (S : Sto) : fnM n b ws S = fnK (b (ws.map some ++ List.replicate (n - ws.length) none) S) := rfl
theorem fnK_rt (w : W) (S : Sto) : fnK (.rt w S) = .ok w S := rfl
theorem fnK_nx (s : Sl) (S : Sto) : fnK (.nx s S) = .ok .non S := rfl
theorem fnK_ex (x : Str) (d : Option (List (Str × W))) (s : Sl) (S : Sto) : fnK (.ex x d s S) = .ex x d S := rfl
theorem fnK_ite (x y : RS) : fnK (if c then x else y) = if c then fnK x else fnK y := by split <;> rfl
end
/-! expressions -/
theorem eVar_0 (w : W) (s : Sl) (S : Sto) : eVar 0 (some w :: s) S = .ok w S := rfl
theorem eVar_s (i : Nat) (o : Option W) (s : Sl) (S : Sto) : eVar (i + 1) (o :: s) S = eVar i s S := rfl
theorem eC_eq (w : W) (s : Sl) (S : Sto) : eC w s S = .ok w S := rfl
theorem eOp_eq (o : W → W → M W) (a b : Exp) (s : Sl) (S : Sto) : eOp o a b s S = bdK (a s S) (fun x => bd (b s) (o x)) := rfl
theorem eUn_eq (o : W → M W) (a : Exp) (s : Sl) (S : Sto) : eUn o a s S = bdK (a s S) o := rfl
def boK (k : Bool → M W) (x : W) : M W := match x with
  | .bl b => k b
  | _ => bad
def tbK (x : W) : M Bool := match x with
  | .bl b => rt b
  | _ => bad
theorem eAnd_eq (a b : Exp) (s : Sl) (S : Sto) : eAnd a b s S = bdK (a s S) (boK fun k => if k = true then b s else rt (.bl false)) := by
  unfold eAnd bd bdK
  cases a s S with
  | ok x S' => cases x with
    | bl k => cases k <;> rfl
    | _ => rfl
  | _ => rfl
theorem eOr_eq (a b : Exp) (s : Sl) (S : Sto) : eOr a b s S = bdK (a s S) (boK fun k => if k = true then rt (.bl true) else b s) := by
  unfold eOr bd bdK
  cases a s S with
  | ok x S' => cases x with
    | bl k => cases k <;> rfl
    | _ => rfl
  | _ => rfl
theorem eNot_eq (a : Exp) (s : Sl) (S : Sto) : eNot a s S = bdK (a s S) (boK fun k => rt (.bl !k)) := by
  unfold eNot bd bdK
  cases a s S with
  | ok x S' => cases x with
    | bl k => cases k <;> rfl
    | _ => rfl
  | _ => rfl
theorem boK_bl (k : Bool → M W) (b : Bool) (S : Sto) : boK k (.bl b) S = k b S := rfl
theorem eIf_eq (c : Tst) (a b : Exp) (s : Sl) (S : Sto) : eIf c a b s S = bdK (c s S) (fun k => if k = true then a s else b s) := rfl
theorem eChain_eq (o o' : W → W → M W) (a b c : Exp) (s : Sl) (S : Sto) : eChain o o' a b c s S = bdK (a s S) (fun x => bd (b s) fun y => bd (o x y) (boK fun k => if k = true then bd (c s) (o' y) else rt (.bl false))) := by
  unfold eChain bd bdK
  cases a s S with
  | ok x S1 =>
    simp only
    cases b s S1 with
    | ok y S2 =>
      simp only
      cases o x y S2 with
      | ok z S3 => cases z with
        | bl k => cases k <;> rfl
        | _ => rfl
      | _ => rfl
    | _ => rfl
  | _ => rfl
theorem tB_eq (a : Exp) (s : Sl) (S : Sto) : tB a s S = bdK (a s S) tbK := by
  unfold tB bd bdK
  cases a s S with
  | ok x S' => cases x <;> rfl
  | _ => rfl
theorem tbK_bl (b : Bool) (S : Sto) : tbK (.bl b) S = .ok b S := rfl
theorem tAnd_eq (a b : Tst) (s : Sl) (S : Sto) : tAnd a b s S = bdK (a s S) (fun k => if k = true then b s else rt false) := rfl
theorem tOr_eq (a b : Tst) (s : Sl) (S : Sto) : tOr a b s S = bdK (a s S) (fun k => if k = true then rt true else b s) := rfl
theorem tNot_eq (a : Tst) (s : Sl) (S : Sto) : tNot a s S = bdK (a s S) (fun k => rt !k) := rfl
theorem aNil_eq (s : Sl) (S : Sto) : aNil s S = .ok [] S := rfl
theorem aCons_eq (a : Exp) (r : Arg) (s : Sl) (S : Sto) : aCons a r s S = bdK (a s S) (fun x => bd (r s) fun xs => rt (x :: xs)) := rfl
theorem eTup_eq (a : Arg) (s : Sl) (S : Sto) : eTup a s S = bdK (a s S) (fun xs => if xs.length ≤ sizeLine then rt (.tup xs) else bad) := rfl
theorem eLst_eq (a : Arg) (s : Sl) (S : Sto) : eLst a s S = bdK (a s S) (fun xs => if xs.length ≤ sizeLine then new (.lst xs) else bad) := rfl
theorem new_eq (o : Ob) (S : Sto) : new o S = .ok (.ref S.length) (S ++ [o]) := rfl
theorem eB_eq (f : List W → M W) (a : Arg) (s : Sl) (S : Sto) : eB f a s S = bdK (a s S) f := rfl
theorem eCall_eq (f : Fn) (a : Arg) (s : Sl) (S : Sto) : eCall f a s S = bdK (a s S) f := rfl
theorem eM_eq (T : String) (f : W → List W → M W) (o : Exp) (a : Arg) (s : Sl) (S : Sto) : eM T f o a s S = bdK (o s S) (fun x S => if tyM T x S = true then bdK (a s S) (f x) else .bad) := rfl
theorem eSl_eq (f : Exp) (lo hi : Sl → M (Option Int)) (s : Sl) (S : Sto) : eSl f lo hi s S = bdK (f s S) (fun x => bd (lo s) fun l => bd (hi s) fun u => slM x l u) := rfl
theorem oNone_eq (s : Sl) (S : Sto) : oNone s S = .ok none S := rfl
def intK (x : W) : M (Option Int) := match x with
  | .int i => rt (some i)
  | _ => bad
theorem oSome_eq (f : Exp) (s : Sl) (S : Sto) : oSome f s S = bdK (f s S) intK := by
  unfold oSome bd bdK
  cases f s S with
  | ok x S' => cases x <;> rfl
  | _ => rfl
theorem intK_int (i : Int) (S : Sto) : intK (.int i) S = .ok (some i) S := rfl
/-! statements -/
theorem sNil_eq (s : Sl) (S : Sto) : sNil s S = .nx s S := rfl
theorem sExpr_eq (e : Exp) (s : Sl) (S : Sto) : sExpr e s S = onE (e s S) s (fun _ S' => .nx s S') := rfl
theorem sRet_eq (e : Exp) (s : Sl) (S : Sto) : sRet e s S = onE (e s S) s (fun w S' => .rt w S') := rfl
theorem sRetN_eq (s : Sl) (S : Sto) : sRetN s S = .rt .non S := rfl
theorem sIf_eq (c : Tst) (a b : Stm) (s : Sl) (S : Sto) : sIf c a b s S = onE (c s S) s (fun k S' => if k = true then a s S' else b s S') := rfl
theorem sAsg_eq (i : Nat) (e : Exp) (s : Sl) (S : Sto) : sAsg i e s S = onE (e s S) s (fun w S' => .nx (s.set i (some w)) S') := rfl
theorem sRaise_eq (c : Str) (s : Sl) (S : Sto) : sRaise c s S = .ex c none s S := rfl
theorem sBreak_eq (s : Sl) (S : Sto) : sBreak s S = .bk s S := rfl
theorem sCont_eq (s : Sl) (S : Sto) : sCont s S = .ct s S := rfl
def srcK (g : Tgt) (b : Stm) (s : Sl) (src : Src) (S : Sto) : RS := match src with
  | .vals xs => forV g b xs s S
  | .live n => match S[n]? with
    | some (.lst ys) => forL g b n ys.length ys.length s S
    | _ => .bad
  | .gen n f c => forG g b n f c n s S
theorem srcK_gen (g : Tgt) (b : Stm) (s : Sl) (n : Nat) (f : Nat → Sto → Option W) (c : Sto → Bool) (S : Sto) : srcK g b s (.gen n f c) S = forG g b n f c n s S := rfl
theorem sFor_eq (it : Sl → M Src) (g : Tgt) (b : Stm) (s : Sl) (S : Sto) : sFor it g b s S = onE (it s S) s (srcK g b s) := rfl
theorem srcK_vals (g : Tgt) (b : Stm) (s : Sl) (xs : List W) (S : Sto) : srcK g b s (.vals xs) S = forV g b xs s S := rfl
theorem srcK_live (g : Tgt) (b : Stm) (s : Sl) (n : Nat) (ys : List W) (S : Sto) (h : S[n]? = some (.lst ys)) : srcK g b s (.live n) S = forL g b n ys.length ys.length s S := by
  unfold srcK
  simp only [h]
theorem iE_eq (f : Exp) (s : Sl) (S : Sto) : iE f s S = bdK (f s S) srcOf := rfl
theorem srcOf_tup (xs : List W) (S : Sto) : srcOf (.tup xs) S = .ok (.vals xs) S := rfl
theorem srcOf_fl (xs : List W) (S : Sto) : srcOf (.fl xs) S = .ok (.vals xs) S := rfl
theorem srcOf_str (x : Str) (S : Sto) : srcOf (.str x) S = .ok (.vals (x.cps.toList.map chr1)) S := rfl
theorem srcOf_ref (n : Nat) (ys : List W) (S : Sto) (h : S[n]? = some (.lst ys)) : srcOf (.ref n) S = .ok (.live n) S := by
  unfold srcOf
  simp only [h]
theorem iR1_int (f : Arg) (s : Sl) (S S' : Sto) (j : Int) (h : f s S = .ok [.int j] S') (h1 : inR 4611686018427387903 j = true) : iR1 f s S = .ok (.vals (rng 0 j.toNat)) S' := by
  unfold iR1 bd
  rw [h]
  simp only [if_pos h1]
  rfl
theorem iR2_int (f : Arg) (s : Sl) (S S' : Sto) (i j : Int) (h : f s S = .ok [.int i, .int j] S') (h1 : (inR 4611686018427387903 i && inR 4611686018427387903 j) = true) : iR2 f s S = .ok (.vals (rng i (j - i).toNat)) S' := by
  unfold iR2 bd
  rw [h]
  simp only [if_pos h1]
  rfl
theorem forV_nil (g : Tgt) (b : Stm) (s : Sl) (S : Sto) : forV g b [] s S = .nx s S := rfl
theorem forV_gN (i : Nat) (b : Stm) (x : W) (xs : List W) (s : Sl) (S : Sto) : forV (gN i) b (x :: xs) s S = loopK (b (s.set i (some x)) S) (forV (gN i) b xs) := by
  unfold forV gN loopK
  simp only <;> (cases b (s.set i (some x)) S <;> rfl)
theorem forL_gN (i a n : Nat) (b : Stm) (k : Nat) (x : W) (ys : List W) (s : Sl) (S : Sto) (h : S[a]? = some (.lst ys)) (hn : ys.length = n) (hx : ys[n - (k + 1)]? = some x) :
    forL (gN i) b a n (k + 1) s S = loopK (b (s.set i (some x)) S) (forL (gN i) b a n k) := by
  unfold forL gN loopK
  simp only [h, hn, if_true, hx] <;> (cases b (s.set i (some x)) S <;> rfl)
theorem forL_0 (i a n : Nat) (g : Tgt) (b : Stm) (ys : List W) (s : Sl) (S : Sto) (h : S[a]? = some (.lst ys)) (hn : ys.length = n) : forL g b a n 0 s S = .nx s S := by
  unfold forL
  simp only [h, hn, if_true]
/-! operations -/
theorem addM_int (i j : Int) (S : Sto) : addM (.int i) (.int j) S = .ok (.int (i + j)) S := rfl
theorem addM_str (a b : Str) (S : Sto) : addM (.str a) (.str b) S = if a.length + b.length ≤ sizeLine then .ok (.str (a ++ b)) S else .bad := by unfold addM; simp only <;> (split <;> rfl)
theorem addM_tup (a b : List W) (S : Sto) : addM (.tup a) (.tup b) S = if a.length + b.length ≤ sizeLine then .ok (.tup (a ++ b)) S else .bad := by unfold addM; simp only <;> (split <;> rfl)
theorem subM_int (i j : Int) (S : Sto) : subM (.int i) (.int j) S = .ok (.int (i - j)) S := rfl
theorem mulM_int (i j : Int) (S : Sto) : mulM (.int i) (.int j) S = if (inR 18446744073709551615 i || inR 18446744073709551615 j) = true then .ok (.int (i * j)) S else .bad := by unfold mulM; simp only <;> (split <;> rfl)
theorem mulM_str (a : Str) (n : Int) (S : Sto) : mulM (.str a) (.int n) S = if 2 ≤ n ∧ n ≤ 1000 ∧ 1 ≤ a.length ∧ a.length ≤ 1000 then .ok (.str (strRep a n.toNat)) S else .bad := by unfold mulM; simp only <;> (split <;> rfl)
theorem modM_int (i j : Int) (S : Sto) : modM (.int i) (.int j) S = if j ≠ 0 then .ok (.int (i.fmod j)) S else .bad := by unfold modM; simp only <;> (split <;> rfl)
theorem fdivM_int (i j : Int) (S : Sto) : fdivM (.int i) (.int j) S = if j ≠ 0 ∧ j.natAbs < 1073741824 then .ok (.int (i.fdiv j)) S else .bad := by unfold fdivM; simp only <;> (split <;> rfl)
theorem powM_int (i j : Int) (S : Sto) : powM (.int i) (.int j) S = if 0 ≤ j ∧ j ≤ 1000000 ∧ i.natAbs < 2 ^ 64 then .ok (.int (i ^ j.toNat)) S else .bad := by unfold powM; simp only <;> (split <;> rfl)
theorem negM_int (i : Int) (S : Sto) : negM (.int i) S = .ok (.int (-i)) S := rfl
theorem ltM_int (i j : Int) (S : Sto) : ltM (.int i) (.int j) S = .ok (.bl (decide (i < j))) S := rfl
theorem leM_int (i j : Int) (S : Sto) : leM (.int i) (.int j) S = .ok (.bl (decide (i ≤ j))) S := rfl
theorem gtM_int (i j : Int) (S : Sto) : gtM (.int i) (.int j) S = .ok (.bl (decide (j < i))) S := rfl
theorem geM_int (i j : Int) (S : Sto) : geM (.int i) (.int j) S = .ok (.bl (decide (j ≤ i))) S := rfl
theorem eqM_int (i j : Int) (S : Sto) : eqM (.int i) (.int j) S = .ok (.bl (decide (i = j))) S := rfl
theorem eqM_str (i j : Str) (S : Sto) : eqM (.str i) (.str j) S = .ok (.bl (decide (i = j))) S := rfl
theorem eqM_bl (i j : Bool) (S : Sto) : eqM (.bl i) (.bl j) S = .ok (.bl (decide (i = j))) S := rfl
theorem neM_int (i j : Int) (S : Sto) : neM (.int i) (.int j) S = .ok (.bl !(decide (i = j))) S := rfl
theorem neM_str (i j : Str) (S : Sto) : neM (.str i) (.str j) S = .ok (.bl !(decide (i = j))) S := rfl
theorem neM_bl (i j : Bool) (S : Sto) : neM (.bl i) (.bl j) S = .ok (.bl !(decide (i = j))) S := rfl
theorem isM_non (S : Sto) : isM .non .non S = .ok (.bl true) S := rfl
theorem isM_int (i : Int) (S : Sto) : isM (.int i) .non S = .ok (.bl false) S := rfl
theorem isM_str (i : Str) (S : Sto) : isM (.str i) .non S = .ok (.bl false) S := rfl
theorem isM_bl (i : Bool) (S : Sto) : isM (.bl i) .non S = .ok (.bl false) S := rfl
theorem isM_tup (i : List W) (S : Sto) : isM (.tup i) .non S = .ok (.bl false) S := rfl
theorem isM_ref (i : Nat) (S : Sto) : isM (.ref i) .non S = .ok (.bl false) S := rfl
theorem inM_str (i j : Str) (S : Sto) : inM (.str i) (.str j) S = .ok (.bl (subS i j)) S := rfl
theorem notInM_str (i j : Str) (S : Sto) : notInM (.str i) (.str j) S = .ok (.bl !(subS i j)) S := rfl
theorem lenM_str (z : Str) (S : Sto) : lenM [.str z] S = if z.length ≤ sizeLine then .ok (.int z.length) S else .bad := by unfold lenM; simp only <;> (split <;> rfl)
theorem lenM_tup (z : List W) (S : Sto) : lenM [.tup z] S = .ok (.int z.length) S := rfl
theorem lenM_fl (z : List W) (S : Sto) : lenM [.fl z] S = .ok (.int z.length) S := rfl
theorem lenM_ref (n : Nat) (ys : List W) (S : Sto) (h : S[n]? = some (.lst ys)) : lenM [.ref n] S = .ok (.int ys.length) S := by unfold lenM; simp only [h]
theorem intM_int (i : Int) (S : Sto) : intM [.int i] S = .ok (.int i) S := rfl
theorem appendM_ref (n : Nat) (xs : List W) (y : W) (S : Sto) (h : S[n]? = some (.lst xs)) (hl : xs.length < sizeLine) : appendM (.ref n) [y] S = .ok .non (S.set n (.lst (xs ++ [y]))) := by unfold appendM; simp only [h, hl, if_true]
theorem popM_ref (n : Nat) (xs : List W) (y : W) (S : Sto) (h : S[n]? = some (.lst (xs ++ [y]))) : popM (.ref n) [] S = .ok y (S.set n (.lst xs)) := by
  unfold popM
  simp only [h, List.length_append, List.length_cons, List.length_nil]
  rw [List.getElem?_append_right (by omega)]
  simp
theorem reverseM_ref (n : Nat) (xs : List W) (S : Sto) (h : S[n]? = some (.lst xs)) : reverseM (.ref n) [] S = .ok .non (S.set n (.lst xs.reverse)) := by unfold reverseM; simp only [h]
theorem tyM_ref (n : Nat) (xs : List W) (S : Sto) (h : S[n]? = some (.lst xs)) : tyM "list" (.ref n) S = true := by unfold tyM; simp only [h]; rfl
theorem tyM_str (x : Str) (S : Sto) : tyM "str" (.str x) S = true := rfl
theorem ixM_tup (xs : List W) (i : Int) (w : W) (S : Sto) (h : L2.atI xs i = some w) : ixM (.tup xs) (.int i) S = .ok w S := by unfold ixM; simp only [h]; rfl
theorem ixM_str (x : Str) (i : Int) (c : Nat) (S : Sto) (hl : x.length ≤ sizeLine) (h : L2.atI x.cps.toList i = some c) : ixM (.str x) (.int i) S = .ok (chr1 c) S := by unfold ixM; simp only [h, hl, if_true]; rfl
theorem ixM_ref (n : Nat) (xs : List W) (i : Int) (w : W) (S : Sto) (hn : S[n]? = some (.lst xs)) (h : L2.atI xs i = some w) : ixM (.ref n) (.int i) S = .ok w S := by unfold ixM; simp only [hn, h]
theorem slM_str (z : Str) (lo hi : Option Int) (S : Sto) : slM (.str z) lo hi S = if z.length ≤ sizeLine then .ok (.str (L2.cutS z lo hi)) S else .bad := by unfold slM; simp only <;> (split <;> rfl)
theorem isiM_eq (x : W) (n t : String) (r : Bool) (S : Sto) (h : tyN S x = some t) (hk : L2.kitB t n = some r) : isiM [x, .ty n] S = .ok (.bl r) S := by unfold isiM; simp only [h, hk]
/-! isinstance -/
def resK (o : Option Bool) (S : Sto) : Rs W := match o with
  | some b => .ok (.bl b) S
  | none => .bad
theorem resK_some (b : Bool) (S : Sto) : resK (some b) S = .ok (.bl b) S := rfl
theorem kb_NoneType_bool : L2.kitB "NoneType" "bool" = some false := by decide +kernel
theorem kb_NoneType_int : L2.kitB "NoneType" "int" = some false := by decide +kernel
theorem kb_NoneType_str : L2.kitB "NoneType" "str" = some false := by decide +kernel
theorem kb_NoneType_tuple : L2.kitB "NoneType" "tuple" = some false := by decide +kernel
theorem kb_NoneType_list : L2.kitB "NoneType" "list" = some false := by decide +kernel
theorem kb_NoneType_dict : L2.kitB "NoneType" "dict" = some false := by decide +kernel
theorem kb_bool_bool : L2.kitB "bool" "bool" = some true := by decide +kernel
theorem kb_bool_int : L2.kitB "bool" "int" = some true := by decide +kernel
theorem kb_bool_str : L2.kitB "bool" "str" = some false := by decide +kernel
theorem kb_bool_tuple : L2.kitB "bool" "tuple" = some false := by decide +kernel
theorem kb_bool_list : L2.kitB "bool" "list" = some false := by decide +kernel
theorem kb_bool_dict : L2.kitB "bool" "dict" = some false := by decide +kernel
theorem kb_int_bool : L2.kitB "int" "bool" = some false := by decide +kernel
theorem kb_int_int : L2.kitB "int" "int" = some true := by decide +kernel
theorem kb_int_str : L2.kitB "int" "str" = some false := by decide +kernel
theorem kb_int_tuple : L2.kitB "int" "tuple" = some false := by decide +kernel
theorem kb_int_list : L2.kitB "int" "list" = some false := by decide +kernel
theorem kb_int_dict : L2.kitB "int" "dict" = some false := by decide +kernel
theorem kb_str_bool : L2.kitB "str" "bool" = some false := by decide +kernel
theorem kb_str_int : L2.kitB "str" "int" = some false := by decide +kernel
theorem kb_str_str : L2.kitB "str" "str" = some true := by decide +kernel
theorem kb_str_tuple : L2.kitB "str" "tuple" = some false := by decide +kernel
theorem kb_str_list : L2.kitB "str" "list" = some false := by decide +kernel
theorem kb_str_dict : L2.kitB "str" "dict" = some false := by decide +kernel
theorem kb_tuple_bool : L2.kitB "tuple" "bool" = some false := by decide +kernel
theorem kb_tuple_int : L2.kitB "tuple" "int" = some false := by decide +kernel
theorem kb_tuple_str : L2.kitB "tuple" "str" = some false := by decide +kernel
theorem kb_tuple_tuple : L2.kitB "tuple" "tuple" = some true := by decide +kernel
theorem kb_tuple_list : L2.kitB "tuple" "list" = some false := by decide +kernel
theorem kb_tuple_dict : L2.kitB "tuple" "dict" = some false := by decide +kernel
theorem kb_list_bool : L2.kitB "list" "bool" = some false := by decide +kernel
theorem kb_list_int : L2.kitB "list" "int" = some false := by decide +kernel
theorem kb_list_str : L2.kitB "list" "str" = some false := by decide +kernel
theorem kb_list_tuple : L2.kitB "list" "tuple" = some false := by decide +kernel
theorem kb_list_list : L2.kitB "list" "list" = some true := by decide +kernel
theorem kb_list_dict : L2.kitB "list" "dict" = some false := by decide +kernel
theorem kb_dict_bool : L2.kitB "dict" "bool" = some false := by decide +kernel
theorem kb_dict_int : L2.kitB "dict" "int" = some false := by decide +kernel
theorem kb_dict_str : L2.kitB "dict" "str" = some false := by decide +kernel
theorem kb_dict_tuple : L2.kitB "dict" "tuple" = some false := by decide +kernel
theorem kb_dict_list : L2.kitB "dict" "list" = some false := by decide +kernel
theorem kb_dict_dict : L2.kitB "dict" "dict" = some true := by decide +kernel
theorem isiM_non (n : String) (S : Sto) : isiM [.non, .ty n] S = resK (L2.kitB "NoneType" n) S := by unfold isiM resK; simp only [tyN] <;> (split <;> simp_all)
theorem isiM_bl (b : Bool) (n : String) (S : Sto) : isiM [.bl b, .ty n] S = resK (L2.kitB "bool" n) S := by unfold isiM resK; simp only [tyN] <;> (split <;> simp_all)
theorem isiM_int (b : Int) (n : String) (S : Sto) : isiM [.int b, .ty n] S = resK (L2.kitB "int" n) S := by unfold isiM resK; simp only [tyN] <;> (split <;> simp_all)
theorem isiM_str (b : Str) (n : String) (S : Sto) : isiM [.str b, .ty n] S = resK (L2.kitB "str" n) S := by unfold isiM resK; simp only [tyN] <;> (split <;> simp_all)
theorem isiM_tup (b : List W) (n : String) (S : Sto) : isiM [.tup b, .ty n] S = resK (L2.kitB "tuple" n) S := by unfold isiM resK; simp only [tyN] <;> (split <;> simp_all)
theorem isiM_ref (k : Nat) (xs : List W) (n : String) (S : Sto) (h : S[k]? = some (.lst xs)) : isiM [.ref k, .ty n] S = resK (L2.kitB "list" n) S := by unfold isiM resK; simp only [tyN, h] <;> (split <;> simp_all)
/-! ### the store -/
def obL {α : Type} (o : Option Ob) (k : List W → Rs α) : Rs α := match o with
  | some (.lst xs) => k xs
  | _ => .bad
def obS (o : Option Ob) (k : List W → RS) : RS := match o with
  | some (.lst xs) => k xs
  | _ => .bad
def optK {α β : Type} (o : Option α) (k : α → Rs β) : Rs β := match o with
  | some x => k x
  | none => .bad
def isLst (o : Option Ob) : Bool := match o with
  | some (.lst _) => true
  | _ => false
theorem obL_lst {α : Type} (xs : List W) (k : List W → Rs α) : obL (some (.lst xs)) k = k xs := rfl
theorem obS_lst (xs : List W) (k : List W → RS) : obS (some (.lst xs)) k = k xs := rfl
theorem optK_some {α β : Type} (x : α) (k : α → Rs β) : optK (some x) k = k x := rfl
theorem isLst_lst (xs : List W) : isLst (some (.lst xs)) = true := rfl
theorem appendM_eq (n : Nat) (y : W) (S : Sto) : appendM (.ref n) [y] S = obL S[n]? fun xs => if xs.length < sizeLine then .ok .non (S.set n (.lst (xs ++ [y]))) else .bad := by
  unfold appendM obL; simp only <;> (cases S[n]? with
  | none => rfl
  | some o => cases o <;> rfl)
theorem popM_eq (n : Nat) (S : Sto) : popM (.ref n) [] S = obL S[n]? fun xs => optK xs[xs.length - 1]? fun y => .ok y (S.set n (.lst xs.dropLast)) := by
  unfold popM obL optK; simp only <;> (cases S[n]? with
  | none => rfl
  | some o => cases o with
    | lst xs => simp only; cases xs[xs.length - 1]? <;> rfl
    | _ => rfl)
theorem reverseM_eq (n : Nat) (S : Sto) : reverseM (.ref n) [] S = obL S[n]? fun xs => .ok .non (S.set n (.lst xs.reverse)) := by
  unfold reverseM obL; simp only <;> (cases S[n]? with
  | none => rfl
  | some o => cases o <;> rfl)
theorem lenM_refE (n : Nat) (S : Sto) : lenM [.ref n] S = obL S[n]? fun ys => .ok (.int ys.length) S := by
  unfold lenM obL; simp only <;> (cases S[n]? with
  | none => rfl
  | some o => cases o <;> rfl)
theorem ixM_refE (n : Nat) (i : Int) (S : Sto) : ixM (.ref n) (.int i) S = obL S[n]? fun xs => optK (L2.atI xs i) fun w => .ok w S := by
  unfold ixM obL optK; simp only <;> (cases S[n]? with
  | none => rfl
  | some o => cases o with
    | lst xs => simp only; cases L2.atI xs i <;> rfl
    | _ => rfl)
theorem ixM_tupE (xs : List W) (i : Int) (S : Sto) : ixM (.tup xs) (.int i) S = optK (L2.atI xs i) fun w => .ok w S := by
  unfold ixM optK; simp only <;> (cases L2.atI xs i <;> rfl)
theorem ixM_flE (xs : List W) (i : Int) (S : Sto) : ixM (.fl xs) (.int i) S = optK (L2.atI xs i) fun w => .ok w S := by
  unfold ixM optK; simp only <;> (cases L2.atI xs i <;> rfl)
theorem ixM_strE (x : Str) (i : Int) (S : Sto) : ixM (.str x) (.int i) S = if x.length ≤ sizeLine then optK (L2.atI x.cps.toList i) fun c => .ok (chr1 c) S else .bad := by
  unfold ixM optK; simp only
  by_cases h : x.length ≤ sizeLine
  · rw [if_pos h, if_pos h]; cases L2.atI x.cps.toList i <;> rfl
  · rw [if_neg h, if_neg h]; rfl
theorem srcOf_refE (n : Nat) (S : Sto) : srcOf (.ref n) S = obL S[n]? fun _ => .ok (.live n) S := by
  unfold srcOf obL; simp only <;> (cases S[n]? with
  | none => rfl
  | some o => cases o <;> rfl)
theorem srcK_liveE (g : Tgt) (b : Stm) (s : Sl) (n : Nat) (S : Sto) : srcK g b s (.live n) S = obS S[n]? fun ys => forL g b n ys.length ys.length s S := by
  unfold srcK obS; simp only
theorem tyM_refE (n : Nat) (S : Sto) : tyM "list" (.ref n) S = isLst S[n]? := by
  unfold tyM isLst; simp only <;> (cases S[n]? with
  | none => rfl
  | some o => cases o <;> rfl)
theorem isiM_refE (k : Nat) (n : String) (S : Sto) (xs : List W) (h : S[k]? = some (.lst xs)) : isiM [.ref k, .ty n] S = resK (L2.kitB "list" n) S := isiM_ref k xs n S h
theorem get_last (S : Sto) (o : Ob) : (S ++ [o])[S.length]? = some o := by simp
theorem set_last (S : Sto) (o o' : Ob) : (S ++ [o]).set S.length o' = S ++ [o'] := by simp [List.set_append]
theorem get_old {S : Sto} {n : Nat} {o : Ob} (r : Sto) (h : S[n]? = some o) : (S ++ r)[n]? = some o := by
  rw [List.getElem?_append_left (List.getElem?_eq_some_iff.mp h).1]; exact h
theorem set_get {S : Sto} {n : Nat} {o o' : Ob} (h : S[n]? = some o) : (S.set n o')[n]? = some o' := List.getElem?_set_self (List.getElem?_eq_some_iff.mp h).1
/-! tries -/
def tryK (r : RS) (tab : List (Str × Bool)) (su : Str → Option (List (Str × W)) → Stm) : RS := match r with
  | .ex c d s1 S1 => match lookX tab c with
    | some true => noEx (su c d s1 S1)
    | some false => .ex c d s1 S1
    | none => .bad
  | r => r
theorem sTry_eq (b : Stm) (tab : List (Str × Bool)) (su : Str → Option (List (Str × W)) → Stm) (s : Sl) (S : Sto) : sTry b tab su s S = tryK (b s S) tab su := by
  unfold sTry tryK; first | rfl | (cases b s S <;> rfl)
theorem tryK_nx (s : Sl) (S : Sto) (tab : List (Str × Bool)) (su : Str → Option (List (Str × W)) → Stm) : tryK (.nx s S) tab su = .nx s S := rfl
theorem tryK_rt (w : W) (S : Sto) (tab : List (Str × Bool)) (su : Str → Option (List (Str × W)) → Stm) : tryK (.rt w S) tab su = .rt w S := rfl
theorem tryK_yes (c : Str) (d : Option (List (Str × W))) (s : Sl) (S : Sto) (tab : List (Str × Bool)) (su : Str → Option (List (Str × W)) → Stm) (h : lookX tab c = some true) : tryK (.ex c d s S) tab su = noEx (su c d s S) := by
  unfold tryK; simp only [h]
theorem tryK_no (c : Str) (d : Option (List (Str × W))) (s : Sl) (S : Sto) (tab : List (Str × Bool)) (su : Str → Option (List (Str × W)) → Stm) (h : lookX tab c = some false) : tryK (.ex c d s S) tab su = .ex c d s S := by
  unfold tryK; simp only [h]
theorem noEx_nx (s : Sl) (S : Sto) : noEx (.nx s S) = .nx s S := rfl
theorem noEx_rt (w : W) (S : Sto) : noEx (.rt w S) = .rt w S := rfl
def tryAsK (i : Nat) (r : RS) (tab : List (Str × Bool)) (su : Str → Option (List (Str × W)) → Stm) : RS := match r with
  | .ex c d s1 S1 => match lookX tab c with
    | some true => if i < s1.length then dropS i (noEx (su c d (s1.set i none) S1)) else .bad
    | some false => .ex c d s1 S1
    | none => .bad
  | r => r
theorem sTryAs_eq (i : Nat) (b : Stm) (tab : List (Str × Bool)) (su : Str → Option (List (Str × W)) → Stm) (s : Sl) (S : Sto) : sTryAs i b tab su s S = tryAsK i (b s S) tab su := by
  unfold sTryAs tryAsK; first | rfl | (cases b s S <;> rfl)
theorem tryAsK_nx (i : Nat) (s : Sl) (S : Sto) (tab : List (Str × Bool)) (su : Str → Option (List (Str × W)) → Stm) : tryAsK i (.nx s S) tab su = .nx s S := rfl
theorem tryAsK_rt (i : Nat) (w : W) (S : Sto) (tab : List (Str × Bool)) (su : Str → Option (List (Str × W)) → Stm) : tryAsK i (.rt w S) tab su = .rt w S := rfl
theorem tryAsK_yes (i : Nat) (c : Str) (d : Option (List (Str × W))) (s : Sl) (S : Sto) (tab : List (Str × Bool)) (su : Str → Option (List (Str × W)) → Stm) (h : lookX tab c = some true) : tryAsK i (.ex c d s S) tab su = if i < s.length then dropS i (noEx (su c d (s.set i none) S)) else .bad := by
  unfold tryAsK; simp only [h]
theorem dropS_nx (i : Nat) (s : Sl) (S : Sto) : dropS i (.nx s S) = .nx (s.set i none) S := rfl
theorem dropS_rt (i : Nat) (w : W) (S : Sto) : dropS i (.rt w S) = .rt w S := rfl
theorem onNone_none (s : Stm) : onNone none s = s := rfl
theorem eIsX_eq (tab : List (Str × Bool)) (c : Str) (b : Bool) (s : Sl) (S : Sto) (h : lookX tab c = some b) : eIsX tab c s S = .ok (.bl b) S := by unfold eIsX; simp only [h]; rfl
theorem chr1_eq (c : Nat) : chr1 c = .str ⟨#[c]⟩ := rfl
theorem subS_one (c : Nat) (z : Str) : subS ⟨#[c]⟩ z = decide (c ∈ z.cps.toList) := PySem.StrLaws.found_one z c
def rngK (xs : List W) : M Src := match xs with
  | [.int j] => if inR 4611686018427387903 j = true then rt (.vals (rng 0 j.toNat)) else bad
  | _ => bad
def rngK2 (xs : List W) : M Src := match xs with
  | [.int i, .int j] => if (inR 4611686018427387903 i && inR 4611686018427387903 j) = true then rt (.vals (rng i (j - i).toNat)) else bad
  | _ => bad
theorem iR1_eq (f : Arg) (s : Sl) (S : Sto) : iR1 f s S = bdK (f s S) rngK := rfl
theorem iR2_eq (f : Arg) (s : Sl) (S : Sto) : iR2 f s S = bdK (f s S) rngK2 := rfl
theorem rngK_1 (j : Int) (S : Sto) : rngK [.int j] S = if inR 4611686018427387903 j = true then .ok (.vals (rng 0 j.toNat)) S else .bad := by unfold rngK; simp only <;> (split <;> rfl)
theorem rngK2_2 (i j : Int) (S : Sto) : rngK2 [.int i, .int j] S = if (inR 4611686018427387903 i && inR 4611686018427387903 j) = true then .ok (.vals (rng i (j - i).toNat)) S else .bad := by unfold rngK2; simp only <;> (split <;> rfl)
theorem indexSM_eq (a b : Str) (S : Sto) : indexSM (.str a) [.str b] S = optK (Txt.index0 a b) fun k => .ok (.int k) S := by
  unfold indexSM optK; simp only <;> (cases Txt.index0 a b <;> rfl)
theorem startsM_str (a b : Str) (S : Sto) : startsM (.str a) [.str b] S = .ok (.bl (Txt.startswith a b)) S := rfl
theorem endsM_str (a b : Str) (S : Sto) : endsM (.str a) [.str b] S = .ok (.bl (Txt.endswith a b)) S := rfl
theorem splitM_str (a b : Str) (S : Sto) : splitM (.str a) [.str b] S = if (b.length == 0) = false ∧ a.length + 2 ≤ sizeLine then .ok (.ref S.length) (S ++ [.lst ((Txt.split a b).map .str)]) else .bad := by
  unfold splitM; simp only <;> (split <;> rfl)
theorem strsOf_map : ∀ zs : List Str, strsOf (zs.map .str) = some zs
  | [] => rfl
  | z :: zs => by simp only [List.map_cons, strsOf, strsOf_map zs]; rfl
theorem joinM_ref (a : Str) (n : Nat) (zs : List Str) (S : Sto) (h : S[n]? = some (.lst (zs.map .str))) : joinM (.str a) [.ref n] S = if (zs.map (·.length)).sum + zs.length * a.length ≤ 16777216 then .ok (.str (Txt.join a zs)) S else .bad := by
  unfold joinM itemsOf getL; simp only [h, strsOf_map]
end Fr

/-! Fr: more equations: the operations of FrJ, comprehensions -/
namespace Fr
open PySem
theorem ltG_int (i j : Int) (S : Sto) : ltG (.int i) (.int j) S = .ok (.bl (decide (i < j))) S := rfl
theorem ltG_str (i j : Str) (S : Sto) : ltG (.str i) (.str j) S = .ok (.bl (decide (i.cps.toList < j.cps.toList))) S := rfl
def ltK (a b : Option PyData) (S : Sto) : Rs W := match a, b with
  | some (.list ds), some (.list es) => if (PySem.W.alikeAll ds es && SeqAt.shaped (.list ds)) = true then .ok (.bl (PySem.W.dataLt (.list ds) (.list es))) S else .bad
  | some (.tuple ds), some (.tuple es) => if (PySem.W.alikeAll ds es && SeqAt.shaped (.tuple ds)) = true then .ok (.bl (PySem.W.dataLt (.tuple ds) (.tuple es))) S else .bad
  | _, _ => .bad
theorem ltG_ref (i j : Nat) (S : Sto) : ltG (.ref i) (.ref j) S = ltK (toD S 40 (.ref i)) (toD S 40 (.ref j)) S := rfl
theorem ltG_tup (i j : List W) (S : Sto) : ltG (.tup i) (.tup j) S = ltK (toD S 40 (.tup i)) (toD S 40 (.tup j)) S := rfl
theorem ltK_list (ds es : List PyData) (S : Sto) : ltK (some (.list ds)) (some (.list es)) S = if (PySem.W.alikeAll ds es && SeqAt.shaped (.list ds)) = true then .ok (.bl (PySem.W.dataLt (.list ds) (.list es))) S else .bad := rfl
theorem ltK_tup (ds es : List PyData) (S : Sto) : ltK (some (.tuple ds)) (some (.tuple es)) S = if (PySem.W.alikeAll ds es && SeqAt.shaped (.tuple ds)) = true then .ok (.bl (PySem.W.dataLt (.tuple ds) (.tuple es))) S else .bad := rfl
def blK (o : Option Bool) (S : Sto) : Rs W := match o with
  | some b => .ok (.bl b) S
  | none => .bad
def nblK (o : Option Bool) (S : Sto) : Rs W := match o with
  | some b => .ok (.bl !b) S
  | none => .bad
theorem memM_eq (x y : W) (S : Sto) : memM x y S = blK (memB S x y) S := rfl
theorem notMemM_eq (x y : W) (S : Sto) : notMemM x y S = nblK (memB S x y) S := rfl
theorem memB_str (i j : Str) (S : Sto) : memB S (.str i) (.str j) = some (subS i j) := rfl
theorem blK_some (b : Bool) (S : Sto) : blK (some b) S = .ok (.bl b) S := rfl
theorem nblK_some (b : Bool) (S : Sto) : nblK (some b) S = .ok (.bl !b) S := rfl
def eqK (a b : Option PyData) (S : Sto) : Rs W := match a, b with
  | some d, some e => if (SeqAt.shaped d && SeqAt.shaped e) = true then .ok (.bl (PyData.eqv d e)) S else .bad
  | _, _ => .bad
def neK (a b : Option PyData) (S : Sto) : Rs W := match a, b with
  | some d, some e => if (SeqAt.shaped d && SeqAt.shaped e) = true then .ok (.bl !(PyData.eqv d e)) S else .bad
  | _, _ => .bad
theorem eqM_ref (i j : Nat) (S : Sto) : eqM (.ref i) (.ref j) S = eqK (toD S 40 (.ref i)) (toD S 40 (.ref j)) S := rfl
theorem eqM_tup (i j : List W) (S : Sto) : eqM (.tup i) (.tup j) S = eqK (toD S 40 (.tup i)) (toD S 40 (.tup j)) S := rfl
theorem neM_ref (i j : Nat) (S : Sto) : neM (.ref i) (.ref j) S = neK (toD S 40 (.ref i)) (toD S 40 (.ref j)) S := rfl
theorem neM_tup (i j : List W) (S : Sto) : neM (.tup i) (.tup j) S = neK (toD S 40 (.tup i)) (toD S 40 (.tup j)) S := rfl
theorem eqK_some (d e : PyData) (S : Sto) : eqK (some d) (some e) S = if (SeqAt.shaped d && SeqAt.shaped e) = true then .ok (.bl (PyData.eqv d e)) S else .bad := rfl
theorem neK_some (d e : PyData) (S : Sto) : neK (some d) (some e) S = if (SeqAt.shaped d && SeqAt.shaped e) = true then .ok (.bl !(PyData.eqv d e)) S else .bad := rfl
theorem isM_fl (i : List W) (S : Sto) : isM (.fl i) .non S = .ok (.bl false) S := rfl
theorem isNotM_non (S : Sto) : isNotM .non .non S = .ok (.bl false) S := rfl
theorem isNotM_int (i : Int) (S : Sto) : isNotM (.int i) .non S = .ok (.bl true) S := rfl
theorem isNotM_str (i : Str) (S : Sto) : isNotM (.str i) .non S = .ok (.bl true) S := rfl
theorem isNotM_bl (i : Bool) (S : Sto) : isNotM (.bl i) .non S = .ok (.bl true) S := rfl
theorem isNotM_tup (i : List W) (S : Sto) : isNotM (.tup i) .non S = .ok (.bl true) S := rfl
theorem isNotM_ref (i : Nat) (S : Sto) : isNotM (.ref i) .non S = .ok (.bl true) S := rfl
/-! built-ins -/
def listK (o : Option Ob) (S : Sto) : Rs W := match o with
  | some (.lst xs) => new (.lst xs) S
  | some (.dK kvs) => new (.lst (kvs.map fun kv => keyW kv.1)) S
  | _ => .bad
theorem listM_ref (n : Nat) (S : Sto) : listM [.ref n] S = listK S[n]? S := rfl
theorem listM_tup (xs : List W) (S : Sto) : listM [.tup xs] S = .ok (.ref S.length) (S ++ [.lst xs]) := rfl
theorem listM_fl (xs : List W) (S : Sto) : listM [.fl xs] S = .ok (.ref S.length) (S ++ [.lst xs]) := rfl
theorem listK_lst (xs : List W) (S : Sto) : listK (some (.lst xs)) S = .ok (.ref S.length) (S ++ [.lst xs]) := rfl
theorem listK_dK (kvs : List (L2.Key × W)) (S : Sto) : listK (some (.dK kvs)) S = .ok (.ref S.length) (S ++ [.lst (kvs.map fun kv => keyW kv.1)]) := rfl
theorem tupleM_ref (n : Nat) (S : Sto) : tupleM [.ref n] S = obL S[n]? fun xs => .ok (.tup xs) S := by
  unfold tupleM obL; simp only <;> (cases S[n]? with
  | none => rfl
  | some o => cases o <;> rfl)
theorem tupleM_tup (xs : List W) (S : Sto) : tupleM [.tup xs] S = .ok (.tup xs) S := rfl
theorem tupleM_fl (xs : List W) (S : Sto) : tupleM [.fl xs] S = .ok (.tup xs) S := rfl
theorem divmodM_int (i j : Int) (S : Sto) : divmodM [.int i, .int j] S = if 0 < j ∧ inR 1073741823 j = true then .ok (.tup [.int (i / j), .int (i % j)]) S else .bad := by unfold divmodM; simp only <;> (split <;> rfl)
theorem strM_int (i : Int) (S : Sto) : strM [.int i] S = if i.natAbs.log2 < 1920 then .ok (.str (toString i)) S else .bad := by unfold strM; simp only <;> (split <;> rfl)
theorem min2M_int (i j : Int) (S : Sto) : min2M [.int i, .int j] S = .ok (.int (if j < i then j else i)) S := rfl
theorem max2M_int (i j : Int) (S : Sto) : max2M [.int i, .int j] S = .ok (.int (if j > i then j else i)) S := rfl
theorem intsOf_map : ∀ zs : List Int, intsOf (zs.map .int) = some zs
  | [] => rfl
  | z :: zs => by simp only [List.map_cons, intsOf, intsOf_map zs]; rfl
def obI (o : Option Ob) (k : List W → Rs W) : Rs W := match o with
  | some (.lst xs) => k xs
  | _ => .bad
theorem sumM_ref (n : Nat) (S : Sto) : sumM [.ref n] S = obL S[n]? fun xs => optK (intsOf xs) fun ns => .ok (.int ns.sum) S := by
  unfold sumM obL optK getL; simp only <;> (cases S[n]? with
  | none => rfl
  | some o => cases o with
    | lst xs => simp only; cases intsOf xs <;> rfl
    | _ => rfl)
theorem sortedM_ref (n : Nat) (S : Sto) : sortedM [.ref n] S = obL S[n]? fun xs => optK (intsOf xs) fun ns => .ok (.ref S.length) (S ++ [.lst ((sortI ns).map .int)]) := by
  unfold sortedM obL optK getL; simp only <;> (cases S[n]? with
  | none => rfl
  | some o => cases o with
    | lst xs => simp only; cases intsOf xs <;> rfl
    | _ => rfl)
/-! methods -/
theorem insertM_eq (n : Nat) (i : Int) (y : W) (S : Sto) : insertM (.ref n) [.int i, y] S = obL S[n]? fun xs => if xs.length < sizeLine ∧ 0 ≤ i ∧ inR 9223372036854775807 i = true then .ok .non (S.set n (.lst (xs.take i.toNat ++ [y] ++ xs.drop i.toNat))) else .bad := by
  unfold insertM obL; simp only <;> (cases S[n]? with
  | none => rfl
  | some o => cases o <;> rfl)
theorem extendM_eq (n k : Nat) (S : Sto) : extendM (.ref n) [.ref k] S = obL S[n]? fun xs => obL S[k]? fun zs => if xs.length + zs.length ≤ sizeLine then .ok .non (S.set n (.lst (xs ++ zs))) else .bad := by
  unfold extendM obL; simp only <;> (cases S[n]? with
  | none => rfl
  | some o => cases o with
    | lst xs => simp only; cases S[k]? with
      | none => rfl
      | some o => cases o <;> rfl
    | _ => rfl)
theorem popAtM_eq (n : Nat) (i : Int) (S : Sto) : popAtM (.ref n) [.int i] S = obL S[n]? fun xs => optK (L2.ixN xs.length i) fun k => optK xs[k]? fun y => if inR 9223372036854775807 i = true then .ok y (S.set n (.lst (xs.eraseIdx k))) else .bad := by
  unfold popAtM obL optK; simp only <;> (cases S[n]? with
  | none => rfl
  | some o => cases o with
    | lst xs =>
      simp only
      cases L2.ixN xs.length i with
      | none => rfl
      | some k => simp only; cases xs[k]? <;> rfl
    | _ => rfl)
theorem clearM_eq (n : Nat) (S : Sto) : clearM (.ref n) [] S = obL S[n]? fun _ => .ok .non (S.set n (.lst [])) := by
  unfold clearM obL; simp only <;> (cases S[n]? with
  | none => rfl
  | some o => cases o <;> rfl)
def idxK (a b : Option PyData) (S : Sto) : Rs W := match a, b with
  | some (.list ds), some d => if (SeqAt.shaped (.list ds) && SeqAt.shaped d) = true then optK (findD d ds 0) (fun j => .ok (.int j) S) else .bad
  | _, _ => .bad
theorem indexLM_eq (x y : W) (S : Sto) : indexLM x [y] S = idxK (toD S 40 x) (toD S 40 y) S := by
  unfold indexLM idxK optK; simp only <;> (split <;> first | rfl | (split <;> first | rfl | (split <;> simp_all)))
theorem idxK_some (ds : List PyData) (d : PyData) (S : Sto) : idxK (some (.list ds)) (some d) S = if (SeqAt.shaped (.list ds) && SeqAt.shaped d) = true then optK (findD d ds 0) (fun j => .ok (.int j) S) else .bad := rfl
theorem tyM_list_fl (xs : List W) (S : Sto) : tyM "list" (.fl xs) S = true := rfl
/-! truth -/
def truK (x : W) : M Bool := fun S => match truW S x with
  | some b => .ok b S
  | none => .bad
theorem tV_eq (a : Exp) (s : Sl) (S : Sto) : tV a s S = bdK (a s S) truK := rfl
theorem truK_bl (b : Bool) (S : Sto) : truK (.bl b) S = .ok b S := rfl
theorem truK_non (S : Sto) : truK .non S = .ok false S := rfl
theorem truK_int (i : Int) (S : Sto) : truK (.int i) S = .ok (i != 0) S := rfl
theorem truK_tup (xs : List W) (S : Sto) : truK (.tup xs) S = .ok (!xs.isEmpty) S := rfl
def obB (o : Option Ob) (S : Sto) : Rs Bool := match o with
  | some (.lst xs) => .ok (!xs.isEmpty) S
  | some (.dK xs) => .ok (!xs.isEmpty) S
  | _ => .bad
theorem truK_ref (n : Nat) (S : Sto) : truK (.ref n) S = obB S[n]? S := by
  unfold truK truW obB; simp only <;> (cases S[n]? with
  | none => rfl
  | some o => cases o <;> rfl)
theorem obB_lst (xs : List W) (S : Sto) : obB (some (.lst xs)) S = .ok (!xs.isEmpty) S := rfl
theorem obB_dK (xs : List (L2.Key × W)) (S : Sto) : obB (some (.dK xs)) S = .ok (!xs.isEmpty) S := rfl
/-! statements -/
def tgK (o : Option Sl) (S : Sto) : RS := match o with
  | some s => .nx s S
  | none => .bad
theorem sAsgT_eq (g : Tgt) (e : Exp) (s : Sl) (S : Sto) : sAsgT g e s S = onE (e s S) s (fun w S' => tgK (g w s) S') := rfl
theorem tgK_some (s : Sl) (S : Sto) : tgK (some s) S = .nx s S := rfl
theorem gN_eq (i : Nat) (w : W) (s : Sl) : gN i w s = some (s.set i (some w)) := rfl
theorem gT_eq (n : Nat) (r : List W → Sl → Option Sl) (ws : List W) (s : Sl) : gT n r (.tup ws) s = if ws.length = n then r ws s else none := rfl
def gK (o : Option Sl) (k : Sl → Option Sl) : Option Sl := match o with
  | some s => k s
  | none => none
theorem gsCons_eq (g : Tgt) (r : List W → Sl → Option Sl) (w : W) (ws : List W) (s : Sl) : gsCons g r (w :: ws) s = gK (g w s) (r ws) := by
  unfold gsCons gK; simp only <;> (cases g w s <;> rfl)
theorem gK_some (s : Sl) (k : Sl → Option Sl) : gK (some s) k = k s := rfl
theorem gsNil_eq (s : Sl) : gsNil [] s = some s := rfl
def setK (v o i : W) (S : Sto) : Rs W := match o, i with
  | .ref n, .int k => match S[n]? with
    | some (.lst xs) => match L2.ixN xs.length k with
      | some j => .ok W.non (S.set n (.lst (xs.set j v)))
      | none => .bad
    | _ => .bad
  | _, _ => .bad
theorem sSetIx_eq (fo fi fe : Exp) (s : Sl) (S : Sto) : sSetIx fo fi fe s S = onE (bdK (fe s S) (fun v => bd (fo s) fun o => bd (fi s) (setK v o))) s (fun _ S' => .nx s S') := rfl
theorem setK_eq (v : W) (n : Nat) (k : Int) (S : Sto) : setK v (.ref n) (.int k) S = obL S[n]? fun xs => optK (L2.ixN xs.length k) fun j => .ok W.non (S.set n (.lst (xs.set j v))) := by
  unfold setK obL optK; simp only <;> (cases S[n]? with
  | none => rfl
  | some o => cases o with
    | lst xs => simp only; cases L2.ixN xs.length k <;> rfl
    | _ => rfl)
def augK (o : Option (Option W)) (k : W → RS) : RS := match o with
  | some (some x) => k x
  | _ => .bad
theorem sAug_eq (i : Nat) (o : W → W → M W) (e : Exp) (s : Sl) (S : Sto) : sAug i o e s S = augK s[i]? fun x => onE (bdK (e s S) (o x)) s (fun w S' => .nx (s.set i (some w)) S') := by
  unfold sAug augK; cases s[i]? with
  | none => rfl
  | some o => cases o <;> rfl
theorem augK_some (x : W) (k : W → RS) : augK (some (some x)) k = k x := rfl
theorem iaddM_int (i j : Int) (S : Sto) : iaddM (.int i) (.int j) S = .ok (.int (i + j)) S := rfl
theorem isubM_int (i j : Int) (S : Sto) : isubM (.int i) (.int j) S = .ok (.int (i - j)) S := rfl
theorem eListR_eq (b : Bool) (f : Sl → M (Int × Int)) (s : Sl) (S : Sto) : eListR b f s S = bdK (f s S) (fun x => if (inR 4611686018427387903 x.1 && inR 4611686018427387903 x.2) = true ∧ (x.2 - x.1).toNat ≤ 16777216 then (if b = true then new (.lst (rng x.1 (x.2 - x.1).toNat)) else rt (.tup (rng x.1 (x.2 - x.1).toNat))) else bad) := rfl
def rg1K (x : W) : M (Int × Int) := match x with
  | .int n => rt (0, n)
  | _ => bad
def rg2K (x y : W) : M (Int × Int) := match x, y with
  | .int n, .int k => rt (n, k)
  | _, _ => bad
theorem rg1_eq (a : Exp) (s : Sl) (S : Sto) : rg1 a s S = bdK (a s S) rg1K := rfl
theorem rg2_eq (a b : Exp) (s : Sl) (S : Sto) : rg2 a b s S = bdK (a s S) (fun x => bd (b s) (rg2K x)) := rfl
theorem rg1K_int (n : Int) (S : Sto) : rg1K (.int n) S = .ok (0, n) S := rfl
theorem rg2K_int (n k : Int) (S : Sto) : rg2K (.int n) (.int k) S = .ok (n, k) S := rfl
/-! walks -/
theorem iZip_eq (f : Arg) (s : Sl) (S : Sto) : iZip f s S = bdK (f s S) zipM := rfl
theorem zipM_tup (xs ys : List W) (S : Sto) : zipM [.tup xs, .tup ys] S = .ok (.vals (List.zipWith (fun a b => W.tup [a, b]) xs ys)) S := rfl
theorem zipM_ref (a b : Nat) (S : Sto) : zipM [.ref a, .ref b] S = obL S[a]? fun xs => obL S[b]? fun ys => .ok (.gen (min xs.length ys.length) (zipF (.ref a) (.ref b)) (zipC (.ref a) (.ref b) (min xs.length ys.length))) S := by
  unfold zipM obL getL; simp only <;> (cases S[a]? with
  | none => rfl
  | some o => cases o with
    | lst xs => simp only; cases S[b]? with
      | none => rfl
      | some o => cases o <;> rfl
    | _ => rfl)
theorem iRev_eq (f : Exp) (s : Sl) (S : Sto) : iRev f s S = bdK (f s S) revM := rfl
theorem revM_tup (xs : List W) (S : Sto) : revM (.tup xs) S = .ok (.vals xs.reverse) S := rfl
theorem revM_ref (a : Nat) (S : Sto) : revM (.ref a) S = obL S[a]? fun xs => .ok (.gen xs.length (revF (.ref a) xs.length) (fun _ => true)) S := by
  unfold revM obL getL; simp only <;> (cases S[a]? with
  | none => rfl
  | some o => cases o <;> rfl)
/-! comprehensions -/
def lcK (r : Rs Src) (g : Tgt) (tt : Tst) (e : Exp) (s0 : Sl) : Rs W := match r with
  | .ok (.vals xs) S1 => optS S1.length (lcV g tt e s0 S1.length xs (S1 ++ [.lst []]))
  | .ok (.live a) S1 => match S1[a]? with
    | some (.lst ys) => optS S1.length (lcN g tt e s0 S1.length ys.length (liveF a ys.length) (liveC a ys.length) ys.length (S1 ++ [.lst []]))
    | _ => .bad
  | .ok (.gen n f c) S1 => optS S1.length (lcN g tt e s0 S1.length n f c n (S1 ++ [.lst []]))
  | .ex x d S1 => .ex x d S1
  | .bad => .bad
theorem eLc_eq (it : Sl → M Src) (g : Tgt) (tt : Tst) (e : Exp) (vs : List Nat) (s : Sl) (S : Sto) : eLc it g tt e vs s S = lcK (it s S) g tt e (wipeW s vs) := rfl
theorem lcK_vals (xs : List W) (S : Sto) (g : Tgt) (tt : Tst) (e : Exp) (s0 : Sl) : lcK (.ok (.vals xs) S) g tt e s0 = optS S.length (lcV g tt e s0 S.length xs (S ++ [.lst []])) := rfl
theorem lcK_live (a : Nat) (S : Sto) (g : Tgt) (tt : Tst) (e : Exp) (s0 : Sl) : lcK (.ok (.live a) S) g tt e s0 = obL S[a]? fun ys => optS S.length (lcN g tt e s0 S.length ys.length (liveF a ys.length) (liveC a ys.length) ys.length (S ++ [.lst []])) := by
  unfold lcK obL; simp only <;> (cases S[a]? with
  | none => rfl
  | some o => cases o <;> rfl)
theorem lcK_gen (n : Nat) (f : Nat → Sto → Option W) (c : Sto → Bool) (S : Sto) (g : Tgt) (tt : Tst) (e : Exp) (s0 : Sl) : lcK (.ok (.gen n f c) S) g tt e s0 = optS S.length (lcN g tt e s0 S.length n f c n (S ++ [.lst []])) := rfl
theorem optS_some (D : Nat) (S : Sto) : optS D (some S) = .ok (.ref D) S := rfl
theorem wipeW_nil (s : Sl) : wipeW s [] = s := rfl
theorem wipeW_cons (s : Sl) (v : Nat) (vs : List Nat) : wipeW s (v :: vs) = (wipeW s vs).set v none := rfl
theorem tYs_eq (s : Sl) (S : Sto) : tYs s S = .ok true S := rfl
/-- one turn: what it keeps -/
def turnK (r : Rs Bool) (s1 : Sl) (e : Exp) (D : Nat) : Option Sto := match r with
  | .ok true S2 => match e s1 S2 with
    | .ok w S3 => match S3[D]? with
      | some (.lst acc) => if acc.length < sizeLine then some (S3.set D (.lst (acc ++ [w]))) else none
      | _ => none
    | _ => none
  | .ok false S2 => some S2
  | _ => none
def putK (r : Rs W) (D : Nat) : Option Sto := match r with
  | .ok w S3 => match S3[D]? with
    | some (.lst acc) => if acc.length < sizeLine then some (S3.set D (.lst (acc ++ [w]))) else none
    | _ => none
  | _ => none
def putL (o : Option Ob) (k : List W → Option Sto) : Option Sto := match o with
  | some (.lst acc) => k acc
  | _ => none
theorem lcT_eq (g : Tgt) (tt : Tst) (e : Exp) (s0 : Sl) (D : Nat) (x : W) (S : Sto) (s1 : Sl) (h : g x s0 = some s1) : lcT g tt e s0 D x S = turnK (tt s1 S) s1 e D := by
  unfold lcT turnK; simp only [h] <;> (cases tt s1 S with
  | ok b S2 => cases b <;> rfl
  | _ => rfl)
theorem lcT_gN (i : Nat) (tt : Tst) (e : Exp) (s0 : Sl) (D : Nat) (x : W) (S : Sto) : lcT (gN i) tt e s0 D x S = turnK (tt (s0.set i (some x)) S) (s0.set i (some x)) e D := lcT_eq _ _ _ _ _ _ _ _ rfl
theorem turnK_yes (S : Sto) (s1 : Sl) (e : Exp) (D : Nat) : turnK (.ok true S) s1 e D = putK (e s1 S) D := by
  unfold turnK putK; simp only <;> (cases e s1 S <;> rfl)
theorem turnK_no (S : Sto) (s1 : Sl) (e : Exp) (D : Nat) : turnK (.ok false S) s1 e D = some S := rfl
theorem turnK_ite (b : Bool) (S : Sto) (s1 : Sl) (e : Exp) (D : Nat) : turnK (.ok b S) s1 e D = if b = true then putK (e s1 S) D else some S := by
  cases b
  · rfl
  · rw [if_pos rfl]; exact turnK_yes S s1 e D
theorem putK_ok (w : W) (S : Sto) (D : Nat) : putK (.ok w S) D = putL S[D]? fun acc => if acc.length < sizeLine then some (S.set D (.lst (acc ++ [w]))) else none := rfl
theorem putL_lst (acc : List W) (k : List W → Option Sto) : putL (some (.lst acc)) k = k acc := rfl
theorem lcV_nil (g : Tgt) (tt : Tst) (e : Exp) (s0 : Sl) (D : Nat) (S : Sto) : lcV g tt e s0 D [] S = some S := rfl
def andThen (o : Option Sto) (k : Sto → Option Sto) : Option Sto := match o with
  | some S => k S
  | none => none
theorem lcV_cons (g : Tgt) (tt : Tst) (e : Exp) (s0 : Sl) (D : Nat) (x : W) (xs : List W) (S : Sto) : lcV g tt e s0 D (x :: xs) S = andThen (lcT g tt e s0 D x S) (lcV g tt e s0 D xs) := by
  show (match lcT g tt e s0 D x S with
    | some S' => lcV g tt e s0 D xs S'
    | none => none) = _
  unfold andThen
  cases lcT g tt e s0 D x S <;> rfl
theorem andThen_some (S : Sto) (k : Sto → Option Sto) : andThen (some S) k = k S := rfl
/-! ### rules for walks -/
/-- all turns go on -/
theorem forV_all {g : Tgt} {b : Stm} (I : List W → Sl → Sto → Prop) (xs : List W) (step : ∀ pre x suf s S, xs = pre ++ x :: suf → I pre s S → ∃ s1 s2 S2, g x s = some s1 ∧ (b s1 S = .nx s2 S2 ∨ b s1 S = .ct s2 S2) ∧ I (pre ++ [x]) s2 S2) {s : Sl} {S : Sto} (h0 : I [] s S) :
    ∃ s' S', forV g b xs s S = .nx s' S' ∧ I xs s' S' := by
  have key : ∀ (suf pre : List W) (s : Sl) (S : Sto), xs = pre ++ suf → I pre s S → ∃ s' S', forV g b suf s S = .nx s' S' ∧ I xs s' S' := by
    intro suf
    induction suf with
    | nil => intro pre s S e h; exact ⟨s, S, rfl, by rw [e, List.append_nil]; exact h⟩
    | cons x suf ih =>
      intro pre s S e h
      obtain ⟨s1, s2, S2, h1, h2, h3⟩ := step pre x suf s S e h
      obtain ⟨s', S', h4, h5⟩ := ih (pre ++ [x]) s2 S2 (by rw [e]; simp) h3
      refine ⟨s', S', ?_, h5⟩
      unfold forV
      rw [h1]
      simp only
      rcases h2 with h2 | h2 <;> (rw [h2]; exact h4)
  exact key xs [] s S rfl h0
theorem forL_all {g : Tgt} {b : Stm} {a : Nat} (ys : List W) (I : List W → Sl → Sto → Prop) (hS : ∀ pre s S, I pre s S → S[a]? = some (.lst ys)) (step : ∀ pre x suf s S, ys = pre ++ x :: suf → I pre s S → ∃ s1 s2 S2, g x s = some s1 ∧ (b s1 S = .nx s2 S2 ∨ b s1 S = .ct s2 S2) ∧ I (pre ++ [x]) s2 S2) {s : Sl} {S : Sto} (h0 : I [] s S) :
    ∃ s' S', forL g b a ys.length ys.length s S = .nx s' S' ∧ I ys s' S' := by
  have key : ∀ (suf pre : List W) (s : Sl) (S : Sto), ys = pre ++ suf → I pre s S → ∃ s' S', forL g b a ys.length suf.length s S = .nx s' S' ∧ I ys s' S' := by
    intro suf
    induction suf with
    | nil =>
      intro pre s S e h
      exact ⟨s, S, forL_0 0 a _ g b ys s S (hS _ _ _ h) rfl, by rw [e, List.append_nil]; rw [e, List.append_nil] at *; exact h⟩
    | cons x suf ih =>
      intro pre s S e h
      obtain ⟨s1, s2, S2, h1, h2, h3⟩ := step pre x suf s S e h
      obtain ⟨s', S', h4, h5⟩ := ih (pre ++ [x]) s2 S2 (by rw [e]; simp) h3
      refine ⟨s', S', ?_, h5⟩
      rw [List.length_cons]
      unfold forL
      have hi : ys[ys.length - (suf.length + 1)]? = some x := by
        have : ys.length - (suf.length + 1) = pre.length := by rw [e]; simp
        rw [this, e]; simp
      rw [hS _ _ _ h]
      simp only [if_true, hi, h1]
      rcases h2 with h2 | h2 <;> (rw [h2]; exact h4)
  exact key ys [] s S rfl h0
theorem forG_all {g : Tgt} {b : Stm} {f : Nat → Sto → Option W} {c : Sto → Bool} (ys : List W) (I : List W → Sl → Sto → Prop) (hc : ∀ s S, I ys s S → c S = true) (hf : ∀ pre x suf s S, ys = pre ++ x :: suf → I pre s S → f pre.length S = some x)
    (step : ∀ pre x suf s S, ys = pre ++ x :: suf → I pre s S → ∃ s1 s2 S2, g x s = some s1 ∧ (b s1 S = .nx s2 S2 ∨ b s1 S = .ct s2 S2) ∧ I (pre ++ [x]) s2 S2) {s : Sl} {S : Sto} (h0 : I [] s S) :
    ∃ s' S', forG g b ys.length f c ys.length s S = .nx s' S' ∧ I ys s' S' := by
  have key : ∀ (suf pre : List W) (s : Sl) (S : Sto), ys = pre ++ suf → I pre s S → ∃ s' S', forG g b ys.length f c suf.length s S = .nx s' S' ∧ I ys s' S' := by
    intro suf
    induction suf with
    | nil =>
      intro pre s S e h
      have e' : ys = pre := by rw [e, List.append_nil]
      rw [← e'] at h
      refine ⟨s, S, ?_, h⟩
      show forG g b ys.length f c 0 s S = _
      unfold forG
      rw [hc _ _ h, if_pos rfl]
    | cons x suf ih =>
      intro pre s S e h
      obtain ⟨s1, s2, S2, h1, h2, h3⟩ := step pre x suf s S e h
      obtain ⟨s', S', h4, h5⟩ := ih (pre ++ [x]) s2 S2 (by rw [e]; simp) h3
      refine ⟨s', S', ?_, h5⟩
      rw [List.length_cons]
      unfold forG
      have hi : ys.length - (suf.length + 1) = pre.length := by rw [e]; simp
      rw [hi, hf pre x suf s S e h]
      simp only [h1]
      rcases h2 with h2 | h2 <;> (rw [h2]; exact h4)
  exact key ys [] s S rfl h0
/-- a turn may end the walk: R tells how -/
def Ends (r : RS) : Prop := (∃ w S, r = .rt w S) ∨ ∃ c d s S, r = .ex c d s S
theorem forV_find {g : Tgt} {b : Stm} (I : List W → Sl → Sto → Prop) (R : RS → Prop) (xs : List W) (step : ∀ pre x suf s S, xs = pre ++ x :: suf → I pre s S → ∃ s1, g x s = some s1 ∧ ((∃ s2 S2, (b s1 S = .nx s2 S2 ∨ b s1 S = .ct s2 S2) ∧ I (pre ++ [x]) s2 S2) ∨ (Ends (b s1 S) ∧ R (b s1 S)))) {s : Sl} {S : Sto} (h0 : I [] s S) :
    (∃ s' S', forV g b xs s S = .nx s' S' ∧ I xs s' S') ∨ R (forV g b xs s S) := by
  have key : ∀ (suf pre : List W) (s : Sl) (S : Sto), xs = pre ++ suf → I pre s S → (∃ s' S', forV g b suf s S = .nx s' S' ∧ I xs s' S') ∨ R (forV g b suf s S) := by
    intro suf
    induction suf with
    | nil => intro pre s S e h; exact .inl ⟨s, S, rfl, by rw [e, List.append_nil]; exact h⟩
    | cons x suf ih =>
      intro pre s S e h
      obtain ⟨s1, h1, h2⟩ := step pre x suf s S e h
      unfold forV
      rw [h1]
      simp only
      rcases h2 with ⟨s2, S2, h2, h3⟩ | ⟨h2, h3⟩
      · have q := ih (pre ++ [x]) s2 S2 (by rw [e]; simp) h3
        rcases h2 with h2 | h2 <;> (rw [h2]; exact q)
      · right
        rcases h2 with ⟨w, S', h2⟩ | ⟨c, d, s', S', h2⟩ <;> (rw [h2] at h3 ⊢; exact h3)
  exact key xs [] s S rfl h0
theorem forL_find {g : Tgt} {b : Stm} {a : Nat} (ys : List W) (I : List W → Sl → Sto → Prop) (R : RS → Prop) (hS : ∀ pre s S, I pre s S → S[a]? = some (.lst ys))
    (step : ∀ pre x suf s S, ys = pre ++ x :: suf → I pre s S → ∃ s1, g x s = some s1 ∧ ((∃ s2 S2, (b s1 S = .nx s2 S2 ∨ b s1 S = .ct s2 S2) ∧ I (pre ++ [x]) s2 S2) ∨ (Ends (b s1 S) ∧ R (b s1 S)))) {s : Sl} {S : Sto} (h0 : I [] s S) :
    (∃ s' S', forL g b a ys.length ys.length s S = .nx s' S' ∧ I ys s' S') ∨ R (forL g b a ys.length ys.length s S) := by
  have key : ∀ (suf pre : List W) (s : Sl) (S : Sto), ys = pre ++ suf → I pre s S → (∃ s' S', forL g b a ys.length suf.length s S = .nx s' S' ∧ I ys s' S') ∨ R (forL g b a ys.length suf.length s S) := by
    intro suf
    induction suf with
    | nil =>
      intro pre s S e h
      exact .inl ⟨s, S, forL_0 0 a _ g b ys s S (hS _ _ _ h) rfl, by rw [e, List.append_nil]; rw [e, List.append_nil] at *; exact h⟩
    | cons x suf ih =>
      intro pre s S e h
      obtain ⟨s1, h1, h2⟩ := step pre x suf s S e h
      rw [List.length_cons]
      unfold forL
      have hi : ys[ys.length - (suf.length + 1)]? = some x := by
        have : ys.length - (suf.length + 1) = pre.length := by rw [e]; simp
        rw [this, e]; simp
      rw [hS _ _ _ h]
      simp only [if_true, hi, h1]
      rcases h2 with ⟨s2, S2, h2, h3⟩ | ⟨h2, h3⟩
      · have q := ih (pre ++ [x]) s2 S2 (by rw [e]; simp) h3
        rcases h2 with h2 | h2 <;> (rw [h2]; exact q)
      · right
        rcases h2 with ⟨w, S', h2⟩ | ⟨c, d, s', S', h2⟩ <;> (rw [h2] at h3 ⊢; exact h3)
  exact key ys [] s S rfl h0
theorem forG_find {g : Tgt} {b : Stm} {f : Nat → Sto → Option W} {c : Sto → Bool} (ys : List W) (I : List W → Sl → Sto → Prop) (R : RS → Prop) (hc : ∀ s S, I ys s S → c S = true) (hf : ∀ pre x suf s S, ys = pre ++ x :: suf → I pre s S → f pre.length S = some x)
    (step : ∀ pre x suf s S, ys = pre ++ x :: suf → I pre s S → ∃ s1, g x s = some s1 ∧ ((∃ s2 S2, (b s1 S = .nx s2 S2 ∨ b s1 S = .ct s2 S2) ∧ I (pre ++ [x]) s2 S2) ∨ (Ends (b s1 S) ∧ R (b s1 S)))) {s : Sl} {S : Sto} (h0 : I [] s S) :
    (∃ s' S', forG g b ys.length f c ys.length s S = .nx s' S' ∧ I ys s' S') ∨ R (forG g b ys.length f c ys.length s S) := by
  have key : ∀ (suf pre : List W) (s : Sl) (S : Sto), ys = pre ++ suf → I pre s S → (∃ s' S', forG g b ys.length f c suf.length s S = .nx s' S' ∧ I ys s' S') ∨ R (forG g b ys.length f c suf.length s S) := by
    intro suf
    induction suf with
    | nil =>
      intro pre s S e h
      have e' : ys = pre := by rw [e, List.append_nil]
      rw [← e'] at h
      refine .inl ⟨s, S, ?_, h⟩
      show forG g b ys.length f c 0 s S = _
      unfold forG
      rw [hc _ _ h, if_pos rfl]
    | cons x suf ih =>
      intro pre s S e h
      obtain ⟨s1, h1, h2⟩ := step pre x suf s S e h
      rw [List.length_cons]
      unfold forG
      have hi : ys.length - (suf.length + 1) = pre.length := by rw [e]; simp
      rw [hi, hf pre x suf s S e h]
      simp only [h1]
      rcases h2 with ⟨s2, S2, h2, h3⟩ | ⟨h2, h3⟩
      · have q := ih (pre ++ [x]) s2 S2 (by rw [e]; simp) h3
        rcases h2 with h2 | h2 <;> (rw [h2]; exact q)
      · right
        rcases h2 with ⟨w, S', h2⟩ | ⟨c, d, s', S', h2⟩ <;> (rw [h2] at h3 ⊢; exact h3)
  exact key ys [] s S rfl h0
/-- comprehensions -/
theorem lcV_all {g : Tgt} {tt : Tst} {e : Exp} {s0 : Sl} {D : Nat} (xs : List W) (I : List W → Sto → Prop) (step : ∀ pre x suf S, xs = pre ++ x :: suf → I pre S → ∃ S', lcT g tt e s0 D x S = some S' ∧ I (pre ++ [x]) S') {S : Sto} (h0 : I [] S) :
    ∃ S', lcV g tt e s0 D xs S = some S' ∧ I xs S' := by
  have key : ∀ (suf pre : List W) (S : Sto), xs = pre ++ suf → I pre S → ∃ S', lcV g tt e s0 D suf S = some S' ∧ I xs S' := by
    intro suf
    induction suf with
    | nil => intro pre S e h; exact ⟨S, rfl, by rw [e, List.append_nil]; exact h⟩
    | cons x suf ih =>
      intro pre S e h
      obtain ⟨S1, h1, h3⟩ := step pre x suf S e h
      obtain ⟨S', h4, h5⟩ := ih (pre ++ [x]) S1 (by rw [e]; simp) h3
      exact ⟨S', by rw [lcV_cons, h1]; exact h4, h5⟩
  exact key xs [] S rfl h0
theorem lcN_all {g : Tgt} {tt : Tst} {e : Exp} {s0 : Sl} {D : Nat} {f : Nat → Sto → Option W} {c : Sto → Bool} (ys : List W) (I : List W → Sto → Prop) (hc : ∀ S, I ys S → c S = true) (hf : ∀ pre x suf S, ys = pre ++ x :: suf → I pre S → f pre.length S = some x)
    (step : ∀ pre x suf S, ys = pre ++ x :: suf → I pre S → ∃ S', lcT g tt e s0 D x S = some S' ∧ I (pre ++ [x]) S') {S : Sto} (h0 : I [] S) :
    ∃ S', lcN g tt e s0 D ys.length f c ys.length S = some S' ∧ I ys S' := by
  have key : ∀ (suf pre : List W) (S : Sto), ys = pre ++ suf → I pre S → ∃ S', lcN g tt e s0 D ys.length f c suf.length S = some S' ∧ I ys S' := by
    intro suf
    induction suf with
    | nil =>
      intro pre S e h
      have e' : ys = pre := by rw [e, List.append_nil]
      rw [← e'] at h
      refine ⟨S, ?_, h⟩
      show lcN g tt _ s0 D ys.length f c 0 S = _
      unfold lcN
      rw [hc _ h, if_pos rfl]
    | cons x suf ih =>
      intro pre S e h
      obtain ⟨S1, h1, h3⟩ := step pre x suf S e h
      obtain ⟨S', h4, h5⟩ := ih (pre ++ [x]) S1 (by rw [e]; simp) h3
      refine ⟨S', ?_, h5⟩
      rw [List.length_cons]
      unfold lcN
      have hi : ys.length - (suf.length + 1) = pre.length := by rw [e]; simp
      rw [hi, hf pre x suf S e h]
      simp only [h1]
      exact h4
  exact key ys [] S rfl h0
theorem lcL_all {g : Tgt} {tt : Tst} {e : Exp} {s0 : Sl} {D a : Nat} (ys : List W) (I : List W → Sto → Prop) (hS : ∀ pre S, I pre S → S[a]? = some (.lst ys))
    (step : ∀ pre x suf S, ys = pre ++ x :: suf → I pre S → ∃ S', lcT g tt e s0 D x S = some S' ∧ I (pre ++ [x]) S') {S : Sto} (h0 : I [] S) :
    ∃ S', lcN g tt e s0 D ys.length (liveF a ys.length) (liveC a ys.length) ys.length S = some S' ∧ I ys S' := by
  refine lcN_all ys I (fun S h => ?_) (fun pre x suf S e h => ?_) step h0
  · unfold liveC; rw [hS _ _ h]; simp
  · unfold liveF; rw [hS _ _ h]; simp [e]
end Fr

/-! Fr: what the laws' own helpers do: the draws -/
namespace Fr
open PySem
local macro_rules | `(tactic| walk_at "ev") => `(tactic| simp only [Bool.or_true, Bool.true_or, Bool.and_self, Bool.or_self, Bool.and_true, Bool.true_and, Bool.false_or, Bool.or_false, Bool.false_and, Bool.and_false, ltG_int, ltG_str, ltG_ref, ltG_tup, memM_eq, notMemM_eq, memB_str, blK_some, nblK_some, eqM_ref, eqM_tup, neM_ref, neM_tup, isM_fl, isNotM_non, isNotM_int, isNotM_str, isNotM_bl, isNotM_tup, isNotM_ref, listM_ref, listM_tup, listM_fl, listK_lst, listK_dK, tupleM_ref, tupleM_tup, tupleM_fl, divmodM_int, strM_int, min2M_int, max2M_int, intsOf_map, sumM_ref, sortedM_ref, insertM_eq, extendM_eq, popAtM_eq, clearM_eq, indexLM_eq, tyM_list_fl, tV_eq, truK_bl, truK_non, truK_int, truK_tup, truK_ref, obB_lst, obB_dK, sAsgT_eq, tgK_some, gN_eq, gT_eq, gsCons_eq, gK_some, gsNil_eq, sSetIx_eq, setK_eq, sAug_eq, augK_some, iaddM_int, isubM_int, eListR_eq, rg1_eq, rg2_eq, rg1K_int, rg2K_int, iZip_eq, zipM_tup, zipM_ref, iRev_eq, revM_tup, revM_ref, eLc_eq, lcK_vals, lcK_live, lcK_gen, optS_some, wipeW_nil, wipeW_cons, tYs_eq, lcT_gN, turnK_ite, putK_ok, putL_lst, lcV_nil, andThen_some, srcK_gen, bd_eq, bdK_ok, bdK_ex, bdK_bad, bdK_ite, rt_eq, bad_eq, app_ite, onE_ok, onE_ex, onE_bad, onE_ite, seq_eq, seqK_nx, seqK_rt, seqK_bk, seqK_ct, seqK_ex, seqK_bad, seqK_ite, loopK_nx, loopK_ct, loopK_bk, loopK_rt, loopK_ex, loopK_bad, loopK_ite, fn_eq, fnK_rt, fnK_nx, fnK_ex, fnK_ite, eVar_0, eVar_s, eC_eq, eOp_eq, eUn_eq, eAnd_eq, eOr_eq, eNot_eq, boK_bl, eIf_eq, eChain_eq, tB_eq, tbK_bl, tAnd_eq, tOr_eq, tNot_eq, aNil_eq, aCons_eq, eTup_eq, eLst_eq, new_eq, eB_eq, eCall_eq, eM_eq, eSl_eq, oNone_eq, oSome_eq, intK_int, sNil_eq, sExpr_eq, sRet_eq, sRetN_eq, sIf_eq, sAsg_eq, sRaise_eq, sBreak_eq, sCont_eq, sFor_eq, srcK_vals, iE_eq, srcOf_tup, srcOf_fl, srcOf_str, forV_nil, addM_int, addM_str, addM_tup, subM_int, mulM_int, mulM_str, modM_int, fdivM_int, powM_int, negM_int, ltM_int, leM_int, gtM_int, geM_int, eqM_int, eqM_str, eqM_bl, neM_int, neM_str, neM_bl, isM_non, isM_int, isM_str, isM_bl, isM_tup, isM_ref, inM_str, notInM_str, lenM_str, lenM_tup, lenM_fl, intM_int, tyM_str, slM_str, isiM_non, isiM_bl, isiM_int, isiM_str, isiM_tup, resK_some, obL_lst, obS_lst, optK_some, isLst_lst, appendM_eq, popM_eq, reverseM_eq, lenM_refE, ixM_refE, ixM_tupE, ixM_flE, ixM_strE, srcOf_refE, srcK_liveE, tyM_refE, get_last, set_last, sTry_eq, tryK_nx, tryK_rt, noEx_nx, noEx_rt, sTryAs_eq, tryAsK_nx, tryAsK_rt, dropS_nx, dropS_rt, onNone_none, kb_NoneType_bool, kb_NoneType_int, kb_NoneType_str, kb_NoneType_tuple, kb_NoneType_list, kb_NoneType_dict, kb_bool_bool, kb_bool_int, kb_bool_str, kb_bool_tuple, kb_bool_list, kb_bool_dict, kb_int_bool, kb_int_int, kb_int_str, kb_int_tuple, kb_int_list, kb_int_dict, kb_str_bool, kb_str_int, kb_str_str, kb_str_tuple, kb_str_list, kb_str_dict, kb_tuple_bool, kb_tuple_int, kb_tuple_str, kb_tuple_tuple, kb_tuple_list, kb_tuple_dict, kb_list_bool, kb_list_int, kb_list_str, kb_list_tuple, kb_list_list, kb_list_dict, kb_dict_bool, kb_dict_int, kb_dict_str, kb_dict_tuple, kb_dict_list, kb_dict_dict, List.map_cons, List.map_nil, List.cons_append, List.nil_append, List.length_cons, List.length_nil, Nat.reduceAdd, Nat.reduceSub, List.replicate, List.set_cons_zero, List.set_cons_succ, Bool.false_eq_true, Bool.not_true, Bool.not_false, if_true, if_false, reduceIte, decide_eq_true_eq, Bool.not_eq_true', decide_eq_false_iff_not, not_true_eq_false, not_false_eq_true, ite_not, decide_true, decide_false, eq_self_iff_true, indexSM_eq, startsM_str, endsM_str, splitM_str, iR1_eq, iR2_eq, rngK_1, rngK2_2, chr1_eq, subS_one, and_self, true_and, and_true, false_and, and_false, or_true, true_or, or_self, false_or, or_false, ne_eq])
local macro_rules | `(tactic| walk_at "evh") => `(tactic| simp only [Bool.or_true, Bool.true_or, Bool.and_self, Bool.or_self, Bool.and_true, Bool.true_and, Bool.false_or, Bool.or_false, Bool.false_and, Bool.and_false, ltG_int, ltG_str, ltG_ref, ltG_tup, memM_eq, notMemM_eq, memB_str, blK_some, nblK_some, eqM_ref, eqM_tup, neM_ref, neM_tup, isM_fl, isNotM_non, isNotM_int, isNotM_str, isNotM_bl, isNotM_tup, isNotM_ref, listM_ref, listM_tup, listM_fl, listK_lst, listK_dK, tupleM_ref, tupleM_tup, tupleM_fl, divmodM_int, strM_int, min2M_int, max2M_int, intsOf_map, sumM_ref, sortedM_ref, insertM_eq, extendM_eq, popAtM_eq, clearM_eq, indexLM_eq, tyM_list_fl, tV_eq, truK_bl, truK_non, truK_int, truK_tup, truK_ref, obB_lst, obB_dK, sAsgT_eq, tgK_some, gN_eq, gT_eq, gsCons_eq, gK_some, gsNil_eq, sSetIx_eq, setK_eq, sAug_eq, augK_some, iaddM_int, isubM_int, eListR_eq, rg1_eq, rg2_eq, rg1K_int, rg2K_int, iZip_eq, zipM_tup, zipM_ref, iRev_eq, revM_tup, revM_ref, eLc_eq, lcK_vals, lcK_live, lcK_gen, optS_some, wipeW_nil, wipeW_cons, tYs_eq, lcT_gN, turnK_ite, putK_ok, putL_lst, lcV_nil, andThen_some, srcK_gen, bd_eq, bdK_ok, bdK_ex, bdK_bad, bdK_ite, rt_eq, bad_eq, app_ite, onE_ok, onE_ex, onE_bad, onE_ite, seq_eq, seqK_nx, seqK_rt, seqK_bk, seqK_ct, seqK_ex, seqK_bad, seqK_ite, loopK_nx, loopK_ct, loopK_bk, loopK_rt, loopK_ex, loopK_bad, loopK_ite, fn_eq, fnK_rt, fnK_nx, fnK_ex, fnK_ite, eVar_0, eVar_s, eC_eq, eOp_eq, eUn_eq, eAnd_eq, eOr_eq, eNot_eq, boK_bl, eIf_eq, eChain_eq, tB_eq, tbK_bl, tAnd_eq, tOr_eq, tNot_eq, aNil_eq, aCons_eq, eTup_eq, eLst_eq, new_eq, eB_eq, eCall_eq, eM_eq, eSl_eq, oNone_eq, oSome_eq, intK_int, sNil_eq, sExpr_eq, sRet_eq, sRetN_eq, sIf_eq, sAsg_eq, sRaise_eq, sBreak_eq, sCont_eq, sFor_eq, srcK_vals, iE_eq, srcOf_tup, srcOf_fl, srcOf_str, forV_nil, addM_int, addM_str, addM_tup, subM_int, mulM_int, mulM_str, modM_int, fdivM_int, powM_int, negM_int, ltM_int, leM_int, gtM_int, geM_int, eqM_int, eqM_str, eqM_bl, neM_int, neM_str, neM_bl, isM_non, isM_int, isM_str, isM_bl, isM_tup, isM_ref, inM_str, notInM_str, lenM_str, lenM_tup, lenM_fl, intM_int, tyM_str, slM_str, isiM_non, isiM_bl, isiM_int, isiM_str, isiM_tup, resK_some, obL_lst, obS_lst, optK_some, isLst_lst, appendM_eq, popM_eq, reverseM_eq, lenM_refE, ixM_refE, ixM_tupE, ixM_flE, ixM_strE, srcOf_refE, srcK_liveE, tyM_refE, get_last, set_last, sTry_eq, tryK_nx, tryK_rt, noEx_nx, noEx_rt, sTryAs_eq, tryAsK_nx, tryAsK_rt, dropS_nx, dropS_rt, onNone_none, kb_NoneType_bool, kb_NoneType_int, kb_NoneType_str, kb_NoneType_tuple, kb_NoneType_list, kb_NoneType_dict, kb_bool_bool, kb_bool_int, kb_bool_str, kb_bool_tuple, kb_bool_list, kb_bool_dict, kb_int_bool, kb_int_int, kb_int_str, kb_int_tuple, kb_int_list, kb_int_dict, kb_str_bool, kb_str_int, kb_str_str, kb_str_tuple, kb_str_list, kb_str_dict, kb_tuple_bool, kb_tuple_int, kb_tuple_str, kb_tuple_tuple, kb_tuple_list, kb_tuple_dict, kb_list_bool, kb_list_int, kb_list_str, kb_list_tuple, kb_list_list, kb_list_dict, kb_dict_bool, kb_dict_int, kb_dict_str, kb_dict_tuple, kb_dict_list, kb_dict_dict, List.map_cons, List.map_nil, List.cons_append, List.nil_append, List.length_cons, List.length_nil, Nat.reduceAdd, Nat.reduceSub, List.replicate, List.set_cons_zero, List.set_cons_succ, Bool.false_eq_true, Bool.not_true, Bool.not_false, if_true, if_false, reduceIte, decide_eq_true_eq, Bool.not_eq_true', decide_eq_false_iff_not, not_true_eq_false, not_false_eq_true, ite_not, decide_true, decide_false, eq_self_iff_true, indexSM_eq, startsM_str, endsM_str, splitM_str, iR1_eq, iR2_eq, rngK_1, rngK2_2, chr1_eq, subS_one, and_self, true_and, and_true, false_and, and_false, or_true, true_or, or_self, false_or, or_false, ne_eq, *])

def bDrawsIn : Stm := (sIf (tB (eOp gtM (eVar 3) (eC (.int 0)))) (sSeq (sExpr (eM "list" appendM (eVar 1) (aCons (eOp modM (eB intM (aCons (eVar 3) aNil)) (eC (.int 1000))) aNil)))
  (sAsg 3 (eOp fdivM (eVar 3) (eC (.int 1000))))) sNil)
def bDrawsIn2 : Stm := (sSeq (sAsg 3 (eOp modM (eB intM (aCons (eOp mulM (eVar 3) (eC (.int 69621))) aNil)) (eC (.int 2147483629))))
  (sExpr (eM "list" appendM (eVar 1) (aCons (eOp modM (eB intM (aCons (eOp fdivM (eVar 3) (eC (.int 7))) aNil)) (eC (.int 1000))) aNil))))
def bDrawsTurn : Stm := (sSeq (sAsg 3 (eB intM (aCons (eVar 2) aNil)))
  (sIf (tB (eChain leM ltG (eC (.int 0)) (eVar 3) (eC (.int 1000)))) (sExpr (eM "list" appendM (eVar 1) (aCons (eVar 3) aNil))) (sIf (tB (eOp geM (eVar 3) (eOp powM (eC (.int 10)) (eC (.int 18))))) (sFor (iR1 (aCons (eC (.int 60)) aNil)) (gN 4) bDrawsIn) (sSeq (sAsg 3 (eOp modM (eB intM (aCons (eOp mulM (eVar 3) (eC (.int 48271))) aNil)) (eC (.int 2147483647))))
  (sFor (iR1 (aCons (eC (.int 4)) aNil)) (gN 4) bDrawsIn2)))))
def bDraws : Stm :=
  (sSeq (sAsg 1 (eLst aNil))
  (sSeq (sFor (iE (eVar 0)) (gN 2) bDrawsTurn)
  (sSeq (sExpr (eM "list" reverseM (eVar 1) aNil))
  (sRet (eVar 1)))))
def bDraw : Stm :=
  (sSeq (sIf (tB (eOp eqM (eB lenM (aCons (eVar 0) aNil)) (eC (.int 0)))) (sRet (eC (.int 0))) sNil)
  (sRet (eOp modM (eB intM (aCons (eM "list" popM (eVar 0) aNil) aNil)) (eVar 1))))
def mDraw : Fn := fnM 2 bDraw
def bPick : Stm :=
  (sRet (eOp ixM (eVar 1) (eCall mDraw (aCons (eVar 0) (aCons (eB lenM (aCons (eVar 1) aNil)) aNil)))))
def mPick : Fn := fnM 2 bPick
abbrev oI (zs : List Int) : Ob := .lst (zs.map W.int)
theorem oI_app (zs : List Int) (z : Int) : zs.map W.int ++ [W.int z] = (zs ++ [z]).map W.int := by simp
theorem big : (2 : Nat) ^ 24 = 16777216 := by decide
theorem sizeLine_n : sizeLine = 16777216 := sizeLine_eq
/-- the loop of 60 -/
theorem drawsIn_run (S : Sto) (f v : W) : ∀ (xs : List W) (r : Int) (c : Option W) (zs : List Int), zs.length + xs.length < 16777216 →
    ∃ r' c' zs', zs'.length ≤ zs.length + xs.length ∧ forV (gN 4) bDrawsIn xs [some f, some (.ref S.length), some v, some (.int r), c] (S ++ [oI zs]) = .nx [some f, some (.ref S.length), some v, some (.int r'), c'] (S ++ [oI zs'])
  | [], r, c, zs, h => ⟨r, c, zs, by simp, rfl⟩
  | x :: xs, r, c, zs, h => by
    rw [forV_gN]
    by_cases hr : 0 < r
    · have e : bDrawsIn [some f, some (.ref S.length), some v, some (.int r), some x] (S ++ [oI zs]) = .nx [some f, some (.ref S.length), some v, some (.int (r.fdiv 1000)), some x] (S ++ [oI (zs ++ [r.fmod 1000])]) := by
        unfold bDrawsIn
        have hl : (zs.map W.int).length < sizeLine := by rw [List.length_map, sizeLine_n]; simp at h; omega
        walk_at "evh"
        simp
      obtain ⟨r', c', zs', h1, h2⟩ := drawsIn_run S f v xs (r.fdiv 1000) (some x) (zs ++ [r.fmod 1000]) (by simp at h ⊢; omega)
      refine ⟨r', c', zs', by simp at h1 ⊢; omega, ?_⟩
      show loopK (bDrawsIn [some f, some (.ref S.length), some v, some (.int r), some x] (S ++ [oI zs])) _ = _
      rw [e]
      exact h2
    · have e : bDrawsIn [some f, some (.ref S.length), some v, some (.int r), some x] (S ++ [oI zs]) = .nx [some f, some (.ref S.length), some v, some (.int r), some x] (S ++ [oI zs]) := by
        unfold bDrawsIn
        walk_at "evh"
      obtain ⟨r', c', zs', h1, h2⟩ := drawsIn_run S f v xs r (some x) zs (by simp at h ⊢; omega)
      refine ⟨r', c', zs', by simp; omega, ?_⟩
      show loopK (bDrawsIn [some f, some (.ref S.length), some v, some (.int r), some x] (S ++ [oI zs])) _ = _
      rw [e]
      exact h2
theorem drawsIn2_run (S : Sto) (f v : W) : ∀ (xs : List W) (r : Int) (c : Option W) (zs : List Int), zs.length + xs.length < 16777216 →
    ∃ r' c' zs', zs'.length ≤ zs.length + xs.length ∧ forV (gN 4) bDrawsIn2 xs [some f, some (.ref S.length), some v, some (.int r), c] (S ++ [oI zs]) = .nx [some f, some (.ref S.length), some v, some (.int r'), c'] (S ++ [oI zs'])
  | [], r, c, zs, h => ⟨r, c, zs, by simp, rfl⟩
  | x :: xs, r, c, zs, h => by
    rw [forV_gN]
    have e : ∃ r1 z, bDrawsIn2 [some f, some (.ref S.length), some v, some (.int r), some x] (S ++ [oI zs]) = .nx [some f, some (.ref S.length), some v, some (.int r1), some x] (S ++ [oI (zs ++ [z])]) := by
      refine ⟨(r * 69621).fmod 2147483629, (((r * 69621).fmod 2147483629).fdiv 7).fmod 1000, ?_⟩
      unfold bDrawsIn2
      have hl : (zs.map W.int).length < sizeLine := by rw [List.length_map, sizeLine_n]; simp at h; omega
      have hm : inR 18446744073709551615 69621 = true := by decide
      walk_at "evh"
      simp
    obtain ⟨r1, z, e⟩ := e
    obtain ⟨r', c', zs', h1, h2⟩ := drawsIn2_run S f v xs r1 (some x) (zs ++ [z]) (by simp at h ⊢; omega)
    refine ⟨r', c', zs', by simp at h1 ⊢; omega, ?_⟩
    show loopK (bDrawsIn2 [some f, some (.ref S.length), some v, some (.int r), some x] (S ++ [oI zs])) _ = _
    rw [e]
    exact h2
theorem rng_len (lo : Int) (n : Nat) : (rng lo n).length = n := by simp [rng]
theorem iR1_60 (s : Sl) (S : Sto) : iR1 (aCons (eC (.int 60)) aNil) s S = .ok (.vals (rng 0 60)) S := iR1_int _ s S S 60 rfl (by decide)
theorem iR1_4 (s : Sl) (S : Sto) : iR1 (aCons (eC (.int 4)) aNil) s S = .ok (.vals (rng 0 4)) S := iR1_int _ s S S 4 rfl (by decide)
theorem drawsTurn_run (S : Sto) (f : W) (v : Int) (b c : Option W) (zs : List Int) (h : zs.length + 60 < 16777216) :
    ∃ b' c' zs', zs'.length ≤ zs.length + 60 ∧ bDrawsTurn [some f, some (.ref S.length), some (.int v), b, c] (S ++ [oI zs]) = .nx [some f, some (.ref S.length), some (.int v), b', c'] (S ++ [oI zs']) := by
  have hl : (zs.map W.int).length < sizeLine := by rw [List.length_map, sizeLine_n]; omega
  unfold bDrawsTurn
  by_cases h1 : 0 ≤ v
  · by_cases h2 : v < 1000
    · refine ⟨some (.int v), c, zs ++ [v], by simp, ?_⟩
      walk_at "evh"
      simp
    · by_cases h3 : (1000000000000000000 : Int) ≤ v
      · obtain ⟨r', c', zs', q1, q2⟩ := drawsIn_run S f (.int v) (rng 0 60) v c zs (by rw [rng_len]; omega)
        refine ⟨some (.int r'), c', zs', by rw [rng_len] at q1; omega, ?_⟩
        have e : ((10 : Int) ^ (18 : Int).toNat ≤ v) := by simpa using h3
        have e2 : (0 : Int) ≤ 18 ∧ (18 : Int) ≤ 1000000 ∧ (10 : Int).natAbs < 2 ^ 64 := by decide
        have i60 : inR 4611686018427387903 60 = true := by decide
        have j60 : (60 : Int).toNat = 60 := rfl
        walk_at "evh"
      · obtain ⟨r', c', zs', q1, q2⟩ := drawsIn2_run S f (.int v) (rng 0 4) ((v * 48271).fmod 2147483647) c zs (by rw [rng_len]; omega)
        refine ⟨some (.int r'), c', zs', by rw [rng_len] at q1; omega, ?_⟩
        have e : ¬ ((10 : Int) ^ (18 : Int).toNat ≤ v) := by simpa using h3
        have e2 : (0 : Int) ≤ 18 ∧ (18 : Int) ≤ 1000000 ∧ (10 : Int).natAbs < 2 ^ 64 := by decide
        have hm : inR 18446744073709551615 48271 = true := by decide
        have h7 : (2147483647 : Int) ≠ 0 := by decide
        have i4 : inR 4611686018427387903 4 = true := by decide
        have j4 : (4 : Int).toNat = 4 := rfl
        walk_at "evh"
  · obtain ⟨r', c', zs', q1, q2⟩ := drawsIn2_run S f (.int v) (rng 0 4) ((v * 48271).fmod 2147483647) c zs (by rw [rng_len]; omega)
    refine ⟨some (.int r'), c', zs', by rw [rng_len] at q1; omega, ?_⟩
    have h3 : ¬ (1000000000000000000 : Int) ≤ v := by omega
    have e : ¬ ((10 : Int) ^ (18 : Int).toNat ≤ v) := by simpa using h3
    have e2 : (0 : Int) ≤ 18 ∧ (18 : Int) ≤ 1000000 ∧ (10 : Int).natAbs < 2 ^ 64 := by decide
    have hm : inR 18446744073709551615 48271 = true := by decide
    have h7 : (2147483647 : Int) ≠ 0 := by decide
    have i4 : inR 4611686018427387903 4 = true := by decide
    have j4 : (4 : Int).toNat = 4 := rfl
    walk_at "evh"
theorem drawsLoop_run (S : Sto) (f : W) : ∀ (ns : List Int) (a b c : Option W) (zs : List Int), zs.length + 60 * ns.length < 16777216 →
    ∃ a' b' c' zs', zs'.length ≤ zs.length + 60 * ns.length ∧ forV (gN 2) bDrawsTurn (ns.map W.int) [some f, some (.ref S.length), a, b, c] (S ++ [oI zs]) = .nx [some f, some (.ref S.length), a', b', c'] (S ++ [oI zs'])
  | [], a, b, c, zs, h => ⟨a, b, c, zs, by simp, rfl⟩
  | n :: ns, a, b, c, zs, h => by
    rw [List.map_cons, forV_gN]
    simp only [List.length_cons] at h
    obtain ⟨b1, c1, zs1, h1, e1⟩ := drawsTurn_run S f n b c zs (by omega)
    obtain ⟨a', b', c', zs', h2, e2⟩ := drawsLoop_run S f ns (some (.int n)) b1 c1 zs1 (by omega)
    refine ⟨a', b', c', zs', by simp only [List.length_cons]; omega, ?_⟩
    show loopK (bDrawsTurn [some f, some (.ref S.length), some (.int n), b, c] (S ++ [oI zs])) _ = _
    rw [e1]
    exact e2
/-- the draws: a new list of ints -/
theorem draws_run (ns : List Int) (h : ns.length ≤ 63) (S : Sto) : ∃ zs, fnM 5 bDraws [.fl (ns.map W.int)] S = .ok (.ref S.length) (S ++ [oI zs]) := by
  obtain ⟨a', b', c', zs', h2, e2⟩ := drawsLoop_run S (.fl (ns.map W.int)) ns none none none [] (by simp; omega)
  refine ⟨zs'.reverse, ?_⟩
  unfold bDraws
  have h0 : 0 ≤ sizeLine := Nat.zero_le _
  have e3 : forV (gN 2) bDrawsTurn (ns.map W.int) [some (.fl (ns.map W.int)), some (.ref S.length), none, none, none] (S ++ [.lst []]) = .nx [some (.fl (ns.map W.int)), some (.ref S.length), a', b', c'] (S ++ [oI zs']) := e2
  walk_at "evh"
  simp
theorem set_same {S : Sto} {d : Nat} {o : Ob} (h : S[d]? = some o) : S.set d o = S := by
  apply List.ext_getElem?
  intro i
  by_cases hi : d = i
  · subst hi; rw [set_get h, h]
  · rw [List.getElem?_set_ne hi]
/-- one draw -/
theorem draw_run (S : Sto) (d : Nat) (zs : List Int) (n : Int) (hd : S[d]? = some (oI zs)) (hn : 0 < n) : ∃ v zs', (0 ≤ v ∧ v < n) ∧ mDraw [.ref d, .int n] S = .ok (.int v) (S.set d (oI zs')) := by
  cases hz : zs.reverse with
  | nil =>
    have e : zs = [] := by simpa using hz
    subst e
    refine ⟨0, [], ⟨by omega, hn⟩, ?_⟩
    have e2 : S.set d (oI []) = S := set_same hd
    unfold mDraw bDraw
    have e3 : (([] : List W).length : Int) = 0 := rfl
    walk_at "evh"
    simp
  | cons z r =>
    have e : zs = r.reverse ++ [z] := by
      have := congrArg List.reverse hz
      simpa using this
    subst e
    clear hz
    refine ⟨z.fmod n, r.reverse, ⟨Int.fmod_nonneg_of_pos _ hn, Int.fmod_lt_of_pos _ hn⟩, ?_⟩
    have hn0 : n ≠ 0 := by omega
    have e0 : ¬ (((List.map W.int (r.reverse ++ [z])).length : Int) = 0) := by simp; omega
    have e1 : (List.map W.int (r.reverse ++ [z]))[(List.map W.int (r.reverse ++ [z])).length - 1]? = some (W.int z) := by simp
    have e2 : (List.map W.int (r.reverse ++ [z])).dropLast = r.reverse.map W.int := by simp
    unfold mDraw bDraw
    walk_at "evh"
theorem atI_in {α : Type} {xs : List α} {i : Int} (h0 : 0 ≤ i) (h1 : i < xs.length) : ∃ w, w ∈ xs ∧ L2.atI xs i = some w := by
  have hi : i.toNat < xs.length := by omega
  refine ⟨xs[i.toNat], List.getElem_mem hi, ?_⟩
  have e := L2.atI_nat (xs := xs) (j := i.toNat) (v := xs[i.toNat]) (List.getElem?_eq_getElem hi)
  rwa [Int.toNat_of_nonneg h0] at e
theorem pick_list (S : Sto) (d t : Nat) (zs : List Int) (xs : List W) (hd : S[d]? = some (oI zs)) (ht : S[t]? = some (.lst xs)) (hne : d ≠ t) (h0 : 0 < xs.length) :
    ∃ w zs', w ∈ xs ∧ mPick [.ref d, .ref t] S = .ok w (S.set d (oI zs')) := by
  obtain ⟨v, zs', ⟨h1, h2⟩, e⟩ := draw_run S d zs (xs.length : Int) hd (by omega)
  obtain ⟨w, hw, ea⟩ := atI_in h1 h2
  refine ⟨w, zs', hw, ?_⟩
  have e3 : (S.set d (oI zs'))[t]? = some (.lst xs) := by rw [List.getElem?_set_ne hne]; exact ht
  clear h1 h2
  unfold mPick bPick
  walk_at "evh"
theorem pick_str (S : Sto) (d : Nat) (zs : List Int) (x : Str) (hd : S[d]? = some (oI zs)) (h0 : 0 < x.length) (hl : x.length ≤ sizeLine) :
    ∃ c zs', c ∈ x.cps.toList ∧ mPick [.ref d, .str x] S = .ok (chr1 c) (S.set d (oI zs')) := by
  obtain ⟨v, zs', ⟨h1, h2⟩, e⟩ := draw_run S d zs (x.length : Int) hd (by omega)
  obtain ⟨w, hw, ea⟩ := atI_in (xs := x.cps.toList) h1 (by simpa [Str.length] using h2)
  refine ⟨w, zs', hw, ?_⟩
  clear h1 h2
  unfold mPick bPick
  walk_at "evh"
/-- the draws stand at d; the other old objects are as they were -/
structure Dr (d : Nat) (S S' : Sto) : Prop where
  dr : ∃ zs, S'[d]? = some (oI zs)
  le : S.length ≤ S'.length
  old : ∀ i, i ≠ d → i < S.length → S'[i]? = S[i]?
abbrev HasD (d : Nat) (S : Sto) : Prop := ∃ zs, S[d]? = some (oI zs)
theorem Dr.refl {d : Nat} {S : Sto} (h : HasD d S) : Dr d S S := ⟨h, Nat.le_refl _, fun _ _ _ => rfl⟩
theorem Dr.trans {d : Nat} {S S1 S2 : Sto} (a : Dr d S S1) (b : Dr d S1 S2) : Dr d S S2 :=
  ⟨b.dr, Nat.le_trans a.le b.le, fun i h1 h2 => (b.old i h1 (Nat.lt_of_lt_of_le h2 a.le)).trans (a.old i h1 h2)⟩
theorem HasD.lt {d : Nat} {S : Sto} (h : HasD d S) : d < S.length := let ⟨_, e⟩ := h; (List.getElem?_eq_some_iff.mp e).1
theorem HasD.app {d : Nat} {S : Sto} (h : HasD d S) (r : Sto) : HasD d (S ++ r) := let ⟨zs, e⟩ := h; ⟨zs, get_old r e⟩
theorem Dr.app {d : Nat} {S : Sto} (h : HasD d S) (r : Sto) : Dr d S (S ++ r) := ⟨h.app r, by simp, fun i _ hi => List.getElem?_append_left hi⟩
theorem Dr.set {d : Nat} {S : Sto} (h : HasD d S) (zs : List Int) : Dr d S (S.set d (oI zs)) := by
  obtain ⟨z0, e⟩ := h
  exact ⟨⟨zs, set_get e⟩, by simp, fun i hi _ => List.getElem?_set_ne (Ne.symm hi)⟩
theorem drawD {S : Sto} {d : Nat} {n : Int} (hd : HasD d S) (hn : 0 < n) : ∃ v S', (0 ≤ v ∧ v < n) ∧ Dr d S S' ∧ mDraw [.ref d, .int n] S = .ok (.int v) S' := by
  obtain ⟨zs, e⟩ := id hd
  obtain ⟨v, zs', h1, h2⟩ := draw_run S d zs n e hn
  exact ⟨v, _, h1, Dr.set hd zs', h2⟩
theorem pickLD {S : Sto} {d t : Nat} {xs : List W} (hd : HasD d S) (ht : S[t]? = some (.lst xs)) (hne : d ≠ t) (h0 : 0 < xs.length) : ∃ w S', w ∈ xs ∧ Dr d S S' ∧ mPick [.ref d, .ref t] S = .ok w S' := by
  obtain ⟨zs, e⟩ := id hd
  obtain ⟨w, zs', h1, h2⟩ := pick_list S d t zs xs e ht hne h0
  exact ⟨w, _, h1, Dr.set hd zs', h2⟩
/-- .. out of a list just made -/
theorem pickND {S : Sto} {d : Nat} {xs : List W} (hd : HasD d S) (h0 : 0 < xs.length) : ∃ w S', w ∈ xs ∧ Dr d S S' ∧ mPick [.ref d, .ref S.length] (S ++ [.lst xs]) = .ok w S' := by
  obtain ⟨w, S', h1, h2, h3⟩ := pickLD (t := S.length) (hd.app [.lst xs]) (get_last S _) (Nat.ne_of_lt hd.lt) h0
  exact ⟨w, S', h1, (Dr.app hd _).trans h2, h3⟩
theorem pickSD {S : Sto} {d : Nat} {x : Str} (hd : HasD d S) (h0 : 0 < x.length) (hl : x.length ≤ sizeLine) : ∃ c S', c ∈ x.cps.toList ∧ Dr d S S' ∧ mPick [.ref d, .str x] S = .ok (chr1 c) S' := by
  obtain ⟨zs, e⟩ := id hd
  obtain ⟨c, zs', h1, h2⟩ := pick_str S d zs x e h0 hl
  exact ⟨c, _, h1, Dr.set hd zs', h2⟩
/-- one turn of a loop over a list of the store: the part ahead is pre -/
theorem forL_step (i a n : Nat) (b : Stm) (pre suf : List W) (x : W) (s : Sl) (S : Sto) (h : S[a]? = some (.lst (pre ++ x :: suf))) (hn : (pre ++ x :: suf).length = n) :
    forL (gN i) b a n (suf.length + 1) s S = loopK (b (s.set i (some x)) S) (forL (gN i) b a n suf.length) := by
  refine forL_gN i a n b suf.length x _ s S h hn ?_
  have : n - (suf.length + 1) = pre.length := by rw [← hn]; simp
  rw [this]
  simp
theorem forL_done (g : Tgt) (a n : Nat) (b : Stm) (ys : List W) (s : Sl) (S : Sto) (h : S[a]? = some (.lst ys)) (hn : ys.length = n) : forL g b a n 0 s S = .nx s S := forL_0 0 a n g b ys s S h hn
end Fr

/-! Fr: values read as plain data -/
namespace Fr
open PySem
local macro_rules | `(tactic| walk_at "ev") => `(tactic| simp only [Bool.or_true, Bool.true_or, Bool.and_self, Bool.or_self, Bool.and_true, Bool.true_and, Bool.false_or, Bool.or_false, Bool.false_and, Bool.and_false, ltG_int, ltG_str, ltG_ref, ltG_tup, memM_eq, notMemM_eq, memB_str, blK_some, nblK_some, eqM_ref, eqM_tup, neM_ref, neM_tup, isM_fl, isNotM_non, isNotM_int, isNotM_str, isNotM_bl, isNotM_tup, isNotM_ref, listM_ref, listM_tup, listM_fl, listK_lst, listK_dK, tupleM_ref, tupleM_tup, tupleM_fl, divmodM_int, strM_int, min2M_int, max2M_int, intsOf_map, sumM_ref, sortedM_ref, insertM_eq, extendM_eq, popAtM_eq, clearM_eq, indexLM_eq, tyM_list_fl, tV_eq, truK_bl, truK_non, truK_int, truK_tup, truK_ref, obB_lst, obB_dK, sAsgT_eq, tgK_some, gN_eq, gT_eq, gsCons_eq, gK_some, gsNil_eq, sSetIx_eq, setK_eq, sAug_eq, augK_some, iaddM_int, isubM_int, eListR_eq, rg1_eq, rg2_eq, rg1K_int, rg2K_int, iZip_eq, zipM_tup, zipM_ref, iRev_eq, revM_tup, revM_ref, eLc_eq, lcK_vals, lcK_live, lcK_gen, optS_some, wipeW_nil, wipeW_cons, tYs_eq, lcT_gN, turnK_ite, putK_ok, putL_lst, lcV_nil, andThen_some, srcK_gen, bd_eq, bdK_ok, bdK_ex, bdK_bad, bdK_ite, rt_eq, bad_eq, app_ite, onE_ok, onE_ex, onE_bad, onE_ite, seq_eq, seqK_nx, seqK_rt, seqK_bk, seqK_ct, seqK_ex, seqK_bad, seqK_ite, loopK_nx, loopK_ct, loopK_bk, loopK_rt, loopK_ex, loopK_bad, loopK_ite, fn_eq, fnK_rt, fnK_nx, fnK_ex, fnK_ite, eVar_0, eVar_s, eC_eq, eOp_eq, eUn_eq, eAnd_eq, eOr_eq, eNot_eq, boK_bl, eIf_eq, eChain_eq, tB_eq, tbK_bl, tAnd_eq, tOr_eq, tNot_eq, aNil_eq, aCons_eq, eTup_eq, eLst_eq, new_eq, eB_eq, eCall_eq, eM_eq, eSl_eq, oNone_eq, oSome_eq, intK_int, sNil_eq, sExpr_eq, sRet_eq, sRetN_eq, sIf_eq, sAsg_eq, sRaise_eq, sBreak_eq, sCont_eq, sFor_eq, srcK_vals, iE_eq, srcOf_tup, srcOf_fl, srcOf_str, forV_nil, addM_int, addM_str, addM_tup, subM_int, mulM_int, mulM_str, modM_int, fdivM_int, powM_int, negM_int, ltM_int, leM_int, gtM_int, geM_int, eqM_int, eqM_str, eqM_bl, neM_int, neM_str, neM_bl, isM_non, isM_int, isM_str, isM_bl, isM_tup, isM_ref, inM_str, notInM_str, lenM_str, lenM_tup, lenM_fl, intM_int, tyM_str, slM_str, isiM_non, isiM_bl, isiM_int, isiM_str, isiM_tup, resK_some, obL_lst, obS_lst, optK_some, isLst_lst, appendM_eq, popM_eq, reverseM_eq, lenM_refE, ixM_refE, ixM_tupE, ixM_flE, ixM_strE, srcOf_refE, srcK_liveE, tyM_refE, get_last, set_last, sTry_eq, tryK_nx, tryK_rt, noEx_nx, noEx_rt, sTryAs_eq, tryAsK_nx, tryAsK_rt, dropS_nx, dropS_rt, onNone_none, kb_NoneType_bool, kb_NoneType_int, kb_NoneType_str, kb_NoneType_tuple, kb_NoneType_list, kb_NoneType_dict, kb_bool_bool, kb_bool_int, kb_bool_str, kb_bool_tuple, kb_bool_list, kb_bool_dict, kb_int_bool, kb_int_int, kb_int_str, kb_int_tuple, kb_int_list, kb_int_dict, kb_str_bool, kb_str_int, kb_str_str, kb_str_tuple, kb_str_list, kb_str_dict, kb_tuple_bool, kb_tuple_int, kb_tuple_str, kb_tuple_tuple, kb_tuple_list, kb_tuple_dict, kb_list_bool, kb_list_int, kb_list_str, kb_list_tuple, kb_list_list, kb_list_dict, kb_dict_bool, kb_dict_int, kb_dict_str, kb_dict_tuple, kb_dict_list, kb_dict_dict, List.map_cons, List.map_nil, List.cons_append, List.nil_append, List.length_cons, List.length_nil, Nat.reduceAdd, Nat.reduceSub, List.replicate, List.set_cons_zero, List.set_cons_succ, Bool.false_eq_true, Bool.not_true, Bool.not_false, if_true, if_false, reduceIte, decide_eq_true_eq, Bool.not_eq_true', decide_eq_false_iff_not, not_true_eq_false, not_false_eq_true, ite_not, decide_true, decide_false, eq_self_iff_true, indexSM_eq, startsM_str, endsM_str, splitM_str, iR1_eq, iR2_eq, rngK_1, rngK2_2, chr1_eq, subS_one, and_self, true_and, and_true, false_and, and_false, or_true, true_or, or_self, false_or, or_false, ne_eq])
local macro_rules | `(tactic| walk_at "evh") => `(tactic| simp only [Bool.or_true, Bool.true_or, Bool.and_self, Bool.or_self, Bool.and_true, Bool.true_and, Bool.false_or, Bool.or_false, Bool.false_and, Bool.and_false, ltG_int, ltG_str, ltG_ref, ltG_tup, memM_eq, notMemM_eq, memB_str, blK_some, nblK_some, eqM_ref, eqM_tup, neM_ref, neM_tup, isM_fl, isNotM_non, isNotM_int, isNotM_str, isNotM_bl, isNotM_tup, isNotM_ref, listM_ref, listM_tup, listM_fl, listK_lst, listK_dK, tupleM_ref, tupleM_tup, tupleM_fl, divmodM_int, strM_int, min2M_int, max2M_int, intsOf_map, sumM_ref, sortedM_ref, insertM_eq, extendM_eq, popAtM_eq, clearM_eq, indexLM_eq, tyM_list_fl, tV_eq, truK_bl, truK_non, truK_int, truK_tup, truK_ref, obB_lst, obB_dK, sAsgT_eq, tgK_some, gN_eq, gT_eq, gsCons_eq, gK_some, gsNil_eq, sSetIx_eq, setK_eq, sAug_eq, augK_some, iaddM_int, isubM_int, eListR_eq, rg1_eq, rg2_eq, rg1K_int, rg2K_int, iZip_eq, zipM_tup, zipM_ref, iRev_eq, revM_tup, revM_ref, eLc_eq, lcK_vals, lcK_live, lcK_gen, optS_some, wipeW_nil, wipeW_cons, tYs_eq, lcT_gN, turnK_ite, putK_ok, putL_lst, lcV_nil, andThen_some, srcK_gen, bd_eq, bdK_ok, bdK_ex, bdK_bad, bdK_ite, rt_eq, bad_eq, app_ite, onE_ok, onE_ex, onE_bad, onE_ite, seq_eq, seqK_nx, seqK_rt, seqK_bk, seqK_ct, seqK_ex, seqK_bad, seqK_ite, loopK_nx, loopK_ct, loopK_bk, loopK_rt, loopK_ex, loopK_bad, loopK_ite, fn_eq, fnK_rt, fnK_nx, fnK_ex, fnK_ite, eVar_0, eVar_s, eC_eq, eOp_eq, eUn_eq, eAnd_eq, eOr_eq, eNot_eq, boK_bl, eIf_eq, eChain_eq, tB_eq, tbK_bl, tAnd_eq, tOr_eq, tNot_eq, aNil_eq, aCons_eq, eTup_eq, eLst_eq, new_eq, eB_eq, eCall_eq, eM_eq, eSl_eq, oNone_eq, oSome_eq, intK_int, sNil_eq, sExpr_eq, sRet_eq, sRetN_eq, sIf_eq, sAsg_eq, sRaise_eq, sBreak_eq, sCont_eq, sFor_eq, srcK_vals, iE_eq, srcOf_tup, srcOf_fl, srcOf_str, forV_nil, addM_int, addM_str, addM_tup, subM_int, mulM_int, mulM_str, modM_int, fdivM_int, powM_int, negM_int, ltM_int, leM_int, gtM_int, geM_int, eqM_int, eqM_str, eqM_bl, neM_int, neM_str, neM_bl, isM_non, isM_int, isM_str, isM_bl, isM_tup, isM_ref, inM_str, notInM_str, lenM_str, lenM_tup, lenM_fl, intM_int, tyM_str, slM_str, isiM_non, isiM_bl, isiM_int, isiM_str, isiM_tup, resK_some, obL_lst, obS_lst, optK_some, isLst_lst, appendM_eq, popM_eq, reverseM_eq, lenM_refE, ixM_refE, ixM_tupE, ixM_flE, ixM_strE, srcOf_refE, srcK_liveE, tyM_refE, get_last, set_last, sTry_eq, tryK_nx, tryK_rt, noEx_nx, noEx_rt, sTryAs_eq, tryAsK_nx, tryAsK_rt, dropS_nx, dropS_rt, onNone_none, kb_NoneType_bool, kb_NoneType_int, kb_NoneType_str, kb_NoneType_tuple, kb_NoneType_list, kb_NoneType_dict, kb_bool_bool, kb_bool_int, kb_bool_str, kb_bool_tuple, kb_bool_list, kb_bool_dict, kb_int_bool, kb_int_int, kb_int_str, kb_int_tuple, kb_int_list, kb_int_dict, kb_str_bool, kb_str_int, kb_str_str, kb_str_tuple, kb_str_list, kb_str_dict, kb_tuple_bool, kb_tuple_int, kb_tuple_str, kb_tuple_tuple, kb_tuple_list, kb_tuple_dict, kb_list_bool, kb_list_int, kb_list_str, kb_list_tuple, kb_list_list, kb_list_dict, kb_dict_bool, kb_dict_int, kb_dict_str, kb_dict_tuple, kb_dict_list, kb_dict_dict, List.map_cons, List.map_nil, List.cons_append, List.nil_append, List.length_cons, List.length_nil, Nat.reduceAdd, Nat.reduceSub, List.replicate, List.set_cons_zero, List.set_cons_succ, Bool.false_eq_true, Bool.not_true, Bool.not_false, if_true, if_false, reduceIte, decide_eq_true_eq, Bool.not_eq_true', decide_eq_false_iff_not, not_true_eq_false, not_false_eq_true, ite_not, decide_true, decide_false, eq_self_iff_true, indexSM_eq, startsM_str, endsM_str, splitM_str, iR1_eq, iR2_eq, rngK_1, rngK2_2, chr1_eq, subS_one, and_self, true_and, and_true, false_and, and_false, or_true, true_or, or_self, false_or, or_false, ne_eq, *])
inductive Al (R : W → PyData → Prop) : List W → List PyData → Prop
  | nil : Al R [] []
  | cons {w : W} {x : PyData} {ws : List W} {xs : List PyData} : R w x → Al R ws xs → Al R (w :: ws) (x :: xs)
section
variable {R R' : W → PyData → Prop}
theorem Al.length {ws : List W} {xs : List PyData} (h : Al R ws xs) : ws.length = xs.length := by
  induction h with
  | nil => rfl
  | cons _ _ ih => simp [ih]
theorem Al.imp {ws : List W} {xs : List PyData} (k : ∀ w x, R w x → R' w x) (h : Al R ws xs) : Al R' ws xs := by
  induction h with
  | nil => exact .nil
  | cons h _ ih => exact .cons (k _ _ h) ih
theorem Al.append {ws ws' : List W} {xs xs' : List PyData} (h : Al R ws xs) (h' : Al R ws' xs') : Al R (ws ++ ws') (xs ++ xs') := by
  induction h with
  | nil => exact h'
  | cons h _ ih => exact .cons h ih
theorem Al.get {ws : List W} {xs : List PyData} (h : Al R ws xs) : ∀ {i : Nat} {w : W}, ws[i]? = some w → ∃ x, xs[i]? = some x ∧ R w x := by
  induction h with
  | nil => intro i w e; simp at e
  | cons h _ ih =>
    intro i w e
    cases i with
    | zero => simp at e; subst e; exact ⟨_, rfl, h⟩
    | succ i => simpa using ih (by simpa using e)
theorem Al.get' {ws : List W} {xs : List PyData} (h : Al R ws xs) : ∀ {i : Nat} {x : PyData}, xs[i]? = some x → ∃ w, ws[i]? = some w ∧ R w x := by
  induction h with
  | nil => intro i w e; simp at e
  | cons h _ ih =>
    intro i w e
    cases i with
    | zero => simp at e; subst e; exact ⟨_, rfl, h⟩
    | succ i => simpa using ih (by simpa using e)
theorem Al.map {α : Type} {f : α → W} {g : α → PyData} : ∀ {ys : List α}, (∀ y ∈ ys, R (f y) (g y)) → Al R (ys.map f) (ys.map g)
  | [], _ => .nil
  | y :: ys, h => .cons (h y (by simp)) (Al.map fun z hz => h z (List.mem_cons_of_mem _ hz))
theorem Al.split {pre : List PyData} : ∀ {ws : List W} {suf : List PyData}, Al R ws (pre ++ suf) → ∃ w1 w2, ws = w1 ++ w2 ∧ Al R w1 pre ∧ Al R w2 suf := by
  induction pre with
  | nil => intro ws suf h; exact ⟨[], ws, rfl, .nil, h⟩
  | cons x pre ih =>
    intro ws suf h
    cases h with
    | cons h t =>
      obtain ⟨w1, w2, rfl, a, b⟩ := ih t
      exact ⟨_ :: w1, w2, rfl, .cons h a, b⟩
theorem Al.split' {ws1 : List W} : ∀ {ws2 : List W} {xs : List PyData}, Al R (ws1 ++ ws2) xs → ∃ x1 x2, xs = x1 ++ x2 ∧ Al R ws1 x1 ∧ Al R ws2 x2 := by
  induction ws1 with
  | nil => intro ws suf h; exact ⟨[], suf, rfl, .nil, h⟩
  | cons x pre ih =>
    intro ws suf h
    cases h with
    | cons h t =>
      obtain ⟨w1, w2, rfl, a, b⟩ := ih t
      exact ⟨_ :: w1, w2, rfl, .cons h a, b⟩
theorem allD_iff {f : W → Option PyData} : ∀ {ws : List W} {xs : List PyData}, allD f ws = some xs ↔ Al (fun w x => f w = some x) ws xs
  | [], xs => by
    constructor
    · intro h; cases h; exact .nil
    · intro h; cases h; rfl
  | w :: ws, xs => by
    constructor
    · intro h
      unfold allD at h
      split at h
      · rename_i d ds h1 h2
        cases h
        exact .cons h1 (allD_iff.mp h2)
      · cases h
    · intro h
      cases h with
      | cons h t =>
        unfold allD
        rw [h, allD_iff.mpr t]
end
/-! ### toD -/
section
variable {S T T' : Sto}
theorem toD_of (h : ∀ (i : Nat) (xs : List W), T[i]? = some (Ob.lst xs) → T'[i]? = some (Ob.lst xs)) : ∀ (n : Nat) (w : W) (x : PyData), toD T n w = some x → toD T' n w = some x
  | 0, _, _, e => by cases e
  | n + 1, w, x, e => by
    have ih := toD_of h n
    have all : ∀ ws xs, allD (toD T n) ws = some xs → allD (toD T' n) ws = some xs := fun ws xs q => allD_iff.mpr ((allD_iff.mp q).imp ih)
    unfold toD at e ⊢
    cases w with
    | tup ws =>
      simp only at e ⊢
      cases ha : allD (toD T n) ws with
      | none => rw [ha] at e; cases e
      | some ds => rw [ha] at e; rw [all _ _ ha]; exact e
    | fl ws =>
      simp only at e ⊢
      cases ha : allD (toD T n) ws with
      | none => rw [ha] at e; cases e
      | some ds => rw [ha] at e; rw [all _ _ ha]; exact e
    | ref k =>
      simp only at e ⊢
      split at e
      · rename_i ws hk
        rw [h _ _ hk]
        simp only
        cases ha : allD (toD T n) ws with
        | none => rw [ha] at e; cases e
        | some ds => rw [ha] at e; rw [all _ _ ha]; exact e
      · cases e
    | _ => exact e
theorem toD_up : ∀ (n : Nat) (w : W) (x : PyData), toD S n w = some x → toD S (n + 1) w = some x
  | 0, _, _, e => by cases e
  | n + 1, w, x, e => by
    have ih := toD_up n
    have all : ∀ ws xs, allD (toD S n) ws = some xs → allD (toD S (n + 1)) ws = some xs := fun ws xs q => allD_iff.mpr ((allD_iff.mp q).imp ih)
    unfold toD at e ⊢
    cases w with
    | tup ws =>
      simp only at e ⊢
      cases ha : allD (toD S n) ws with
      | none => rw [ha] at e; cases e
      | some ds => rw [ha] at e; rw [all _ _ ha]; exact e
    | fl ws =>
      simp only at e ⊢
      cases ha : allD (toD S n) ws with
      | none => rw [ha] at e; cases e
      | some ds => rw [ha] at e; rw [all _ _ ha]; exact e
    | ref k =>
      simp only at e ⊢
      split at e
      · rename_i ws hk
        try simp only [hk]
        cases ha : allD (toD S n) ws with
        | none => rw [ha] at e; cases e
        | some ds => rw [ha] at e; rw [all _ _ ha]; exact e
      · cases e
    | _ => exact e
theorem toD_le {n m : Nat} (h : n ≤ m) {w : W} {x : PyData} (e : toD S n w = some x) : toD S m w = some x := by
  induction h with
  | refl => exact e
  | step _ ih => exact toD_up _ _ _ ih
theorem toD_depth : ∀ (n : Nat) (w : W) (x : PyData), toD S n w = some x → x.depth ≤ n
  | 0, _, _, e => by cases e
  | n + 1, w, x, e => by
    have ih := toD_depth n
    have all : ∀ ws xs, Al (fun w x => toD S n w = some x) ws xs → PyData.depthAll xs ≤ n := by
      intro ws xs q
      induction q with
      | nil => unfold PyData.depthAll; exact Nat.zero_le _
      | cons h _ ih2 => unfold PyData.depthAll; exact Nat.max_le.mpr ⟨ih _ _ h, ih2⟩
    unfold toD at e
    cases w with
    | tup ws =>
      simp only at e
      cases ha : allD (toD S n) ws with
      | none => rw [ha] at e; cases e
      | some ds => rw [ha] at e; cases e; unfold PyData.depth; exact Nat.succ_le_succ (all _ _ (allD_iff.mp ha))
    | fl ws =>
      simp only at e
      cases ha : allD (toD S n) ws with
      | none => rw [ha] at e; cases e
      | some ds => rw [ha] at e; cases e; unfold PyData.depth; exact Nat.succ_le_succ (all _ _ (allD_iff.mp ha))
    | ref k =>
      simp only at e
      split at e
      · rename_i ws hk
        cases ha : allD (toD S n) ws with
        | none => rw [ha] at e; cases e
        | some ds => rw [ha] at e; cases e; unfold PyData.depth; exact Nat.succ_le_succ (all _ _ (allD_iff.mp ha))
      · cases e
    | non => cases e; unfold PyData.depth; omega
    | bl b => cases e; unfold PyData.depth; omega
    | int b => cases e; unfold PyData.depth; omega
    | str b => cases e; unfold PyData.depth; omega
    | _ => cases e
theorem shaped_toD {n : Nat} {w : W} {x : PyData} (e : toD S n w = some x) (hn : n ≤ 64) (hc : x.canLay0 = true) : SeqAt.shaped x = true := by
  unfold SeqAt.shaped
  rw [hc, decide_eq_true (Nat.le_trans (toD_depth _ _ _ e) hn)]
  rfl
theorem toD_tup {n : Nat} {ws : List W} {x : PyData} : toD S (n + 1) (.tup ws) = some x ↔ ∃ xs, x = .tuple xs ∧ Al (fun w x => toD S n w = some x) ws xs := by
  show (allD (toD S n) ws).map .tuple = some x ↔ _
  constructor
  · intro e
    cases ha : allD (toD S n) ws with
    | none => rw [ha] at e; cases e
    | some ds => rw [ha] at e; cases e; exact ⟨ds, rfl, allD_iff.mp ha⟩
  · rintro ⟨xs, rfl, h⟩
    rw [allD_iff.mpr h]; rfl
theorem toD_fl {n : Nat} {ws : List W} {x : PyData} : toD S (n + 1) (.fl ws) = some x ↔ ∃ xs, x = .list xs ∧ Al (fun w x => toD S n w = some x) ws xs := by
  show (allD (toD S n) ws).map .list = some x ↔ _
  constructor
  · intro e
    cases ha : allD (toD S n) ws with
    | none => rw [ha] at e; cases e
    | some ds => rw [ha] at e; cases e; exact ⟨ds, rfl, allD_iff.mp ha⟩
  · rintro ⟨xs, rfl, h⟩
    rw [allD_iff.mpr h]; rfl
theorem toD_ref {n k : Nat} {x : PyData} : toD S (n + 1) (.ref k) = some x ↔ ∃ ws xs, S[k]? = some (.lst ws) ∧ x = .list xs ∧ Al (fun w x => toD S n w = some x) ws xs := by
  constructor
  · intro e
    unfold toD at e
    simp only at e
    split at e
    · rename_i ws hk
      cases ha : allD (toD S n) ws with
      | none => rw [ha] at e; cases e
      | some ds => rw [ha] at e; cases e; exact ⟨ws, ds, hk, rfl, allD_iff.mp ha⟩
    · cases e
  · rintro ⟨ws, xs, hk, rfl, h⟩
    unfold toD
    simp only [hk, allD_iff.mpr h]
    rfl
/-- a list, whoever holds it -/
theorem toD_list {n : Nat} {w : W} {xs : List PyData} (e : toD S n w = some (.list xs)) : ∃ ws k, n = k + 1 ∧ getL S w = some ws ∧ Al (fun w x => toD S k w = some x) ws xs := by
  cases n with
  | zero => cases e
  | succ n =>
    cases w with
    | fl ws => obtain ⟨ys, e1, h⟩ := toD_fl.mp e; cases e1; exact ⟨ws, n, rfl, rfl, h⟩
    | ref k =>
      obtain ⟨ws, ys, hk, e1, h⟩ := toD_ref.mp e
      cases e1
      exact ⟨ws, n, rfl, by unfold getL; simp only [hk], h⟩
    | tup ws => obtain ⟨ys, e1, h⟩ := toD_tup.mp e; cases e1
    | _ => cases e
end
/-! ### views: what a value tells, whatever becomes of the objects in h -/
def hid (h : List Nat) (S : Sto) : Sto := h.foldr (fun d T => T.set d (.dT [])) S
def Vw (h : List Nat) (S : Sto) (n : Nat) (w : W) (x : PyData) : Prop := toD (hid h S) n w = some x
abbrev Vws (h : List Nat) (S : Sto) (n : Nat) : List W → List PyData → Prop := Al (Vw h S n)
/-- the old objects, but those of h, are as they were -/
structure Kp (h : List Nat) (S S' : Sto) : Prop where
  le : S.length ≤ S'.length
  old : ∀ i, i ∉ h → i < S.length → S'[i]? = S[i]?
section
variable {S S' S1 S2 : Sto} {h h' : List Nat} {d D n m : Nat} {w : W} {x : PyData}
theorem hid_lst {xs : List W} : ∀ {h : List Nat} {i : Nat}, (hid h S)[i]? = some (.lst xs) ↔ i ∉ h ∧ S[i]? = some (.lst xs)
  | [], i => by simp [hid]
  | d :: h, i => by
    have ih := hid_lst (xs := xs) (h := h) (i := i)
    show ((hid h S).set d (.dT []))[i]? = _ ↔ _
    rw [List.getElem?_set]
    by_cases e : d = i
    · subst e
      by_cases h2 : d < (hid h S).length
      · simp [h2]
      · simp [h2]
    · simp [e, Ne.symm e, ih]
theorem Kp.refl : Kp h S S := ⟨Nat.le_refl _, fun _ _ _ => rfl⟩
theorem Kp.trans (a : Kp h S S1) (b : Kp h S1 S2) : Kp h S S2 := ⟨Nat.le_trans a.le b.le, fun i h1 h2 => (b.old i h1 (Nat.lt_of_lt_of_le h2 a.le)).trans (a.old i h1 h2)⟩
theorem Kp.mono (k : ∀ i ∈ h, i ∈ h') (a : Kp h S S') : Kp h' S S' := ⟨a.le, fun i h1 h2 => a.old i (fun q => h1 (k i q)) h2⟩
theorem Kp.all (a : Kp [] S S') : Kp h S S' := a.mono (fun _ q => by simp at q)
theorem Kp.app (r : Sto) : Kp h S (S ++ r) := ⟨by simp, fun i _ hi => List.getElem?_append_left hi⟩
theorem Kp.set {o : Ob} (hd : d ∈ h) : Kp h S (S.set d o) := ⟨by simp, fun i hi _ => List.getElem?_set_ne (fun e => hi (by rw [← e]; exact hd))⟩
theorem Kp.new {o : Ob} (hd : S.length ≤ d) (a : Kp h S S') : Kp h S (S'.set d o) := ⟨by simpa using a.le, fun i hi hl => by rw [List.getElem?_set_ne (by omega)]; exact a.old i hi hl⟩
/-- what was made since may change -/
theorem Kp.drop (hD : S.length ≤ D) (a : Kp (D :: h) S S') : Kp h S S' := ⟨a.le, fun i hi hl => a.old i (by simp; exact ⟨by omega, hi⟩) hl⟩
theorem Kp.of_dr (a : Dr d S S') (hd : d ∈ h) : Kp h S S' := ⟨a.le, fun i hi hl => a.old i (fun e => hi (by rw [e]; exact hd)) hl⟩
theorem Kp.get {o : Ob} (a : Kp h S S') (hd : d ∉ h) (e : S[d]? = some o) : S'[d]? = some o := by
  rw [a.old d hd (List.getElem?_eq_some_iff.mp e).1]; exact e
theorem Kp.hasD (a : Kp [] S S') (e : HasD d S) : HasD d S' := let ⟨zs, e⟩ := e; ⟨zs, a.get (by simp) e⟩
theorem Vw.toD (k : Vw h S n w x) : Fr.toD S n w = some x := toD_of (fun i xs e => (hid_lst.mp e).2) n w x k
theorem Vw.le (hn : n ≤ m) (k : Vw h S n w x) : Vw h S m w x := toD_le hn k
theorem Vw.kp (r : Kp h S S') (k : Vw h S n w x) : Vw h S' n w x := toD_of (fun i xs e => by
  obtain ⟨h1, h2⟩ := hid_lst.mp e
  exact hid_lst.mpr ⟨h1, r.get h1 h2⟩) n w x k
theorem Vw.sub (r : ∀ i ∈ h, i ∈ h') (k : Vw h' S n w x) : Vw h S n w x := toD_of (fun i xs e => by
  obtain ⟨h1, h2⟩ := hid_lst.mp e
  exact hid_lst.mpr ⟨fun q => h1 (r i q), h2⟩) n w x k
theorem Vw.tail (k : Vw (D :: h) S n w x) : Vw h S n w x := k.sub fun i hi => List.mem_cons_of_mem _ hi
theorem Vw.more (hD : S.length ≤ D) (k : Vw h S n w x) : Vw (D :: h) S n w x := toD_of (fun i xs e => by
  obtain ⟨h1, h2⟩ := hid_lst.mp e
  have := (List.getElem?_eq_some_iff.mp h2).1
  exact hid_lst.mpr ⟨by simp; exact ⟨by omega, h1⟩, h2⟩) n w x k
theorem Vws.kp {ws : List W} {xs : List PyData} (r : Kp h S S') (k : Vws h S n ws xs) : Vws h S' n ws xs := k.imp fun _ _ q => q.kp r
theorem Vws.tail {ws : List W} {xs : List PyData} (k : Vws (D :: h) S n ws xs) : Vws h S n ws xs := k.imp fun _ _ q => q.tail
theorem Vws.more {ws : List W} {xs : List PyData} (hD : S.length ≤ D) (k : Vws h S n ws xs) : Vws (D :: h) S n ws xs := k.imp fun _ _ q => q.more hD
theorem Vws.le {ws : List W} {xs : List PyData} (hn : n ≤ m) (k : Vws h S n ws xs) : Vws h S m ws xs := k.imp fun _ _ q => q.le hn
theorem Vw.int {i : Int} : Vw h S (n + 1) (.int i) (.int i) := rfl
theorem Vw.str {i : Str} : Vw h S (n + 1) (.str i) (.str i) := rfl
theorem Vw.bl {i : Bool} : Vw h S (n + 1) (.bl i) (.bool i) := rfl
theorem Vw.non : Vw h S (n + 1) .non .none := rfl
theorem Vw.tup {ws : List W} {xs : List PyData} (k : Vws h S n ws xs) : Vw h S (n + 1) (.tup ws) (.tuple xs) := toD_tup.mpr ⟨xs, rfl, k⟩
theorem Vw.lst {k : Nat} {ws : List W} {xs : List PyData} (hk : S[k]? = some (.lst ws)) (hd : k ∉ h) (a : Vws h S n ws xs) : Vw h S (n + 1) (.ref k) (.list xs) := toD_ref.mpr ⟨ws, xs, hid_lst.mpr ⟨hd, hk⟩, rfl, a⟩
theorem Vw.ref_inv {k : Nat} (a : Vw h S n (.ref k) x) : ∃ ws xs m, n = m + 1 ∧ S[k]? = some (.lst ws) ∧ k ∉ h ∧ x = .list xs ∧ Vws h S m ws xs := by
  cases n with
  | zero => cases a
  | succ n =>
    obtain ⟨ws, xs, hk, e, a⟩ := toD_ref.mp a
    obtain ⟨h1, h2⟩ := hid_lst.mp hk
    exact ⟨ws, xs, n, rfl, h2, h1, e, a⟩
theorem Vws.ints {is : List Int} : Vws h S (n + 1) (is.map .int) (is.map .int) := Al.map fun _ _ => Vw.int
theorem Vw.ints {is : List Int} {k : Nat} (hk : S[k]? = some (.lst (is.map .int))) (hd : k ∉ h) : Vw h S (n + 2) (.ref k) (.list (is.map .int)) := .lst hk hd Vws.ints
end
/-! ### _law_same -/
def smD : Nat → PyData → Prop
  | 0, _ => True
  | n + 1, .list xs => xs.length < 4611686018427387904 ∧ ∀ y ∈ xs, smD n y
  | n + 1, .tuple xs => xs.length < 4611686018427387904 ∧ ∀ y ∈ xs, smD n y
  | _ + 1, _ => True
def bSameIn (rec : Fn) : Stm := (sIf (tNot (tB (eCall rec (aCons (eOp ixM (eVar 0) (eVar 2)) (aCons (eOp ixM (eVar 1) (eVar 2)) aNil))))) (sRet (eC (.bl false))) sNil)
def bSame (rec : Fn) : Stm :=
  (sSeq (sIf (tOr (tB (eB isiM (aCons (eVar 1) (aCons (eC (.ty "bool")) aNil)))) (tB (eB isiM (aCons (eVar 0) (aCons (eC (.ty "bool")) aNil))))) (sRet (eAnd (eB isiM (aCons (eVar 1) (aCons (eC (.ty "bool")) aNil))) (eAnd (eB isiM (aCons (eVar 0) (aCons (eC (.ty "bool")) aNil))) (eOp eqM (eVar 0) (eVar 1))))) sNil)
  (sSeq (sIf (tOr (tB (eOp isM (eVar 1) (eC .non))) (tB (eOp isM (eVar 0) (eC .non)))) (sRet (eAnd (eOp isM (eVar 1) (eC .non)) (eOp isM (eVar 0) (eC .non)))) sNil)
  (sSeq (sIf (tB (eB isiM (aCons (eVar 1) (aCons (eC (.ty "int")) aNil)))) (sRet (eAnd (eB isiM (aCons (eVar 0) (aCons (eC (.ty "int")) aNil))) (eOp eqM (eVar 0) (eVar 1)))) sNil)
  (sSeq (sIf (tB (eB isiM (aCons (eVar 1) (aCons (eC (.ty "str")) aNil)))) (sRet (eAnd (eB isiM (aCons (eVar 0) (aCons (eC (.ty "str")) aNil))) (eOp eqM (eVar 0) (eVar 1)))) sNil)
  (sSeq (sIf (tAnd (tB (eB isiM (aCons (eVar 1) (aCons (eC (.ty "tuple")) aNil)))) (tNot (tB (eB isiM (aCons (eVar 0) (aCons (eC (.ty "tuple")) aNil)))))) (sRet (eC (.bl false))) sNil)
  (sSeq (sIf (tAnd (tB (eB isiM (aCons (eVar 1) (aCons (eC (.ty "list")) aNil)))) (tNot (tB (eB isiM (aCons (eVar 0) (aCons (eC (.ty "list")) aNil)))))) (sRet (eC (.bl false))) sNil)
  (sSeq (sIf (tB (eOp neM (eB lenM (aCons (eVar 0) aNil)) (eB lenM (aCons (eVar 1) aNil)))) (sRet (eC (.bl false))) sNil)
  (sSeq (sFor (iR1 (aCons (eB lenM (aCons (eVar 1) aNil)) aNil)) (gN 2) (bSameIn rec))
  (sRet (eC (.bl true)))))))))))
def mSame : Nat → Fn
  | 0 => fun _ => bad
  | j + 1 => fnM 3 (bSame (mSame j))
theorem rng_at {lo : Int} {n : Nat} {pre suf : List W} {x : W} (h : rng lo n = pre ++ x :: suf) : x = .int (lo + pre.length) ∧ pre.length < n := by
  have hl : (rng lo n).length = n := rng_len lo n
  have h1 : pre.length < n := by rw [← hl, h]; simp
  have h2 : (rng lo n)[pre.length]? = some x := by rw [h]; simp
  unfold rng at h2
  rw [List.getElem?_map, List.getElem?_range h1] at h2
  simp at h2
  exact ⟨h2.symm, h1⟩
/-- a list or a tuple, as _law_same looks at it -/
structure Seen (S : Sto) (tu : Bool) (w : W) (ws : List W) : Prop where
  ib : isiM [w, .ty "bool"] S = .ok (.bl false) S
  ii : isiM [w, .ty "int"] S = .ok (.bl false) S
  is : isiM [w, .ty "str"] S = .ok (.bl false) S
  it : isiM [w, .ty "tuple"] S = .ok (.bl tu) S
  il : isiM [w, .ty "list"] S = .ok (.bl !tu) S
  no : isM w .non S = .ok (.bl false) S
  len : lenM [w] S = .ok (.int ws.length) S
  ix : ∀ i, ixM w (.int i) S = optK (L2.atI ws i) fun x => .ok x S
  ty : tyM "list" w S = !tu
theorem seen_tup (S : Sto) (ws : List W) : Seen S true (.tup ws) ws := by
  constructor
  · rfl
  · rfl
  · rfl
  · rfl
  · rfl
  · rfl
  · rfl
  · intro i; rw [ixM_tupE]
  · rfl
theorem seen_fl (S : Sto) (ws : List W) : Seen S false (.fl ws) ws := by
  constructor
  · rfl
  · rfl
  · rfl
  · rfl
  · rfl
  · rfl
  · rfl
  · intro i; rw [ixM_flE]
  · rfl
theorem seen_ref (S : Sto) (k : Nat) (ws : List W) (h : S[k]? = some (.lst ws)) : Seen S false (.ref k) ws := by
  have q := fun n => isiM_ref k ws n S h
  constructor
  · rw [q]; rfl
  · rw [q]; rfl
  · rw [q]; rfl
  · rw [q]; rfl
  · rw [q]; rfl
  · rfl
  · rw [lenM_refE, h]; rfl
  · intro i; rw [ixM_refE, h]; rfl
  · rw [tyM_refE, h]; rfl
theorem seen_getL (S : Sto) (w : W) (ws : List W) (h : getL S w = some ws) : Seen S false w ws := by
  cases w with
  | fl xs => cases h; exact seen_fl S _
  | ref k =>
    unfold getL at h
    simp only at h
    split at h
    · rename_i xs hk; cases h; exact seen_ref S k _ hk
    · cases h
  | _ => cases h
theorem small62 (n : Nat) (h : n < 4611686018427387904) : inR 4611686018427387903 (n : Int) = true := inR_iff.mpr (by omega)
theorem atI_nat {α : Type} (xs : List α) (i : Nat) : L2.atI xs (i : Int) = xs[i]? := by
  unfold L2.atI L2.ixN
  rw [if_pos (by omega)]
  by_cases h : (i : Int) < xs.length
  · rw [if_pos h]; rfl
  · rw [if_neg h, List.getElem?_eq_none (by omega)]; rfl
theorem same_seen {S : Sto} {tu : Bool} {w v : W} {ws vs : List W} (hw : Seen S tu w ws) (hv : Seen S tu v vs) (hl : ws.length = vs.length) (hm : vs.length < 4611686018427387904) (rec : Fn) (hr : ∀ (i : Nat) (a b : W), ws[i]? = some a → vs[i]? = some b → rec [a, b] S = .ok (.bl true) S) :
    fnM 3 (bSame rec) [w, v] S = .ok (.bl true) S := by
  obtain ⟨a1, a2, a3, a4, a5, a6, a7, a8, _⟩ := hw
  obtain ⟨b1, b2, b3, b4, b5, b6, b7, b8, _⟩ := hv
  have hlo := forV_all (g := gN 2) (b := bSameIn rec) (fun pre s S' => S' = S ∧ ∃ c, s = [some w, some v, c]) (rng 0 vs.length) (s := [some w, some v, none]) (S := S) (fun pre x suf s S' e hI => ?_) ⟨rfl, none, rfl⟩
  · obtain ⟨s', S', h1, rfl, c, rfl⟩ := hlo
    have i0 := small62 vs.length hm
    have e3 : ((vs.length : Int)).toNat = vs.length := by omega
    have e4 : (ws.length : Int) = (vs.length : Int) := by omega
    clear a8 b8 hr hl hm
    unfold bSame
    cases tu <;> (walk_at "evh")
  · obtain ⟨rfl, c, rfl⟩ := hI
    obtain ⟨rfl, hi⟩ := rng_at e
    refine ⟨_, [some w, some v, some (.int (0 + pre.length))], S', rfl, .inl ?_, rfl, _, rfl⟩
    have e1 : (0 : Int) + (pre.length : Int) = (pre.length : Int) := by omega
    have q1 : ws[pre.length]? = some ws[pre.length] := List.getElem?_eq_getElem (by omega)
    have q2 : vs[pre.length]? = some vs[pre.length] := List.getElem?_eq_getElem hi
    have r1 := a8 (pre.length : Int)
    have r2 := b8 (pre.length : Int)
    rw [atI_nat, q1] at r1
    rw [atI_nat, q2] at r2
    have r3 := hr pre.length _ _ q1 q2
    rw [e1]
    show bSameIn rec [some w, some v, some (.int pre.length)] S' = _
    clear a1 a2 a3 a4 a5 a6 a7 a8 b1 b2 b3 b4 b5 b6 b7 b8 hr q1 q2 e
    unfold bSameIn
    walk_at "evh"
theorem same_ok {S : Sto} : ∀ (n : Nat) (w v : W) (x : PyData), toD S n w = some x → toD S n v = some x → smD n x → ∀ k, n ≤ k → mSame k [w, v] S = .ok (.bl true) S
  | 0, _, _, _, e, _, _, _, _ => by cases e
  | n + 1, w, v, x, e1, e2, hs, k, hk => by
    obtain ⟨j, rfl⟩ : ∃ j, k = j + 1 := ⟨k - 1, by omega⟩
    have ih := same_ok (S := S) n
    show fnM 3 (bSame (mSame j)) [w, v] S = _
    have both : ∀ {xs : List PyData} {ws vs : List W} {tu : Bool}, Al (fun w x => toD S n w = some x) ws xs → Al (fun w x => toD S n w = some x) vs xs → Seen S tu w ws → Seen S tu v vs → xs.length < 4611686018427387904 → (∀ y ∈ xs, smD n y) → fnM 3 (bSame (mSame j)) [w, v] S = .ok (.bl true) S := by
      intro xs ws vs tu h1 h2 s1 s2 hl hy
      refine same_seen s1 s2 (h1.length.trans h2.length.symm) (by rw [h2.length]; exact hl) _ fun i a b ha hb => ?_
      obtain ⟨y, q1, q2⟩ := h1.get ha
      obtain ⟨z, q3, q4⟩ := h2.get hb
      rw [q1] at q3
      cases q3
      exact ih a b y q2 q4 (hy y (List.mem_of_getElem? q1)) j (by omega)
    cases x with
    | list xs =>
      obtain ⟨ws, k1, ek, g1, h1⟩ := toD_list e1
      obtain ⟨vs, k2, ek2, g2, h2⟩ := toD_list e2
      cases ek; cases ek2
      exact both h1 h2 (seen_getL S w ws g1) (seen_getL S v vs g2) hs.1 hs.2
    | tuple xs =>
      have inv : ∀ {u : W}, toD S (n + 1) u = some (.tuple xs) → ∃ us, u = .tup us ∧ Al (fun w x => toD S n w = some x) us xs := by
        intro u e
        cases u with
        | tup us => obtain ⟨ys, e', h⟩ := toD_tup.mp e; cases e'; exact ⟨us, rfl, h⟩
        | fl us => obtain ⟨ys, e', h⟩ := toD_fl.mp e; cases e'
        | ref q => obtain ⟨us, ys, _, e', h⟩ := toD_ref.mp e; cases e'
        | _ => cases e
      obtain ⟨ws, rfl, h1⟩ := inv e1
      obtain ⟨vs, rfl, h2⟩ := inv e2
      exact both h1 h2 (seen_tup S ws) (seen_tup S vs) hs.1 hs.2
    | none =>
      have inv : ∀ {u : W}, toD S (n + 1) u = some .none → u = .non := by
        intro u e
        cases u with
        | non => rfl
        | tup us => obtain ⟨ys, e', h⟩ := toD_tup.mp e; cases e'
        | fl us => obtain ⟨ys, e', h⟩ := toD_fl.mp e; cases e'
        | ref q => obtain ⟨us, ys, _, e', h⟩ := toD_ref.mp e; cases e'
        | _ => cases e
      rw [inv e1, inv e2]
      unfold bSame
      walk_at "ev"
    | bool b =>
      have inv : ∀ {u : W}, toD S (n + 1) u = some (.bool b) → u = .bl b := by
        intro u e
        cases u with
        | bl c => cases e; rfl
        | tup us => obtain ⟨ys, e', h⟩ := toD_tup.mp e; cases e'
        | fl us => obtain ⟨ys, e', h⟩ := toD_fl.mp e; cases e'
        | ref q => obtain ⟨us, ys, _, e', h⟩ := toD_ref.mp e; cases e'
        | _ => cases e
      rw [inv e1, inv e2]
      unfold bSame
      walk_at "ev"
    | int b =>
      have inv : ∀ {u : W}, toD S (n + 1) u = some (.int b) → u = .int b := by
        intro u e
        cases u with
        | int c => cases e; rfl
        | tup us => obtain ⟨ys, e', h⟩ := toD_tup.mp e; cases e'
        | fl us => obtain ⟨ys, e', h⟩ := toD_fl.mp e; cases e'
        | ref q => obtain ⟨us, ys, _, e', h⟩ := toD_ref.mp e; cases e'
        | _ => cases e
      rw [inv e1, inv e2]
      unfold bSame
      walk_at "ev"
    | str b =>
      have inv : ∀ {u : W}, toD S (n + 1) u = some (.str b) → u = .str b := by
        intro u e
        cases u with
        | str c => cases e; rfl
        | tup us => obtain ⟨ys, e', h⟩ := toD_tup.mp e; cases e'
        | fl us => obtain ⟨ys, e', h⟩ := toD_fl.mp e; cases e'
        | ref q => obtain ⟨us, ys, _, e', h⟩ := toD_ref.mp e; cases e'
        | _ => cases e
      rw [inv e1, inv e2]
      unfold bSame
      walk_at "ev"
    | dict b =>
      exfalso
      cases w with
      | tup us => obtain ⟨ys, e', h⟩ := toD_tup.mp e1; cases e'
      | fl us => obtain ⟨ys, e', h⟩ := toD_fl.mp e1; cases e'
      | ref q => obtain ⟨us, ys, _, e', h⟩ := toD_ref.mp e1; cases e'
      | _ => cases e1
/-- a list in view -/
theorem Vw.seen {S : Sto} {h : List Nat} {n : Nat} {w : W} {xs : List PyData} (a : Vw h S n w (.list xs)) : ∃ ws m, n = m + 1 ∧ Seen S false w ws ∧ Vws h S m ws xs ∧ getL S w = some ws := by
  cases n with
  | zero => cases a
  | succ n =>
    cases w with
    | fl ws => obtain ⟨ys, e1, q⟩ := toD_fl.mp a; cases e1; exact ⟨ws, n, rfl, seen_fl S ws, q, rfl⟩
    | ref k =>
      obtain ⟨ws, ys, m, e, hk, _, e1, q⟩ := a.ref_inv
      cases e1
      cases e
      exact ⟨ws, n, rfl, seen_ref S k ws hk, q, by unfold getL; simp only [hk]⟩
    | tup ws => obtain ⟨ys, e1, q⟩ := toD_tup.mp a; cases e1
    | _ => cases a
theorem same_vw {S : Sto} {n : Nat} {h h' : List Nat} {w v : W} {x : PyData} (h1 : Vw h S n w x) (h2 : Vw h' S n v x) (hs : smD n x) (k : Nat) (hk : n ≤ k := by omega) : mSame k [w, v] S = .ok (.bl true) S := same_ok n w v x h1.toD h2.toD hs k hk
theorem smD_ints {n : Nat} {is : List Int} (h : is.length < 4611686018427387904) : smD n (.list (is.map .int)) := by
  cases n with
  | zero => trivial
  | succ n =>
    refine ⟨by simpa using h, fun y hy => ?_⟩
    obtain ⟨i, _, rfl⟩ := List.mem_map.mp hy
    cases n <;> trivial
end Fr

namespace Lw_k16
open PySem PySem.Spec PyProof.Rows L2 Fr
def tab_FormroadsError : List (Str × Bool) := [((Str.ofString "InvalidNote"), true)]
def tab_InvalidNote : List (Str × Bool) := [((Str.ofString "InvalidNote"), true)]
def tab_Unreached : List (Str × Bool) := [((Str.ofString "InvalidNote"), false)]
def tab_ValueError : List (Str × Bool) := [((Str.ofString "InvalidNote"), true)]
def b_sizes_of : Stm :=
  (sRet (eLc (iE (eVar 0)) (gN 1) (tB (eOp gtM (eB lenM (aCons (eVar 1) aNil)) (eC (.int 1)))) (eB lenM (aCons (eVar 1) aNil)) [1]))
def m_sizes_of : Fn := fnM 2 b_sizes_of
def b_note_of : Stm :=
  (sSeq (sAsg 2 (eLst aNil))
  (sSeq (sFor (iZip (aCons (eVar 0) (aCons (eVar 1) aNil))) (gT 2 (gsCons (gN 3) (gsCons (gN 4) gsNil))) (sIf (tB (eOp gtM (eB lenM (aCons (eVar 3) aNil)) (eC (.int 1)))) (sExpr (eM "list" appendM (eVar 2) (aCons (eM "list" indexLM (eVar 3) (aCons (eVar 4) aNil)) aNil))) sNil))
  (sRet (eVar 2))))
def m_note_of : Fn := fnM 5 b_note_of
def b_check_note : Stm :=
  (sSeq (sIf (tB (eOp neM (eB lenM (aCons (eVar 1) aNil)) (eB lenM (aCons (eVar 0) aNil)))) (sRaise (Str.ofString "InvalidNote")) sNil)
  (sFor (iZip (aCons (eVar 0) (aCons (eVar 1) aNil))) (gT 2 (gsCons (gN 2) (gsCons (gN 3) gsNil))) (sIf (tNot (tB (eChain leM ltG (eC (.int 0)) (eVar 3) (eVar 2)))) (sRaise (Str.ofString "InvalidNote")) sNil)))
def m_check_note : Fn := fnM 4 b_check_note
def b_chosen_by : Stm :=
  (sSeq (sExpr (eCall m_check_note (aCons (eCall m_sizes_of (aCons (eVar 0) aNil)) (aCons (eVar 1) aNil))))
  (sSeq (sAsg 2 (eB listM (aCons (eVar 1) aNil)))
  (sSeq (sAsg 3 (eLst aNil))
  (sSeq (sFor (iE (eVar 0)) (gN 4) (sIf (tB (eOp gtM (eB lenM (aCons (eVar 4) aNil)) (eC (.int 1)))) (sExpr (eM "list" appendM (eVar 3) (aCons (eOp ixM (eVar 4) (eM "list" popAtM (eVar 2) (aCons (eC (.int 0)) aNil))) aNil))) (sExpr (eM "list" appendM (eVar 3) (aCons (eOp ixM (eVar 4) (eC (.int 0))) aNil)))))
  (sRet (eVar 3))))))
def m_chosen_by : Fn := fnM 5 b_chosen_by
def b_product_of : Stm :=
  (sSeq (sAsg 1 (eC (.int 1)))
  (sSeq (sFor (iE (eVar 0)) (gN 2) (sAsg 1 (eOp mulM (eVar 1) (eVar 2))))
  (sRet (eVar 1))))
def m_product_of : Fn := fnM 3 b_product_of
def b_note_number : Stm :=
  (sSeq (sExpr (eCall m_check_note (aCons (eVar 0) (aCons (eVar 1) aNil))))
  (sSeq (sAsg 2 (eC (.int 0)))
  (sSeq (sFor (iZip (aCons (eVar 0) (aCons (eVar 1) aNil))) (gT 2 (gsCons (gN 3) (gsCons (gN 4) gsNil))) (sAsg 2 (eOp addM (eOp mulM (eVar 2) (eVar 3)) (eVar 4))))
  (sRet (eVar 2)))))
def m_note_number : Fn := fnM 5 b_note_number
def b_numbered_note : Stm :=
  (sSeq (sIf (tNot (tB (eChain leM ltG (eC (.int 0)) (eVar 1) (eCall m_product_of (aCons (eVar 0) aNil))))) (sRaise (Str.ofString "InvalidNote")) sNil)
  (sSeq (sAsg 2 (eLst aNil))
  (sSeq (sFor (iRev (eB listM (aCons (eVar 0) aNil))) (gN 3) (sSeq (sAsgT (gT 2 (gsCons (gN 1) (gsCons (gN 4) gsNil))) (eB divmodM (aCons (eVar 1) (aCons (eVar 3) aNil))))
  (sExpr (eM "list" appendM (eVar 2) (aCons (eVar 4) aNil)))))
  (sSeq (sExpr (eM "list" reverseM (eVar 2) aNil))
  (sRet (eVar 2))))))
def m_numbered_note : Fn := fnM 5 b_numbered_note
def b__law_draws : Stm :=
  (sSeq (sAsg 1 (eLst aNil))
  (sSeq (sFor (iE (eVar 0)) (gN 2) (sSeq (sAsg 3 (eB intM (aCons (eVar 2) aNil)))
  (sIf (tB (eChain leM ltG (eC (.int 0)) (eVar 3) (eC (.int 1000)))) (sExpr (eM "list" appendM (eVar 1) (aCons (eVar 3) aNil))) (sIf (tB (eOp geM (eVar 3) (eOp powM (eC (.int 10)) (eC (.int 18))))) (sFor (iR1 (aCons (eC (.int 60)) aNil)) (gN 4) (sIf (tB (eOp gtM (eVar 3) (eC (.int 0)))) (sSeq (sExpr (eM "list" appendM (eVar 1) (aCons (eOp modM (eB intM (aCons (eVar 3) aNil)) (eC (.int 1000))) aNil)))
  (sAsg 3 (eOp fdivM (eVar 3) (eC (.int 1000))))) sNil)) (sSeq (sAsg 3 (eOp modM (eB intM (aCons (eOp mulM (eVar 3) (eC (.int 48271))) aNil)) (eC (.int 2147483647))))
  (sFor (iR1 (aCons (eC (.int 4)) aNil)) (gN 4) (sSeq (sAsg 3 (eOp modM (eB intM (aCons (eOp mulM (eVar 3) (eC (.int 69621))) aNil)) (eC (.int 2147483629))))
  (sExpr (eM "list" appendM (eVar 1) (aCons (eOp modM (eB intM (aCons (eOp fdivM (eVar 3) (eC (.int 7))) aNil)) (eC (.int 1000))) aNil))))))))))
  (sSeq (sExpr (eM "list" reverseM (eVar 1) aNil))
  (sRet (eVar 1)))))
def m__law_draws : Fn := fnM 5 b__law_draws
def b__law_draw : Stm :=
  (sSeq (sIf (tB (eOp eqM (eB lenM (aCons (eVar 0) aNil)) (eC (.int 0)))) (sRet (eC (.int 0))) sNil)
  (sRet (eOp modM (eB intM (aCons (eM "list" popM (eVar 0) aNil) aNil)) (eVar 1))))
def m__law_draw : Fn := fnM 2 b__law_draw
def b__law_pick : Stm :=
  (sRet (eOp ixM (eVar 1) (eCall m__law_draw (aCons (eVar 0) (aCons (eB lenM (aCons (eVar 1) aNil)) aNil)))))
def m__law_pick : Fn := fnM 2 b__law_pick
def b__law_same (j : Nat) (rec : Fn) : Stm :=
  (sSeq (sIf (tOr (tB (eB isiM (aCons (eVar 1) (aCons (eC (.ty "bool")) aNil)))) (tB (eB isiM (aCons (eVar 0) (aCons (eC (.ty "bool")) aNil))))) (sRet (eAnd (eB isiM (aCons (eVar 1) (aCons (eC (.ty "bool")) aNil))) (eAnd (eB isiM (aCons (eVar 0) (aCons (eC (.ty "bool")) aNil))) (eOp eqM (eVar 0) (eVar 1))))) sNil)
  (sSeq (sIf (tOr (tB (eOp isM (eVar 1) (eC .non))) (tB (eOp isM (eVar 0) (eC .non)))) (sRet (eAnd (eOp isM (eVar 1) (eC .non)) (eOp isM (eVar 0) (eC .non)))) sNil)
  (sSeq (sIf (tB (eB isiM (aCons (eVar 1) (aCons (eC (.ty "int")) aNil)))) (sRet (eAnd (eB isiM (aCons (eVar 0) (aCons (eC (.ty "int")) aNil))) (eOp eqM (eVar 0) (eVar 1)))) sNil)
  (sSeq (sIf (tB (eB isiM (aCons (eVar 1) (aCons (eC (.ty "str")) aNil)))) (sRet (eAnd (eB isiM (aCons (eVar 0) (aCons (eC (.ty "str")) aNil))) (eOp eqM (eVar 0) (eVar 1)))) sNil)
  (sSeq (sIf (tAnd (tB (eB isiM (aCons (eVar 1) (aCons (eC (.ty "tuple")) aNil)))) (tNot (tB (eB isiM (aCons (eVar 0) (aCons (eC (.ty "tuple")) aNil)))))) (sRet (eC (.bl false))) sNil)
  (sSeq (sIf (tAnd (tB (eB isiM (aCons (eVar 1) (aCons (eC (.ty "list")) aNil)))) (tNot (tB (eB isiM (aCons (eVar 0) (aCons (eC (.ty "list")) aNil)))))) (sRet (eC (.bl false))) sNil)
  (sSeq (sIf (tB (eOp neM (eB lenM (aCons (eVar 0) aNil)) (eB lenM (aCons (eVar 1) aNil)))) (sRet (eC (.bl false))) sNil)
  (sSeq (sFor (iR1 (aCons (eB lenM (aCons (eVar 1) aNil)) aNil)) (gN 2) (sIf (tNot (tB (eCall rec (aCons (eOp ixM (eVar 0) (eVar 2)) (aCons (eOp ixM (eVar 1) (eVar 2)) aNil))))) (sRet (eC (.bl false))) sNil))
  (sRet (eC (.bl true)))))))))))
def m__law_same : Nat → Fn
  | 0 => fun _ => bad
  | j + 1 => fnM 3 (b__law_same j (m__law_same j))
def b__law_list : Stm :=
  (sSeq (sAsg 1 (eCall m__law_pick (aCons (eVar 0) (aCons (eLst (aCons (eC (.int 2)) (aCons (eC (.int 1)) (aCons (eC (.int 3)) (aCons (eC (.int 4)) (aCons (eC (.int 5)) aNil)))))) aNil))))
  (sSeq (sAsg 2 (eCall m__law_draw (aCons (eVar 0) (aCons (eC (.int 100)) aNil))))
  (sSeq (sAsg 3 (eOp addM (eC (.int 1)) (eCall m__law_draw (aCons (eVar 0) (aCons (eC (.int 9)) aNil)))))
  (sSeq (sAsg 4 (eCall m__law_draw (aCons (eVar 0) (aCons (eC (.int 4)) aNil))))
  (sSeq (sAsg 5 (eLc (iR1 (aCons (eVar 1) aNil)) (gN 6) tYs (eOp addM (eVar 2) (eOp mulM (eVar 3) (eVar 6))) [6]))
  (sSeq (sIf (tB (eOp eqM (eVar 4) (eC (.int 1)))) (sExpr (eM "list" reverseM (eVar 5) aNil)) sNil)
  (sSeq (sIf (tB (eOp eqM (eVar 4) (eC (.int 2)))) (sAsg 5 (eLc (iE (eVar 5)) (gN 7) tYs (eTup (aCons (eC (.str (Str.ofString "a"))) (aCons (eVar 7) aNil))) [7])) sNil)
  (sSeq (sIf (tB (eOp eqM (eVar 4) (eC (.int 3)))) (sAsg 5 (eLc (iE (eVar 5)) (gN 7) tYs (eB strM (aCons (eVar 7) aNil)) [7])) sNil)
  (sRet (eVar 5))))))))))
def m__law_list : Fn := fnM 8 b__law_list
def b__law_near : Stm :=
  (sSeq (sAsg 3 (eB listM (aCons (eVar 2) aNil)))
  (sSeq (sAsg 4 (eCall m__law_draw (aCons (eVar 0) (aCons (eC (.int 5)) aNil))))
  (sSeq (sAsg 5 (eCall m__law_draw (aCons (eVar 0) (aCons (eOp addM (eB lenM (aCons (eVar 3) aNil)) (eC (.int 1))) aNil))))
  (sSeq (sIf (tB (eOp eqM (eVar 4) (eC (.int 0)))) (sExpr (eM "list" insertM (eVar 3) (aCons (eVar 5) (aCons (eC (.int 0)) aNil)))) (sIf (tB (eOp ltG (eVar 5) (eB lenM (aCons (eVar 3) aNil)))) (sIf (tB (eOp eqM (eVar 4) (eC (.int 1)))) (sExpr (eM "list" popAtM (eVar 3) (aCons (eVar 5) aNil))) (sIf (tB (eOp eqM (eVar 4) (eC (.int 2)))) (sSetIx (eVar 3) (eVar 5) (eOp subM (eUn negM (eC (.int 1))) (eCall m__law_draw (aCons (eVar 0) (aCons (eC (.int 2)) aNil))))) (sIf (tB (eOp eqM (eVar 4) (eC (.int 3)))) (sSetIx (eVar 3) (eVar 5) (eOp addM (eOp ixM (eVar 1) (eVar 5)) (eCall m__law_draw (aCons (eVar 0) (aCons (eC (.int 2)) aNil))))) (sSetIx (eVar 3) (eVar 5) (eOp subM (eOp ixM (eVar 1) (eVar 5)) (eC (.int 1))))))) sNil))
  (sRet (eVar 3))))))
def m__law_near : Fn := fnM 6 b__law_near
def b__law_digits : Stm :=
  (sSeq (sIf (tOr (tNot (tB (eB isiM (aCons (eVar 1) (aCons (eC (.ty "list")) aNil))))) (tB (eOp neM (eB lenM (aCons (eVar 1) aNil)) (eB lenM (aCons (eVar 0) aNil))))) (sRet (eC (.bl false))) sNil)
  (sSeq (sFor (iR1 (aCons (eB lenM (aCons (eVar 0) aNil)) aNil)) (gN 2) (sSeq (sIf (tOr (tNot (tB (eB isiM (aCons (eOp ixM (eVar 1) (eVar 2)) (aCons (eC (.ty "int")) aNil))))) (tB (eB isiM (aCons (eOp ixM (eVar 1) (eVar 2)) (aCons (eC (.ty "bool")) aNil))))) (sRet (eC (.bl false))) sNil)
  (sIf (tOr (tB (eOp ltG (eOp ixM (eVar 1) (eVar 2)) (eC (.int 0)))) (tB (eOp geM (eOp ixM (eVar 1) (eVar 2)) (eOp ixM (eVar 0) (eVar 2))))) (sRet (eC (.bl false))) sNil)))
  (sRet (eC (.bl true)))))
def m__law_digits : Fn := fnM 3 b__law_digits
def b__law_number : Stm :=
  (sSeq (sAsg 2 (eC (.int 0)))
  (sSeq (sFor (iR1 (aCons (eB lenM (aCons (eVar 0) aNil)) aNil)) (gN 3) (sAsg 2 (eOp addM (eOp mulM (eVar 2) (eOp ixM (eVar 0) (eVar 3))) (eOp ixM (eVar 1) (eVar 3)))))
  (sRet (eVar 2))))
def m__law_number : Fn := fnM 4 b__law_number
def b__law_chosen_refused : Stm :=
  (sSeq (sTryAs 2 (sExpr (eCall m_chosen_by (aCons (eVar 0) (aCons (eVar 1) aNil)))) tab_FormroadsError (fun c dd => onNone dd (sRet (eAnd (eIsX tab_InvalidNote c) (eAnd (eIsX tab_ValueError c) (eNot (eIsX tab_Unreached c)))))))
  (sRet (eC (.bl false))))
def m__law_chosen_refused : Fn := fnM 3 b__law_chosen_refused
def b__law_number_refused : Stm :=
  (sSeq (sTry (sExpr (eCall m_note_number (aCons (eVar 0) (aCons (eVar 1) aNil)))) tab_InvalidNote (fun c _ => (sRet (eC (.bl true)))))
  (sRet (eC (.bl false))))
def m__law_number_refused : Fn := fnM 2 b__law_number_refused
def b__law_numbered_refused : Stm :=
  (sSeq (sTry (sExpr (eCall m_numbered_note (aCons (eVar 0) (aCons (eVar 1) aNil)))) tab_InvalidNote (fun c _ => (sRet (eC (.bl true)))))
  (sRet (eC (.bl false))))
def m__law_numbered_refused : Fn := fnM 2 b__law_numbered_refused
def b__law_numbers_asked : Stm :=
  (sSeq (sAsg 2 (eC (.int 1)))
  (sSeq (sFor (iE (eVar 1)) (gN 3) (sAsg 2 (eOp mulM (eVar 2) (eVar 3))))
  (sSeq (sAsg 4 (eC (.int 0)))
  (sSeq (sFor (iR1 (aCons (eC (.int 7)) aNil)) (gN 5) (sAsg 4 (eOp addM (eOp mulM (eVar 4) (eC (.int 1000))) (eCall m__law_draw (aCons (eVar 0) (aCons (eC (.int 1000)) aNil))))))
  (sSeq (sAsg 4 (eOp modM (eB intM (aCons (eVar 4) aNil)) (eVar 2)))
  (sSeq (sAsg 6 (eCall m_numbered_note (aCons (eVar 1) (aCons (eVar 4) aNil))))
  (sSeq (sIf (tOr (tNot (tB (eCall m__law_digits (aCons (eVar 1) (aCons (eVar 6) aNil))))) (tB (eOp neM (eCall m__law_number (aCons (eVar 1) (aCons (eVar 6) aNil))) (eVar 4)))) (sRet (eC (.bl false))) sNil)
  (sSeq (sIf (tNot (tB (eCall (m__law_same 4) (aCons (eCall m_note_number (aCons (eVar 1) (aCons (eB listM (aCons (eVar 6) aNil)) aNil))) (aCons (eVar 4) aNil))))) (sRet (eC (.bl false))) sNil)
  (sSeq (sIf (tB (eOp ltG (eOp addM (eVar 4) (eC (.int 1))) (eVar 2))) (sSeq (sAsg 11 (eCall m_numbered_note (aCons (eVar 1) (aCons (eOp addM (eVar 4) (eC (.int 1))) aNil))))
  (sIf (tOr (tNot (tB (eCall m__law_digits (aCons (eVar 1) (aCons (eVar 11) aNil))))) (tNot (tB (eOp ltG (eVar 6) (eVar 11))))) (sRet (eC (.bl false))) sNil)) sNil)
  (sSeq (sAsg 7 (eLc (iE (eVar 1)) (gN 3) tYs (eCall m__law_draw (aCons (eVar 0) (aCons (eVar 3) aNil))) [3]))
  (sSeq (sAsg 8 (eCall m_note_number (aCons (eVar 1) (aCons (eB listM (aCons (eVar 7) aNil)) aNil))))
  (sSeq (sIf (tOr (tNot (tB (eCall (m__law_same 4) (aCons (eVar 8) (aCons (eCall m__law_number (aCons (eVar 1) (aCons (eVar 7) aNil))) aNil))))) (tB (eOp neM (eOp ltG (eVar 7) (eVar 6)) (eOp ltG (eVar 8) (eVar 4))))) (sRet (eC (.bl false))) sNil)
  (sSeq (sAsg 9 (eCall m__law_near (aCons (eVar 0) (aCons (eVar 1) (aCons (eVar 7) aNil)))))
  (sSeq (sIf (tNot (tB (eCall m__law_digits (aCons (eVar 1) (aCons (eVar 9) aNil))))) (sIf (tNot (tB (eCall m__law_number_refused (aCons (eVar 1) (aCons (eB listM (aCons (eVar 9) aNil)) aNil))))) (sRet (eC (.bl false))) sNil) (sIf (tNot (tB (eCall (m__law_same 4) (aCons (eCall m_numbered_note (aCons (eVar 1) (aCons (eCall m_note_number (aCons (eVar 1) (aCons (eB listM (aCons (eVar 9) aNil)) aNil))) aNil))) (aCons (eVar 9) aNil))))) (sRet (eC (.bl false))) sNil))
  (sSeq (sFor (iE (eLst (aCons (eVar 2) (aCons (eOp addM (eVar 2) (eVar 4)) (aCons (eUn negM (eC (.int 1))) (aCons (eOp subM (eUn negM (eC (.int 1))) (eVar 4)) aNil)))))) (gN 10) (sIf (tNot (tB (eCall m__law_numbered_refused (aCons (eVar 1) (aCons (eVar 10) aNil))))) (sRet (eC (.bl false))) sNil))
  (sSeq (sIf (tNot (tB (eCall (m__law_same 4) (aCons (eCall m_numbered_note (aCons (eVar 1) (aCons (eC (.int 0)) aNil))) (aCons (eLc (iE (eVar 1)) (gN 3) tYs (eC (.int 0)) [3]) aNil))))) (sRet (eC (.bl false))) sNil)
  (sRet (eCall (m__law_same 4) (aCons (eCall m_numbered_note (aCons (eVar 1) (aCons (eOp subM (eVar 2) (eC (.int 1))) aNil))) (aCons (eLc (iE (eVar 1)) (gN 3) tYs (eOp subM (eVar 3) (eC (.int 1))) [3]) aNil))))))))))))))))))))
def m__law_numbers_asked : Fn := fnM 12 b__law_numbers_asked
def b_law : Stm :=
  (sSeq (sAsg 1 (eCall m__law_draws (aCons (eVar 0) aNil)))
  (sSeq (sAsg 2 (eLc (iR1 (aCons (eCall m__law_pick (aCons (eVar 1) (aCons (eLst (aCons (eC (.int 2)) (aCons (eC (.int 0)) (aCons (eC (.int 1)) (aCons (eC (.int 3)) (aCons (eC (.int 4)) (aCons (eC (.int 5)) (aCons (eC (.int 6)) aNil)))))))) aNil))) aNil)) (gN 13) tYs (eCall m__law_list (aCons (eVar 1) aNil)) [13]))
  (sSeq (sAsg 3 (eLc (iE (eVar 2)) (gN 8) tYs (eCall m__law_draw (aCons (eVar 1) (aCons (eB lenM (aCons (eVar 8) aNil)) aNil))) [8]))
  (sSeq (sAsg 4 (eLc (iR1 (aCons (eB lenM (aCons (eVar 2) aNil)) aNil)) (gN 13) tYs (eOp ixM (eOp ixM (eVar 2) (eVar 13)) (eOp ixM (eVar 3) (eVar 13))) [13]))
  (sSeq (sAsg 5 (eLc (iE (eVar 2)) (gN 8) (tB (eOp gtM (eB lenM (aCons (eVar 8) aNil)) (eC (.int 1)))) (eB lenM (aCons (eVar 8) aNil)) [8]))
  (sSeq (sAsg 6 (eLc (iR1 (aCons (eB lenM (aCons (eVar 2) aNil)) aNil)) (gN 13) (tB (eOp gtM (eB lenM (aCons (eOp ixM (eVar 2) (eVar 13)) aNil)) (eC (.int 1)))) (eOp ixM (eVar 3) (eVar 13)) [13]))
  (sSeq (sAsg 7 (eLc (iE (eVar 2)) (gN 8) tYs (eB listM (aCons (eVar 8) aNil)) [8]))
  (sSeq (sAsg 8 (eB listM (aCons (eVar 4) aNil)))
  (sSeq (sAsg 9 (eB listM (aCons (eVar 6) aNil)))
  (sSeq (sFor (iR1 (aCons (eC (.int 2)) aNil)) (gN 10) (sSeq (sAsg 15 (eCall m_sizes_of (aCons (eVar 7) aNil)))
  (sSeq (sAsg 16 (eCall m_note_of (aCons (eVar 7) (aCons (eVar 8) aNil))))
  (sSeq (sAsg 17 (eCall m_chosen_by (aCons (eVar 7) (aCons (eVar 9) aNil))))
  (sSeq (sIf (tOr (tNot (tB (eCall (m__law_same 4) (aCons (eVar 15) (aCons (eVar 5) aNil))))) (tOr (tNot (tB (eCall (m__law_same 4) (aCons (eVar 16) (aCons (eVar 6) aNil))))) (tNot (tB (eCall (m__law_same 4) (aCons (eVar 17) (aCons (eVar 4) aNil))))))) (sRet (eC (.bl false))) sNil)
  (sSeq (sExpr (eM "list" appendM (eVar 15) (aCons (eC (.int 2)) aNil)))
  (sSeq (sExpr (eM "list" appendM (eVar 16) (aCons (eC (.int 0)) aNil)))
  (sExpr (eM "list" appendM (eVar 17) (aCons (eC (.int 0)) aNil))))))))))
  (sSeq (sAsg 11 (eCall m__law_near (aCons (eVar 1) (aCons (eVar 5) (aCons (eVar 6) aNil)))))
  (sSeq (sIf (tNot (tB (eCall m__law_digits (aCons (eVar 5) (aCons (eVar 11) aNil))))) (sIf (tNot (tB (eCall m__law_chosen_refused (aCons (eVar 7) (aCons (eB listM (aCons (eVar 11) aNil)) aNil))))) (sRet (eC (.bl false))) sNil) (sIf (tNot (tB (eCall (m__law_same 4) (aCons (eCall m_note_of (aCons (eVar 7) (aCons (eCall m_chosen_by (aCons (eVar 7) (aCons (eB listM (aCons (eVar 11) aNil)) aNil))) aNil))) (aCons (eVar 11) aNil))))) (sRet (eC (.bl false))) sNil))
  (sSeq (sFor (iR1 (aCons (eC (.int 2)) aNil)) (gN 10) (sSeq (sAsg 15 (eCall m_numbered_note (aCons (eB listM (aCons (eVar 5) aNil)) (aCons (eCall m__law_number (aCons (eVar 5) (aCons (eVar 6) aNil))) aNil))))
  (sSeq (sIf (tNot (tB (eCall (m__law_same 4) (aCons (eVar 15) (aCons (eVar 6) aNil))))) (sRet (eC (.bl false))) sNil)
  (sExpr (eM "list" appendM (eVar 15) (aCons (eC (.int 0)) aNil))))))
  (sSeq (sAsg 12 (eLst aNil))
  (sSeq (sFor (iR1 (aCons (eCall m__law_pick (aCons (eVar 1) (aCons (eLst (aCons (eC (.int 3)) (aCons (eC (.int 0)) (aCons (eC (.int 1)) (aCons (eC (.int 2)) (aCons (eC (.int 4)) (aCons (eC (.int 5)) (aCons (eC (.int 6)) aNil)))))))) aNil))) aNil)) (gN 13) (sExpr (eM "list" appendM (eVar 12) (aCons (eOp addM (eC (.int 1)) (eCall m__law_draw (aCons (eVar 1) (aCons (eCall m__law_pick (aCons (eVar 1) (aCons (eLst (aCons (eC (.int 4)) (aCons (eC (.int 1000)) (aCons (eC (.int 1)) aNil)))) aNil))) aNil)))) aNil))))
  (sSeq (sAsg 14 (eB listM (aCons (eVar 12) aNil)))
  (sSeq (sIf (tOr (tNot (tB (eCall m__law_numbers_asked (aCons (eVar 1) (aCons (eVar 5) aNil))))) (tNot (tB (eCall m__law_numbers_asked (aCons (eVar 1) (aCons (eVar 14) aNil)))))) (sRet (eC (.bl false))) sNil)
  (sSeq (sIf (tOr (tNot (tB (eCall (m__law_same 4) (aCons (eVar 14) (aCons (eVar 12) aNil))))) (tNot (tB (eCall (m__law_same 4) (aCons (eVar 7) (aCons (eVar 2) aNil)))))) (sRet (eC (.bl false))) sNil)
  (sRet (eAnd (eCall (m__law_same 4) (aCons (eVar 8) (aCons (eVar 4) aNil))) (eCall (m__law_same 4) (aCons (eVar 9) (aCons (eVar 6) aNil)))))))))))))))))))))))
def m_law : Fn := fnM 18 b_law
end Lw_k16

namespace Lw_k16
open PySem Fr
/-! ### the plain law: notes as numbers -/
def okN : List Int → List Int → Bool
  | [], [] => true
  | s :: ss, n :: ns => decide (0 ≤ n ∧ n < s) && okN ss ns
  | _, _ => false
def prodL : List Int → Int
  | [] => 1
  | s :: ss => s * prodL ss
def val : List Int → List Int → Int
  | s :: ss, d :: ds => d * prodL ss + val ss ds
  | _, _ => 0
theorem okN_len : ∀ {ss ns : List Int}, okN ss ns = true → ss.length = ns.length
  | [], [], _ => rfl
  | s :: ss, n :: ns, h => by
    unfold okN at h
    simp only [Bool.and_eq_true] at h
    simp [okN_len h.2]
  | [], _ :: _, h => by cases h
  | _ :: _, [], h => by cases h
theorem prodL_pos : ∀ {ss : List Int}, (∀ s ∈ ss, 1 ≤ s) → 1 ≤ prodL ss
  | [], _ => by unfold prodL; omega
  | s :: ss, h => by
    unfold prodL
    have h1 := h s (by simp)
    have h2 := prodL_pos fun t ht => h t (List.mem_cons_of_mem _ ht)
    have : 1 * 1 ≤ s * prodL ss := Int.mul_le_mul h1 h2 (by omega) (by omega)
    omega
theorem step_lt {d s P v : Int} (h1 : 0 ≤ d) (h2 : d < s) (h3 : 0 ≤ v) (h4 : v < P) : 0 ≤ d * P + v ∧ d * P + v < s * P := by
  have hP : 0 < P := by omega
  have e1 : 0 ≤ d * P := Int.mul_nonneg h1 (by omega)
  have e2 : (d + 1) * P ≤ s * P := Int.mul_le_mul_of_nonneg_right (by omega) (by omega)
  rw [Int.add_mul, Int.one_mul] at e2
  omega
theorem val_lt : ∀ {ss ns : List Int}, okN ss ns = true → 0 ≤ val ss ns ∧ val ss ns < prodL ss
  | [], [], _ => by unfold val prodL; omega
  | s :: ss, n :: ns, h => by
    unfold okN at h
    simp only [Bool.and_eq_true, decide_eq_true_eq] at h
    obtain ⟨h1, h2⟩ := val_lt h.2
    show 0 ≤ n * prodL ss + val ss ns ∧ n * prodL ss + val ss ns < s * prodL ss
    exact step_lt h.1.1 h.1.2 h1 h2
  | [], _ :: _, h => by cases h
  | _ :: _, [], h => by cases h
theorem lt_of_head {d e P v w : Int} (h : d < e) (h1 : v < P) (h2 : 0 ≤ w) (hP : 0 ≤ P) : d * P + v < e * P + w := by
  have e2 : (d + 1) * P ≤ e * P := Int.mul_le_mul_of_nonneg_right (by omega) hP
  rw [Int.add_mul, Int.one_mul] at e2
  omega
/-- the order of notes is that of their numbers -/
def lexI : List Int → List Int → Bool
  | a :: as, b :: bs => if a = b then lexI as bs else decide (a < b)
  | [], _ :: _ => true
  | _, [] => false
theorem val_lex : ∀ {ss as bs : List Int}, okN ss as = true → okN ss bs = true → (lexI as bs = decide (val ss as < val ss bs))
  | [], [], [], _, _ => by simp [lexI, val]
  | s :: ss, a :: as, b :: bs, h, h' => by
    unfold okN at h h'
    simp only [Bool.and_eq_true, decide_eq_true_eq] at h h'
    obtain ⟨h1, h2⟩ := val_lt h.2
    obtain ⟨h3, h4⟩ := val_lt h'.2
    have ih := val_lex h.2 h'.2
    unfold lexI val
    by_cases e : a = b
    · subst e
      rw [if_pos rfl, ih]
      congr 1
      simp
    · rw [if_neg e]
      by_cases g : a < b
      · rw [decide_eq_true g, decide_eq_true (lt_of_head g h2 h3 (by omega))]
      · have g' : b < a := by omega
        have := lt_of_head g' h4 h1 (by omega : (0 : Int) ≤ prodL ss)
        rw [decide_eq_false g, decide_eq_false (by omega)]
  | [], _ :: _, _, h, _ => by cases h
  | [], [], _ :: _, _, h => by cases h
  | _ :: _, [], _, h, _ => by cases h
  | _ :: _, _ :: _, [], _, h => by cases h
theorem val_inj : ∀ {ss as bs : List Int}, okN ss as = true → okN ss bs = true → val ss as = val ss bs → as = bs
  | [], [], [], _, _, _ => rfl
  | s :: ss, a :: as, b :: bs, h, h', e => by
    unfold okN at h h'
    simp only [Bool.and_eq_true, decide_eq_true_eq] at h h'
    obtain ⟨h1, h2⟩ := val_lt h.2
    obtain ⟨h3, h4⟩ := val_lt h'.2
    unfold val at e
    have eab : a = b := by
      by_cases g : a < b
      · have := lt_of_head g h2 h3 (by omega : (0 : Int) ≤ prodL ss); omega
      · by_cases g' : b < a
        · have := lt_of_head g' h4 h1 (by omega : (0 : Int) ≤ prodL ss); omega
        · omega
    subst eab
    rw [val_inj h.2 h'.2 (by omega)]
  | [], _ :: _, _, h, _, _ => by cases h
  | [], [], _ :: _, _, h, _ => by cases h
  | _ :: _, [], _, h, _, _ => by cases h
  | _ :: _, _ :: _, [], _, h, _ => by cases h
/-! from the right -/
theorem prodL_snoc : ∀ (ss : List Int) (s : Int), prodL (ss ++ [s]) = prodL ss * s
  | [], s => by simp [prodL]
  | t :: ss, s => by simp only [List.cons_append, prodL, prodL_snoc ss s, Int.mul_assoc]
theorem val_snoc : ∀ {ss ns : List Int} (s d : Int), ss.length = ns.length → val (ss ++ [s]) (ns ++ [d]) = val ss ns * s + d
  | [], [], s, d, _ => by simp [val, prodL]
  | t :: ss, n :: ns, s, d, h => by
    simp only [List.cons_append, val, val_snoc (ss := ss) (ns := ns) s d (by simpa using h), prodL_snoc]
    rw [Int.add_mul, Int.mul_assoc, Int.add_assoc]
  | [], _ :: _, _, _, h => by simp at h
  | _ :: _, [], _, _, h => by simp at h
theorem okN_snoc : ∀ {ss ns : List Int} (s d : Int), ss.length = ns.length → okN (ss ++ [s]) (ns ++ [d]) = (okN ss ns && decide (0 ≤ d ∧ d < s))
  | [], [], s, d, _ => by simp [okN]
  | t :: ss, n :: ns, s, d, h => by
    simp only [List.cons_append, okN, okN_snoc (ss := ss) (ns := ns) s d (by simpa using h), Bool.and_assoc]
  | [], _ :: _, _, _, h => by simp at h
  | _ :: _, [], _, _, h => by simp at h
/-- the digits, the last one first -/
def digR : List Int → Int → List Int
  | [], _ => []
  | s :: r, n => n % s :: digR r (n / s)
theorem digR_len : ∀ (r : List Int) (n : Int), (digR r n).length = r.length
  | [], _ => rfl
  | s :: r, n => by simp [digR, digR_len r]
theorem digR_ok : ∀ (r : List Int) (n : Int), (∀ s ∈ r, 1 ≤ s) → 0 ≤ n → n < prodL r.reverse → okN r.reverse (digR r n).reverse = true ∧ val r.reverse (digR r n).reverse = n
  | [], n, _, h1, h2 => by simp [prodL] at h2; simp [okN, val, digR]; omega
  | s :: r, n, h, h1, h2 => by
    have hs := h s (by simp)
    rw [List.reverse_cons, prodL_snoc] at h2
    have hq : n / s < prodL r.reverse := Int.ediv_lt_of_lt_mul (by omega) h2
    obtain ⟨e1, e2⟩ := digR_ok r (n / s) (fun t ht => h t (List.mem_cons_of_mem _ ht)) (Int.ediv_nonneg h1 (by omega)) hq
    have hl : r.reverse.length = (digR r (n / s)).reverse.length := by simp [digR_len]
    unfold digR
    rw [List.reverse_cons, List.reverse_cons, okN_snoc _ _ hl, val_snoc _ _ hl, e1, e2]
    have m1 := Int.emod_nonneg n (by omega : s ≠ 0)
    have m2 := Int.emod_lt_of_pos n (by omega : 0 < s)
    refine ⟨by simp [m1, m2], ?_⟩
    have := Int.mul_ediv_add_emod n s
    rw [Int.mul_comm]
    exact this
def digs (ss : List Int) (n : Int) : List Int := (digR ss.reverse n).reverse
theorem digs_ok {ss : List Int} {n : Int} (h : ∀ s ∈ ss, 1 ≤ s) (h1 : 0 ≤ n) (h2 : n < prodL ss) : okN ss (digs ss n) = true ∧ val ss (digs ss n) = n := by
  have := digR_ok ss.reverse n (fun s hs => h s (by simpa using hs)) h1 (by simpa using h2)
  simpa [digs] using this
theorem digs_val {ss ns : List Int} (h : ∀ s ∈ ss, 1 ≤ s) (h1 : okN ss ns = true) : digs ss (val ss ns) = ns := by
  obtain ⟨a, b⟩ := val_lt h1
  obtain ⟨c, e⟩ := digs_ok h a b
  exact val_inj c h1 e
theorem zeros_ok : ∀ {ss : List Int}, (∀ s ∈ ss, 1 ≤ s) → okN ss (ss.map fun _ => 0) = true ∧ val ss (ss.map fun _ => 0) = 0
  | [], _ => by simp [okN, val]
  | s :: ss, h => by
    have h1 := h s (by simp)
    obtain ⟨a, b⟩ := zeros_ok fun t ht => h t (List.mem_cons_of_mem _ ht)
    simp only [List.map_cons, okN, val, a, b]
    constructor
    · simp; omega
    · simp
theorem tops_ok : ∀ {ss : List Int}, (∀ s ∈ ss, 1 ≤ s) → okN ss (ss.map fun s => s - 1) = true ∧ val ss (ss.map fun s => s - 1) = prodL ss - 1
  | [], _ => by simp [okN, val, prodL]
  | s :: ss, h => by
    have h1 := h s (by simp)
    obtain ⟨a, b⟩ := tops_ok fun t ht => h t (List.mem_cons_of_mem _ ht)
    simp only [List.map_cons, okN, val, prodL, a, b]
    constructor
    · simp; omega
    · rw [Int.sub_mul, Int.one_mul]; omega
/-- as the loops reckon: the product, the number -/
theorem prod_fold : ∀ (ss : List Int) (p : Int), ss.foldl (fun a s => a * s) p = p * prodL ss
  | [], p => by simp [prodL]
  | s :: ss, p => by simp only [List.foldl_cons, prod_fold ss, prodL, Int.mul_assoc]
def hornA (n : Int) : List Int → List Int → Int
  | s :: ss, d :: ds => hornA (n * s + d) ss ds
  | _, _ => n
theorem horn_val : ∀ {ss ds : List Int} (n : Int), ss.length = ds.length → hornA n ss ds = n * prodL ss + val ss ds
  | [], [], n, _ => by simp [hornA, prodL, val]
  | s :: ss, d :: ds, n, h => by
    unfold hornA
    rw [horn_val (ss := ss) (ds := ds) _ (by simpa using h)]
    show (n * s + d) * prodL ss + val ss ds = n * (s * prodL ss) + (d * prodL ss + val ss ds)
    rw [Int.add_mul, Int.mul_assoc, Int.add_assoc]
  | [], _ :: _, _, h => by simp at h
  | _ :: _, [], _, h => by simp at h
theorem hornA_snoc : ∀ {ss ds : List Int} (n s d : Int), ss.length = ds.length → hornA n (ss ++ [s]) (ds ++ [d]) = hornA n ss ds * s + d
  | [], [], n, s, d, _ => by simp [hornA]
  | t :: ss, e :: ds, n, s, d, h => by simp only [List.cons_append, hornA]; exact hornA_snoc _ s d (by simpa using h)
  | [], _ :: _, _, _, _, h => by simp at h
  | _ :: _, [], _, _, _, h => by simp at h
end Lw_k16

namespace Lw_k16
open PySem Fr
local macro_rules | `(tactic| walk_at "ev") => `(tactic| simp only [Bool.or_true, Bool.true_or, Bool.and_self, Bool.or_self, Bool.and_true, Bool.true_and, Bool.false_or, Bool.or_false, Bool.false_and, Bool.and_false, ltG_int, ltG_str, ltG_ref, ltG_tup, memM_eq, notMemM_eq, memB_str, blK_some, nblK_some, eqM_ref, eqM_tup, neM_ref, neM_tup, isM_fl, isNotM_non, isNotM_int, isNotM_str, isNotM_bl, isNotM_tup, isNotM_ref, listM_ref, listM_tup, listM_fl, listK_lst, listK_dK, tupleM_ref, tupleM_tup, tupleM_fl, divmodM_int, strM_int, min2M_int, max2M_int, intsOf_map, sumM_ref, sortedM_ref, insertM_eq, extendM_eq, popAtM_eq, clearM_eq, indexLM_eq, tyM_list_fl, tV_eq, truK_bl, truK_non, truK_int, truK_tup, truK_ref, obB_lst, obB_dK, sAsgT_eq, tgK_some, gN_eq, gT_eq, gsCons_eq, gK_some, gsNil_eq, sSetIx_eq, setK_eq, sAug_eq, augK_some, iaddM_int, isubM_int, eListR_eq, rg1_eq, rg2_eq, rg1K_int, rg2K_int, iZip_eq, zipM_tup, zipM_ref, iRev_eq, revM_tup, revM_ref, eLc_eq, lcK_vals, lcK_live, lcK_gen, optS_some, wipeW_nil, wipeW_cons, tYs_eq, lcT_gN, turnK_ite, putK_ok, putL_lst, lcV_nil, andThen_some, srcK_gen, bd_eq, bdK_ok, bdK_ex, bdK_bad, bdK_ite, rt_eq, bad_eq, app_ite, onE_ok, onE_ex, onE_bad, onE_ite, seq_eq, seqK_nx, seqK_rt, seqK_bk, seqK_ct, seqK_ex, seqK_bad, seqK_ite, loopK_nx, loopK_ct, loopK_bk, loopK_rt, loopK_ex, loopK_bad, loopK_ite, fn_eq, fnK_rt, fnK_nx, fnK_ex, fnK_ite, eVar_0, eVar_s, eC_eq, eOp_eq, eUn_eq, eAnd_eq, eOr_eq, eNot_eq, boK_bl, eIf_eq, eChain_eq, tB_eq, tbK_bl, tAnd_eq, tOr_eq, tNot_eq, aNil_eq, aCons_eq, eTup_eq, eLst_eq, new_eq, eB_eq, eCall_eq, eM_eq, eSl_eq, oNone_eq, oSome_eq, intK_int, sNil_eq, sExpr_eq, sRet_eq, sRetN_eq, sIf_eq, sAsg_eq, sRaise_eq, sBreak_eq, sCont_eq, sFor_eq, srcK_vals, iE_eq, srcOf_tup, srcOf_fl, srcOf_str, forV_nil, addM_int, addM_str, addM_tup, subM_int, mulM_int, mulM_str, modM_int, fdivM_int, powM_int, negM_int, ltM_int, leM_int, gtM_int, geM_int, eqM_int, eqM_str, eqM_bl, neM_int, neM_str, neM_bl, isM_non, isM_int, isM_str, isM_bl, isM_tup, isM_ref, inM_str, notInM_str, lenM_str, lenM_tup, lenM_fl, intM_int, tyM_str, slM_str, isiM_non, isiM_bl, isiM_int, isiM_str, isiM_tup, resK_some, obL_lst, obS_lst, optK_some, isLst_lst, appendM_eq, popM_eq, reverseM_eq, lenM_refE, ixM_refE, ixM_tupE, ixM_flE, ixM_strE, srcOf_refE, srcK_liveE, tyM_refE, get_last, set_last, sTry_eq, tryK_nx, tryK_rt, noEx_nx, noEx_rt, sTryAs_eq, tryAsK_nx, tryAsK_rt, dropS_nx, dropS_rt, onNone_none, kb_NoneType_bool, kb_NoneType_int, kb_NoneType_str, kb_NoneType_tuple, kb_NoneType_list, kb_NoneType_dict, kb_bool_bool, kb_bool_int, kb_bool_str, kb_bool_tuple, kb_bool_list, kb_bool_dict, kb_int_bool, kb_int_int, kb_int_str, kb_int_tuple, kb_int_list, kb_int_dict, kb_str_bool, kb_str_int, kb_str_str, kb_str_tuple, kb_str_list, kb_str_dict, kb_tuple_bool, kb_tuple_int, kb_tuple_str, kb_tuple_tuple, kb_tuple_list, kb_tuple_dict, kb_list_bool, kb_list_int, kb_list_str, kb_list_tuple, kb_list_list, kb_list_dict, kb_dict_bool, kb_dict_int, kb_dict_str, kb_dict_tuple, kb_dict_list, kb_dict_dict, List.map_cons, List.map_nil, List.cons_append, List.nil_append, List.length_cons, List.length_nil, Nat.reduceAdd, Nat.reduceSub, List.replicate, List.set_cons_zero, List.set_cons_succ, Bool.false_eq_true, Bool.not_true, Bool.not_false, if_true, if_false, reduceIte, decide_eq_true_eq, Bool.not_eq_true', decide_eq_false_iff_not, not_true_eq_false, not_false_eq_true, ite_not, decide_true, decide_false, eq_self_iff_true, indexSM_eq, startsM_str, endsM_str, splitM_str, iR1_eq, iR2_eq, rngK_1, rngK2_2, chr1_eq, subS_one, and_self, true_and, and_true, false_and, and_false, or_true, true_or, or_self, false_or, or_false, ne_eq])
local macro_rules | `(tactic| walk_at "evh") => `(tactic| simp only [Bool.or_true, Bool.true_or, Bool.and_self, Bool.or_self, Bool.and_true, Bool.true_and, Bool.false_or, Bool.or_false, Bool.false_and, Bool.and_false, ltG_int, ltG_str, ltG_ref, ltG_tup, memM_eq, notMemM_eq, memB_str, blK_some, nblK_some, eqM_ref, eqM_tup, neM_ref, neM_tup, isM_fl, isNotM_non, isNotM_int, isNotM_str, isNotM_bl, isNotM_tup, isNotM_ref, listM_ref, listM_tup, listM_fl, listK_lst, listK_dK, tupleM_ref, tupleM_tup, tupleM_fl, divmodM_int, strM_int, min2M_int, max2M_int, intsOf_map, sumM_ref, sortedM_ref, insertM_eq, extendM_eq, popAtM_eq, clearM_eq, indexLM_eq, tyM_list_fl, tV_eq, truK_bl, truK_non, truK_int, truK_tup, truK_ref, obB_lst, obB_dK, sAsgT_eq, tgK_some, gN_eq, gT_eq, gsCons_eq, gK_some, gsNil_eq, sSetIx_eq, setK_eq, sAug_eq, augK_some, iaddM_int, isubM_int, eListR_eq, rg1_eq, rg2_eq, rg1K_int, rg2K_int, iZip_eq, zipM_tup, zipM_ref, iRev_eq, revM_tup, revM_ref, eLc_eq, lcK_vals, lcK_live, lcK_gen, optS_some, wipeW_nil, wipeW_cons, tYs_eq, lcT_gN, turnK_ite, putK_ok, putL_lst, lcV_nil, andThen_some, srcK_gen, bd_eq, bdK_ok, bdK_ex, bdK_bad, bdK_ite, rt_eq, bad_eq, app_ite, onE_ok, onE_ex, onE_bad, onE_ite, seq_eq, seqK_nx, seqK_rt, seqK_bk, seqK_ct, seqK_ex, seqK_bad, seqK_ite, loopK_nx, loopK_ct, loopK_bk, loopK_rt, loopK_ex, loopK_bad, loopK_ite, fn_eq, fnK_rt, fnK_nx, fnK_ex, fnK_ite, eVar_0, eVar_s, eC_eq, eOp_eq, eUn_eq, eAnd_eq, eOr_eq, eNot_eq, boK_bl, eIf_eq, eChain_eq, tB_eq, tbK_bl, tAnd_eq, tOr_eq, tNot_eq, aNil_eq, aCons_eq, eTup_eq, eLst_eq, new_eq, eB_eq, eCall_eq, eM_eq, eSl_eq, oNone_eq, oSome_eq, intK_int, sNil_eq, sExpr_eq, sRet_eq, sRetN_eq, sIf_eq, sAsg_eq, sRaise_eq, sBreak_eq, sCont_eq, sFor_eq, srcK_vals, iE_eq, srcOf_tup, srcOf_fl, srcOf_str, forV_nil, addM_int, addM_str, addM_tup, subM_int, mulM_int, mulM_str, modM_int, fdivM_int, powM_int, negM_int, ltM_int, leM_int, gtM_int, geM_int, eqM_int, eqM_str, eqM_bl, neM_int, neM_str, neM_bl, isM_non, isM_int, isM_str, isM_bl, isM_tup, isM_ref, inM_str, notInM_str, lenM_str, lenM_tup, lenM_fl, intM_int, tyM_str, slM_str, isiM_non, isiM_bl, isiM_int, isiM_str, isiM_tup, resK_some, obL_lst, obS_lst, optK_some, isLst_lst, appendM_eq, popM_eq, reverseM_eq, lenM_refE, ixM_refE, ixM_tupE, ixM_flE, ixM_strE, srcOf_refE, srcK_liveE, tyM_refE, get_last, set_last, sTry_eq, tryK_nx, tryK_rt, noEx_nx, noEx_rt, sTryAs_eq, tryAsK_nx, tryAsK_rt, dropS_nx, dropS_rt, onNone_none, kb_NoneType_bool, kb_NoneType_int, kb_NoneType_str, kb_NoneType_tuple, kb_NoneType_list, kb_NoneType_dict, kb_bool_bool, kb_bool_int, kb_bool_str, kb_bool_tuple, kb_bool_list, kb_bool_dict, kb_int_bool, kb_int_int, kb_int_str, kb_int_tuple, kb_int_list, kb_int_dict, kb_str_bool, kb_str_int, kb_str_str, kb_str_tuple, kb_str_list, kb_str_dict, kb_tuple_bool, kb_tuple_int, kb_tuple_str, kb_tuple_tuple, kb_tuple_list, kb_tuple_dict, kb_list_bool, kb_list_int, kb_list_str, kb_list_tuple, kb_list_list, kb_list_dict, kb_dict_bool, kb_dict_int, kb_dict_str, kb_dict_tuple, kb_dict_list, kb_dict_dict, List.map_cons, List.map_nil, List.cons_append, List.nil_append, List.length_cons, List.length_nil, Nat.reduceAdd, Nat.reduceSub, List.replicate, List.set_cons_zero, List.set_cons_succ, Bool.false_eq_true, Bool.not_true, Bool.not_false, if_true, if_false, reduceIte, decide_eq_true_eq, Bool.not_eq_true', decide_eq_false_iff_not, not_true_eq_false, not_false_eq_true, ite_not, decide_true, decide_false, eq_self_iff_true, indexSM_eq, startsM_str, endsM_str, splitM_str, iR1_eq, iR2_eq, rngK_1, rngK2_2, chr1_eq, subS_one, and_self, true_and, and_true, false_and, and_false, or_true, true_or, or_self, false_or, or_false, ne_eq, *])
theorem draw_eq : m__law_draw = mDraw := rfl
theorem pick_eq : m__law_pick = mPick := rfl
theorem same_eq : ∀ j, m__law_same j = mSame j
  | 0 => rfl
  | j + 1 => by
    show fnM 3 (b__law_same j (m__law_same j)) = fnM 3 (bSame (mSame j))
    rw [same_eq j]
    rfl
abbrev tg2 (i j : Nat) : Tgt := gT 2 (gsCons (gN i) (gsCons (gN j) gsNil))
/-- one turn of a walk over zip -/
theorem zip_step {i j n k a c : Nat} {b : Stm} {C : Sto → Bool} {s : Sl} {S : Sto} {xs ys : List W} {x y : W} (h1 : S[a]? = some (.lst xs)) (h2 : S[c]? = some (.lst ys)) (h3 : xs[n - (k + 1)]? = some x) (h4 : ys[n - (k + 1)]? = some y) :
    forG (tg2 i j) b n (zipF (.ref a) (.ref c)) C (k + 1) s S = loopK (b ((s.set i (some x)).set j (some y)) S) (forG (tg2 i j) b n (zipF (.ref a) (.ref c)) C k) := by
  have hz : zipF (.ref a) (.ref c) (n - (k + 1)) S = some (.tup [x, y]) := by
    unfold zipF getL
    simp only [h1, h2, h3, h4]
  have hg : tg2 i j (.tup [x, y]) s = some ((s.set i (some x)).set j (some y)) := rfl
  unfold forG loopK
  rw [hz]
  simp only [hg] <;> (cases b ((s.set i (some x)).set j (some y)) S <;> rfl)
theorem zip_done {n a c : Nat} {g : Tgt} {b : Stm} {s : Sl} {S : Sto} {xs ys : List W} (h1 : S[a]? = some (.lst xs)) (h2 : S[c]? = some (.lst ys)) (h : xs.length ≤ n ∨ ys.length ≤ n) :
    forG g b n (zipF (.ref a) (.ref c)) (zipC (.ref a) (.ref c) n) 0 s S = .nx s S := by
  have hz : zipC (.ref a) (.ref c) n S = true := by
    unfold zipC getL
    simp only [h1, h2, decide_eq_true h]
  unfold forG
  rw [hz, if_pos rfl]
theorem mid_at {pre suf : List Int} {x : Int} {n : Nat} (h : (pre ++ x :: suf).length = n) : ((pre ++ x :: suf).map W.int)[n - (suf.length + 1)]? = some (.int x) := by
  have : n - (suf.length + 1) = pre.length := by rw [← h]; simp
  rw [this]; simp
def bChk : Stm := (sIf (tNot (tB (eChain leM ltG (eC (.int 0)) (eVar 3) (eVar 2)))) (sRaise (Str.ofString "InvalidNote")) sNil)
theorem chk_loop {S : Sto} {a b n : Nat} {sizes note : List Int} (hA : S[a]? = some (oI sizes)) (hB : S[b]? = some (oI note)) (hn : sizes.length = n) (hm : note.length = n) : ∀ (ss ns pre pre' : List Int) (c2 c3 : Option W), sizes = pre ++ ss → note = pre' ++ ns → ss.length = ns.length →
    (okN ss ns = true → ∃ c2' c3', forG (tg2 2 3) bChk n (zipF (.ref a) (.ref b)) (zipC (.ref a) (.ref b) n) ss.length [some (.ref a), some (.ref b), c2, c3] S = .nx [some (.ref a), some (.ref b), c2', c3'] S) ∧
    (okN ss ns = false → ∃ s', forG (tg2 2 3) bChk n (zipF (.ref a) (.ref b)) (zipC (.ref a) (.ref b) n) ss.length [some (.ref a), some (.ref b), c2, c3] S = .ex (Str.ofString "InvalidNote") none s' S)
  | [], [], _, _, c2, c3, _, _, _ => by
    refine ⟨fun _ => ⟨c2, c3, zip_done hA hB (.inl ?_)⟩, fun h => by cases h⟩
    rw [List.length_map, hn]; exact Nat.le_refl _
  | s :: ss, d :: ns, pre, pre', c2, c3, e1, e2, hl => by
    have ih := chk_loop hA hB hn hm ss ns (pre ++ [s]) (pre' ++ [d]) (some (.int s)) (some (.int d)) (by rw [e1]; simp) (by rw [e2]; simp) (by simpa using hl)
    have h3 : (sizes.map W.int)[n - (ss.length + 1)]? = some (.int s) := by rw [e1]; exact mid_at (by rw [← e1]; exact hn)
    have h4 : (note.map W.int)[n - (ss.length + 1)]? = some (.int d) := by
      rw [e2, show ss.length = ns.length by simpa using hl]
      exact mid_at (by rw [← e2]; exact hm)
    rw [List.length_cons, zip_step hA hB h3 h4]
    show (_ → ∃ c2' c3', loopK (bChk [some (.ref a), some (.ref b), some (.int s), some (.int d)] S) _ = _) ∧ (_ → ∃ s', loopK (bChk [some (.ref a), some (.ref b), some (.int s), some (.int d)] S) _ = _)
    have ev : bChk [some (.ref a), some (.ref b), some (.int s), some (.int d)] S = if 0 ≤ d ∧ d < s then .nx [some (.ref a), some (.ref b), some (.int s), some (.int d)] S else .ex (Str.ofString "InvalidNote") none [some (.ref a), some (.ref b), some (.int s), some (.int d)] S := by
      unfold bChk
      clear ih h3 h4 e1 e2 hl hA hB
      by_cases g1 : 0 ≤ d
      · by_cases g2 : d < s
        · walk_at "evh"
        · walk_at "evh"
      · walk_at "evh"
    rw [ev]
    unfold okN
    by_cases g : 0 ≤ d ∧ d < s
    · rw [if_pos g, decide_eq_true g, Bool.true_and]
      exact ih
    · rw [if_neg g, decide_eq_false g, Bool.false_and]
      exact ⟨fun h => (by cases h), fun _ => ⟨_, rfl⟩⟩
  | [], _ :: _, _, _, _, _, _, _, h => by simp at h
  | _ :: _, [], _, _, _, _, _, _, h => by simp at h
theorem check_ok {S : Sto} {a b : Nat} {sizes note : List Int} (hA : S[a]? = some (oI sizes)) (hB : S[b]? = some (oI note)) (h : okN sizes note = true) : m_check_note [.ref a, .ref b] S = .ok .non S := by
  have hl := okN_len h
  obtain ⟨c2, c3, e⟩ := (chk_loop hA hB rfl hl.symm sizes note [] [] none none rfl rfl hl).1 h
  have e1 : (note.length : Int) = (sizes.length : Int) := by omega
  have e2 : min sizes.length sizes.length = sizes.length := Nat.min_self _
  have e3 : min sizes.length note.length = sizes.length := by omega
  unfold m_check_note b_check_note
  unfold bChk at e
  clear h hl
  walk_at "evh"
  simp only [List.length_map] 
  walk_at "evh"
theorem check_no {S : Sto} {a b : Nat} {sizes note : List Int} (hA : S[a]? = some (oI sizes)) (hB : S[b]? = some (oI note)) (h : okN sizes note = false) : m_check_note [.ref a, .ref b] S = .ex (Str.ofString "InvalidNote") none S := by
  unfold m_check_note b_check_note
  by_cases hl : sizes.length = note.length
  · obtain ⟨s', e⟩ := (chk_loop hA hB rfl hl.symm sizes note [] [] none none rfl rfl hl).2 h
    have e1 : (note.length : Int) = (sizes.length : Int) := by omega
    have e3 : min sizes.length note.length = sizes.length := by omega
    have e2 : min sizes.length sizes.length = sizes.length := Nat.min_self _
    unfold bChk at e
    clear h hl
    walk_at "evh"
    simp only [List.length_map]
    walk_at "evh"
  · have e1 : ¬ ((note.map W.int).length : Int) = ((sizes.map W.int).length : Int) := by simp; omega
    clear h hl
    walk_at "evh"

end Lw_k16

namespace Lw_k16
open PySem Fr
local macro_rules | `(tactic| walk_at "ev") => `(tactic| simp only [Bool.or_true, Bool.true_or, Bool.and_self, Bool.or_self, Bool.and_true, Bool.true_and, Bool.false_or, Bool.or_false, Bool.false_and, Bool.and_false, ltG_int, ltG_str, ltG_ref, ltG_tup, memM_eq, notMemM_eq, memB_str, blK_some, nblK_some, eqM_ref, eqM_tup, neM_ref, neM_tup, isM_fl, isNotM_non, isNotM_int, isNotM_str, isNotM_bl, isNotM_tup, isNotM_ref, listM_ref, listM_tup, listM_fl, listK_lst, listK_dK, tupleM_ref, tupleM_tup, tupleM_fl, divmodM_int, strM_int, min2M_int, max2M_int, intsOf_map, sumM_ref, sortedM_ref, insertM_eq, extendM_eq, popAtM_eq, clearM_eq, indexLM_eq, tyM_list_fl, tV_eq, truK_bl, truK_non, truK_int, truK_tup, truK_ref, obB_lst, obB_dK, sAsgT_eq, tgK_some, gN_eq, gT_eq, gsCons_eq, gK_some, gsNil_eq, sSetIx_eq, setK_eq, sAug_eq, augK_some, iaddM_int, isubM_int, eListR_eq, rg1_eq, rg2_eq, rg1K_int, rg2K_int, iZip_eq, zipM_tup, zipM_ref, iRev_eq, revM_tup, revM_ref, eLc_eq, lcK_vals, lcK_live, lcK_gen, optS_some, wipeW_nil, wipeW_cons, tYs_eq, lcT_gN, turnK_ite, putK_ok, putL_lst, lcV_nil, andThen_some, srcK_gen, bd_eq, bdK_ok, bdK_ex, bdK_bad, bdK_ite, rt_eq, bad_eq, app_ite, onE_ok, onE_ex, onE_bad, onE_ite, seq_eq, seqK_nx, seqK_rt, seqK_bk, seqK_ct, seqK_ex, seqK_bad, seqK_ite, loopK_nx, loopK_ct, loopK_bk, loopK_rt, loopK_ex, loopK_bad, loopK_ite, fn_eq, fnK_rt, fnK_nx, fnK_ex, fnK_ite, eVar_0, eVar_s, eC_eq, eOp_eq, eUn_eq, eAnd_eq, eOr_eq, eNot_eq, boK_bl, eIf_eq, eChain_eq, tB_eq, tbK_bl, tAnd_eq, tOr_eq, tNot_eq, aNil_eq, aCons_eq, eTup_eq, eLst_eq, new_eq, eB_eq, eCall_eq, eM_eq, eSl_eq, oNone_eq, oSome_eq, intK_int, sNil_eq, sExpr_eq, sRet_eq, sRetN_eq, sIf_eq, sAsg_eq, sRaise_eq, sBreak_eq, sCont_eq, sFor_eq, srcK_vals, iE_eq, srcOf_tup, srcOf_fl, srcOf_str, forV_nil, addM_int, addM_str, addM_tup, subM_int, mulM_int, mulM_str, modM_int, fdivM_int, powM_int, negM_int, ltM_int, leM_int, gtM_int, geM_int, eqM_int, eqM_str, eqM_bl, neM_int, neM_str, neM_bl, isM_non, isM_int, isM_str, isM_bl, isM_tup, isM_ref, inM_str, notInM_str, lenM_str, lenM_tup, lenM_fl, intM_int, tyM_str, slM_str, isiM_non, isiM_bl, isiM_int, isiM_str, isiM_tup, resK_some, obL_lst, obS_lst, optK_some, isLst_lst, appendM_eq, popM_eq, reverseM_eq, lenM_refE, ixM_refE, ixM_tupE, ixM_flE, ixM_strE, srcOf_refE, srcK_liveE, tyM_refE, get_last, set_last, sTry_eq, tryK_nx, tryK_rt, noEx_nx, noEx_rt, sTryAs_eq, tryAsK_nx, tryAsK_rt, dropS_nx, dropS_rt, onNone_none, kb_NoneType_bool, kb_NoneType_int, kb_NoneType_str, kb_NoneType_tuple, kb_NoneType_list, kb_NoneType_dict, kb_bool_bool, kb_bool_int, kb_bool_str, kb_bool_tuple, kb_bool_list, kb_bool_dict, kb_int_bool, kb_int_int, kb_int_str, kb_int_tuple, kb_int_list, kb_int_dict, kb_str_bool, kb_str_int, kb_str_str, kb_str_tuple, kb_str_list, kb_str_dict, kb_tuple_bool, kb_tuple_int, kb_tuple_str, kb_tuple_tuple, kb_tuple_list, kb_tuple_dict, kb_list_bool, kb_list_int, kb_list_str, kb_list_tuple, kb_list_list, kb_list_dict, kb_dict_bool, kb_dict_int, kb_dict_str, kb_dict_tuple, kb_dict_list, kb_dict_dict, List.map_cons, List.map_nil, List.cons_append, List.nil_append, List.length_cons, List.length_nil, Nat.reduceAdd, Nat.reduceSub, List.replicate, List.set_cons_zero, List.set_cons_succ, Bool.false_eq_true, Bool.not_true, Bool.not_false, if_true, if_false, reduceIte, decide_eq_true_eq, Bool.not_eq_true', decide_eq_false_iff_not, not_true_eq_false, not_false_eq_true, ite_not, decide_true, decide_false, eq_self_iff_true, indexSM_eq, startsM_str, endsM_str, splitM_str, iR1_eq, iR2_eq, rngK_1, rngK2_2, chr1_eq, subS_one, and_self, true_and, and_true, false_and, and_false, or_true, true_or, or_self, false_or, or_false, ne_eq])
local macro_rules | `(tactic| walk_at "evh") => `(tactic| simp only [Bool.or_true, Bool.true_or, Bool.and_self, Bool.or_self, Bool.and_true, Bool.true_and, Bool.false_or, Bool.or_false, Bool.false_and, Bool.and_false, ltG_int, ltG_str, ltG_ref, ltG_tup, memM_eq, notMemM_eq, memB_str, blK_some, nblK_some, eqM_ref, eqM_tup, neM_ref, neM_tup, isM_fl, isNotM_non, isNotM_int, isNotM_str, isNotM_bl, isNotM_tup, isNotM_ref, listM_ref, listM_tup, listM_fl, listK_lst, listK_dK, tupleM_ref, tupleM_tup, tupleM_fl, divmodM_int, strM_int, min2M_int, max2M_int, intsOf_map, sumM_ref, sortedM_ref, insertM_eq, extendM_eq, popAtM_eq, clearM_eq, indexLM_eq, tyM_list_fl, tV_eq, truK_bl, truK_non, truK_int, truK_tup, truK_ref, obB_lst, obB_dK, sAsgT_eq, tgK_some, gN_eq, gT_eq, gsCons_eq, gK_some, gsNil_eq, sSetIx_eq, setK_eq, sAug_eq, augK_some, iaddM_int, isubM_int, eListR_eq, rg1_eq, rg2_eq, rg1K_int, rg2K_int, iZip_eq, zipM_tup, zipM_ref, iRev_eq, revM_tup, revM_ref, eLc_eq, lcK_vals, lcK_live, lcK_gen, optS_some, wipeW_nil, wipeW_cons, tYs_eq, lcT_gN, turnK_ite, putK_ok, putL_lst, lcV_nil, andThen_some, srcK_gen, bd_eq, bdK_ok, bdK_ex, bdK_bad, bdK_ite, rt_eq, bad_eq, app_ite, onE_ok, onE_ex, onE_bad, onE_ite, seq_eq, seqK_nx, seqK_rt, seqK_bk, seqK_ct, seqK_ex, seqK_bad, seqK_ite, loopK_nx, loopK_ct, loopK_bk, loopK_rt, loopK_ex, loopK_bad, loopK_ite, fn_eq, fnK_rt, fnK_nx, fnK_ex, fnK_ite, eVar_0, eVar_s, eC_eq, eOp_eq, eUn_eq, eAnd_eq, eOr_eq, eNot_eq, boK_bl, eIf_eq, eChain_eq, tB_eq, tbK_bl, tAnd_eq, tOr_eq, tNot_eq, aNil_eq, aCons_eq, eTup_eq, eLst_eq, new_eq, eB_eq, eCall_eq, eM_eq, eSl_eq, oNone_eq, oSome_eq, intK_int, sNil_eq, sExpr_eq, sRet_eq, sRetN_eq, sIf_eq, sAsg_eq, sRaise_eq, sBreak_eq, sCont_eq, sFor_eq, srcK_vals, iE_eq, srcOf_tup, srcOf_fl, srcOf_str, forV_nil, addM_int, addM_str, addM_tup, subM_int, mulM_int, mulM_str, modM_int, fdivM_int, powM_int, negM_int, ltM_int, leM_int, gtM_int, geM_int, eqM_int, eqM_str, eqM_bl, neM_int, neM_str, neM_bl, isM_non, isM_int, isM_str, isM_bl, isM_tup, isM_ref, inM_str, notInM_str, lenM_str, lenM_tup, lenM_fl, intM_int, tyM_str, slM_str, isiM_non, isiM_bl, isiM_int, isiM_str, isiM_tup, resK_some, obL_lst, obS_lst, optK_some, isLst_lst, appendM_eq, popM_eq, reverseM_eq, lenM_refE, ixM_refE, ixM_tupE, ixM_flE, ixM_strE, srcOf_refE, srcK_liveE, tyM_refE, get_last, set_last, sTry_eq, tryK_nx, tryK_rt, noEx_nx, noEx_rt, sTryAs_eq, tryAsK_nx, tryAsK_rt, dropS_nx, dropS_rt, onNone_none, kb_NoneType_bool, kb_NoneType_int, kb_NoneType_str, kb_NoneType_tuple, kb_NoneType_list, kb_NoneType_dict, kb_bool_bool, kb_bool_int, kb_bool_str, kb_bool_tuple, kb_bool_list, kb_bool_dict, kb_int_bool, kb_int_int, kb_int_str, kb_int_tuple, kb_int_list, kb_int_dict, kb_str_bool, kb_str_int, kb_str_str, kb_str_tuple, kb_str_list, kb_str_dict, kb_tuple_bool, kb_tuple_int, kb_tuple_str, kb_tuple_tuple, kb_tuple_list, kb_tuple_dict, kb_list_bool, kb_list_int, kb_list_str, kb_list_tuple, kb_list_list, kb_list_dict, kb_dict_bool, kb_dict_int, kb_dict_str, kb_dict_tuple, kb_dict_list, kb_dict_dict, List.map_cons, List.map_nil, List.cons_append, List.nil_append, List.length_cons, List.length_nil, Nat.reduceAdd, Nat.reduceSub, List.replicate, List.set_cons_zero, List.set_cons_succ, Bool.false_eq_true, Bool.not_true, Bool.not_false, if_true, if_false, reduceIte, decide_eq_true_eq, Bool.not_eq_true', decide_eq_false_iff_not, not_true_eq_false, not_false_eq_true, ite_not, decide_true, decide_false, eq_self_iff_true, indexSM_eq, startsM_str, endsM_str, splitM_str, iR1_eq, iR2_eq, rngK_1, rngK2_2, chr1_eq, subS_one, and_self, true_and, and_true, false_and, and_false, or_true, true_or, or_self, false_or, or_false, ne_eq, *])
theorem map_at {α : Type} {f : α → W} {l : List α} {pre suf : List W} {x : W} (h : l.map f = pre ++ x :: suf) : ∃ s, l[pre.length]? = some s ∧ x = f s ∧ pre.length < l.length ∧ l.take (pre.length + 1) = l.take pre.length ++ [s] := by
  have hl : pre.length < l.length := by
    have := congrArg List.length h
    simp at this
    omega
  have h1 : (l.map f)[pre.length]? = some x := by rw [h]; simp
  rw [List.getElem?_map, List.getElem?_eq_getElem hl] at h1
  refine ⟨l[pre.length], List.getElem?_eq_getElem hl, ?_, hl, ?_⟩
  · simp at h1; exact h1.symm
  · rw [List.take_succ_eq_append_getElem hl]
abbrev SzOk (ss : List Int) : Prop := ∀ s ∈ ss, 1 ≤ s ∧ s ≤ 1000
theorem inR_small {s : Int} (h : 1 ≤ s ∧ s ≤ 1000) : inR 18446744073709551615 s = true := inR_iff.mpr (by omega)
def bPr : Stm := (sAsg 1 (eOp mulM (eVar 1) (eVar 2)))
theorem product_run {S : Sto} {a : Nat} {sizes : List Int} (hA : S[a]? = some (oI sizes)) (hs : SzOk sizes) : m_product_of [.ref a] S = .ok (.int (prodL sizes)) S := by
  obtain ⟨s', S', e, hS, c, hc⟩ := forL_all (g := gN 2) (b := bPr) (a := a) (sizes.map W.int) (fun pre s S' => S' = S ∧ ∃ c, s = [some (.ref a), some (.int (prodL (sizes.take pre.length))), c]) (fun pre s S' h => by rw [h.1]; exact hA)
    (fun pre x suf s S' e h => by
      obtain ⟨rfl, c, rfl⟩ := h
      obtain ⟨t, h1, rfl, h2, h3⟩ := map_at e
      refine ⟨_, _, _, rfl, .inl ?_, rfl, some (.int t), rfl⟩
      have hm := inR_small (hs t (List.mem_of_getElem? h1))
      rw [List.length_append, List.length_singleton, h3, prodL_snoc]
      show bPr [some (.ref a), some (.int (prodL (sizes.take pre.length))), some (.int t)] S' = _
      clear hA hs e h1 h2 h3
      unfold bPr
      walk_at "evh")
    (s := [some (.ref a), some (.int 1), none]) (S := S) ⟨rfl, none, rfl⟩
  subst hS
  rw [List.length_map, List.take_length] at hc
  subst hc
  unfold bPr at e
  rw [List.length_map] at e
  unfold m_product_of b_product_of
  clear hs
  walk_at "evh"
  simp only [List.length_map]
  walk_at "evh"
def bNn : Stm := (sAsg 2 (eOp addM (eOp mulM (eVar 2) (eVar 3)) (eVar 4)))
theorem nn_loop {S : Sto} {a b n : Nat} {sizes note : List Int} (hA : S[a]? = some (oI sizes)) (hB : S[b]? = some (oI note)) (hn : sizes.length = n) (hm : note.length = n) (hs : SzOk sizes) : ∀ (ss ns pre pre' : List Int) (acc : Int) (c3 c4 : Option W), sizes = pre ++ ss → note = pre' ++ ns → ss.length = ns.length →
    ∃ c3' c4', forG (tg2 3 4) bNn n (zipF (.ref a) (.ref b)) (zipC (.ref a) (.ref b) n) ss.length [some (.ref a), some (.ref b), some (.int acc), c3, c4] S = .nx [some (.ref a), some (.ref b), some (.int (hornA acc ss ns)), c3', c4'] S
  | [], [], _, _, acc, c3, c4, _, _, _ => by
    refine ⟨c3, c4, zip_done hA hB (.inl ?_)⟩
    rw [List.length_map, hn]; exact Nat.le_refl _
  | s :: ss, d :: ns, pre, pre', acc, c3, c4, e1, e2, hl => by
    obtain ⟨c3', c4', ih⟩ := nn_loop hA hB hn hm hs ss ns (pre ++ [s]) (pre' ++ [d]) (acc * s + d) (some (.int s)) (some (.int d)) (by rw [e1]; simp) (by rw [e2]; simp) (by simpa using hl)
    refine ⟨c3', c4', ?_⟩
    have h3 : (sizes.map W.int)[n - (ss.length + 1)]? = some (.int s) := by rw [e1]; exact mid_at (by rw [← e1]; exact hn)
    have h4 : (note.map W.int)[n - (ss.length + 1)]? = some (.int d) := by
      rw [e2, show ss.length = ns.length by simpa using hl]
      exact mid_at (by rw [← e2]; exact hm)
    rw [List.length_cons, zip_step hA hB h3 h4]
    show loopK (bNn [some (.ref a), some (.ref b), some (.int acc), some (.int s), some (.int d)] S) _ = _
    have hm := inR_small (hs s (by rw [e1]; simp))
    have ev : bNn [some (.ref a), some (.ref b), some (.int acc), some (.int s), some (.int d)] S = .nx [some (.ref a), some (.ref b), some (.int (acc * s + d)), some (.int s), some (.int d)] S := by
      unfold bNn
      clear ih h3 h4 e1 e2 hl hA hB hs
      walk_at "evh"
    rw [ev]
    exact ih
  | [], _ :: _, _, _, _, _, _, _, _, h => by simp at h
  | _ :: _, [], _, _, _, _, _, _, _, h => by simp at h
theorem number_ok {S : Sto} {a b : Nat} {sizes note : List Int} (hA : S[a]? = some (oI sizes)) (hB : S[b]? = some (oI note)) (h : okN sizes note = true) (hs : SzOk sizes) : m_note_number [.ref a, .ref b] S = .ok (.int (val sizes note)) S := by
  have hl := okN_len h
  obtain ⟨c3, c4, e⟩ := nn_loop hA hB rfl hl.symm hs sizes note [] [] 0 none none rfl rfl hl
  rw [horn_val 0 hl, Int.zero_mul, Int.zero_add] at e
  have hc := check_ok hA hB h
  have e2 : min sizes.length sizes.length = sizes.length := Nat.min_self _
  have e3 : min sizes.length note.length = sizes.length := by omega
  unfold m_note_number b_note_number
  unfold bNn at e
  clear h hl hs
  walk_at "evh"
  simp only [List.length_map]
  walk_at "evh"
theorem number_no {S : Sto} {a b : Nat} {sizes note : List Int} (hA : S[a]? = some (oI sizes)) (hB : S[b]? = some (oI note)) (h : okN sizes note = false) : m_note_number [.ref a, .ref b] S = .ex (Str.ofString "InvalidNote") none S := by
  have hc := check_no hA hB h
  unfold m_note_number b_note_number
  clear h hA hB
  walk_at "evh"
/-! numbered_note -/
def quoR : List Int → Int → Int
  | [], n => n
  | s :: r, n => quoR r (n / s)
theorem digR_snoc : ∀ (r : List Int) (s n : Int), digR (r ++ [s]) n = digR r n ++ [quoR r n % s]
  | [], _, _ => rfl
  | t :: r, s, n => by simp only [List.cons_append, digR, quoR, digR_snoc r s]
theorem quoR_snoc : ∀ (r : List Int) (s n : Int), quoR (r ++ [s]) n = quoR r n / s
  | [], _, _ => rfl
  | t :: r, s, n => by simp only [List.cons_append, quoR, quoR_snoc r s]
def bNum : Stm := (sSeq (sAsgT (gT 2 (gsCons (gN 1) (gsCons (gN 4) gsNil))) (eB divmodM (aCons (eVar 1) (aCons (eVar 3) aNil))))
  (sExpr (eM "list" appendM (eVar 2) (aCons (eVar 4) aNil))))
theorem numbered_no {S : Sto} {a : Nat} {sizes : List Int} {n : Int} (hA : S[a]? = some (oI sizes)) (hs : SzOk sizes) (h : ¬ (0 ≤ n ∧ n < prodL sizes)) : m_numbered_note [.ref a, .int n] S = .ex (Str.ofString "InvalidNote") none S := by
  have hp := product_run hA hs
  unfold m_numbered_note b_numbered_note
  clear hA hs
  by_cases g1 : 0 ≤ n
  · have g2 : ¬ n < prodL sizes := fun q => h ⟨g1, q⟩
    clear h
    walk_at "evh"
  · clear h
    walk_at "evh"
theorem numbered_ok {S : Sto} {a : Nat} {sizes : List Int} {n : Int} (hA : S[a]? = some (oI sizes)) (hs : SzOk sizes) (hl : sizes.length ≤ 1000) (h : 0 ≤ n ∧ n < prodL sizes) :
    ∃ T, m_numbered_note [.ref a, .int n] S = .ok (.ref S.length) T ∧ T[S.length]? = some (oI (digs sizes n)) ∧ Kp [] S T := by
  have hp := product_run hA hs
  have hk : ∀ (T : Sto), T = S ++ [.lst []] → T[a]? = some (oI sizes) := fun T e => by rw [e]; exact get_old _ hA
  let r := sizes.reverse
  let I : List W → Sl → Sto → Prop := fun pre s T => T.length = S.length + 2 ∧ T[S.length]? = some (oI (digR (r.take pre.length) n)) ∧ T[S.length + 1]? = some (oI sizes) ∧ Kp [] S T ∧ ∃ c3 c4, s = [some (.ref a), some (.int (quoR (r.take pre.length) n)), some (.ref S.length), c3, c4]
  have hlo := forG_all (g := gN 3) (b := bNum) (f := revF (.ref (S.length + 1)) (sizes.map W.int).length) (c := fun _ => true) (r.map W.int) I (fun _ _ _ => rfl) (fun pre x suf s T e hI => ?_) (fun pre x suf s T e hI => ?_)
    (s := [some (.ref a), some (.int n), some (.ref S.length), none, none]) (S := S ++ [.lst []] ++ [oI sizes]) ⟨by simp, ?_, ?_, ?_, none, none, rfl⟩
  · obtain ⟨s', T, e, hT1, hT2, hT3, hT4, c3, c4, hc⟩ := hlo
    have hrl : (r.map W.int).length = (sizes.map W.int).length := by simp [r]
    rw [hrl] at e hT2 hc
    have htk : r.take (sizes.map W.int).length = r := List.take_of_length_le (by simp [r])
    rw [htk] at hT2 hc
    subst hc
    refine ⟨T.set S.length (oI (digs sizes n)), ?_, set_get hT2, ?_⟩
    · unfold m_numbered_note b_numbered_note
      have hA2 := hk _ rfl
      have e0 : 0 ≤ n := h.1
      have e1 : n < prodL sizes := h.2
      have el : (S ++ [Ob.lst []]).length = S.length + 1 := by simp
      have eg : (S ++ [Ob.lst []] ++ [oI sizes])[S.length + 1]? = some (oI sizes) := by simp
      have hz : 0 ≤ sizeLine := Nat.zero_le _
      have er : (digR r n).reverse = digs sizes n := rfl
      have er2 : ((digR r n).map W.int).reverse = (digs sizes n).map W.int := by rw [← List.map_reverse]; rfl
      unfold bNum at e
      clear hk hs h hT4 hT1 hT3 hl htk hrl
      walk_at "evh"
    · exact hT4.new (Nat.le_refl _)
  · obtain ⟨hT1, hT2, hT3, hT4, c3, c4, rfl⟩ := hI
    obtain ⟨t, h1, rfl, h2, h3⟩ := map_at e
    unfold revF getL
    simp only [hT3]
    have hr : pre.length < sizes.length := by simpa [r] using h2
    have h1' : sizes.reverse[pre.length]? = some t := h1
    rw [List.getElem?_reverse hr] at h1'
    rw [List.getElem?_map, List.length_map, h1']
    rfl
  · obtain ⟨hT1, hT2, hT3, hT4, c3, c4, rfl⟩ := hI
    obtain ⟨t, h1, rfl, h2, h3⟩ := map_at e
    have hb := hs t (by have := List.mem_of_getElem? h1; simpa [r] using this)
    have hq1 : 0 < t := by omega
    have hq2 : inR 1073741823 t = true := inR_iff.mpr (by omega)
    refine ⟨_, [some (.ref a), some (.int (quoR (r.take pre.length) n / t)), some (.ref S.length), some (.int t), some (.int (quoR (r.take pre.length) n % t))], T.set S.length (oI (digR (r.take (pre.length + 1)) n)), rfl, .inl ?_, by simpa using hT1, ?_, ?_, ?_, some (.int t), some (.int (quoR (r.take pre.length) n % t)), ?_⟩
    · show bNum [some (.ref a), some (.int (quoR (r.take pre.length) n)), some (.ref S.length), some (.int t), c4] T = _
      have hz : (List.map W.int (digR (r.take pre.length) n)).length < sizeLine := by
        rw [List.length_map, digR_len, sizeLine_n]
        have : (r.take pre.length).length ≤ r.length := by simp; omega
        simp [r] at this ⊢
        omega
      have eo : List.map W.int (digR (r.take pre.length) n) ++ [W.int (quoR (r.take pre.length) n % t)] = List.map W.int (digR (r.take (pre.length + 1)) n) := by
        rw [h3, digR_snoc]; simp
      unfold bNum
      clear hs hl h hp hk hT3 hT4 hT1 e h1 h2 h3 hb
      walk_at "evh"
    · rw [List.length_append, List.length_singleton]; exact set_get hT2
    · rw [List.getElem?_set_ne (by omega)]; exact hT3
    · exact hT4.new (Nat.le_refl _)
    · rw [List.length_append, List.length_singleton, h3, quoR_snoc]
  · simp [r, digR]
  · simp
  · exact (Kp.app _).trans (Kp.app _)

end Lw_k16

namespace Lw_k16
open PySem Fr
local macro_rules | `(tactic| walk_at "ev") => `(tactic| simp only [Bool.or_true, Bool.true_or, Bool.and_self, Bool.or_self, Bool.and_true, Bool.true_and, Bool.false_or, Bool.or_false, Bool.false_and, Bool.and_false, ltG_int, ltG_str, ltG_ref, ltG_tup, memM_eq, notMemM_eq, memB_str, blK_some, nblK_some, eqM_ref, eqM_tup, neM_ref, neM_tup, isM_fl, isNotM_non, isNotM_int, isNotM_str, isNotM_bl, isNotM_tup, isNotM_ref, listM_ref, listM_tup, listM_fl, listK_lst, listK_dK, tupleM_ref, tupleM_tup, tupleM_fl, divmodM_int, strM_int, min2M_int, max2M_int, intsOf_map, sumM_ref, sortedM_ref, insertM_eq, extendM_eq, popAtM_eq, clearM_eq, indexLM_eq, tyM_list_fl, tV_eq, truK_bl, truK_non, truK_int, truK_tup, truK_ref, obB_lst, obB_dK, sAsgT_eq, tgK_some, gN_eq, gT_eq, gsCons_eq, gK_some, gsNil_eq, sSetIx_eq, setK_eq, sAug_eq, augK_some, iaddM_int, isubM_int, eListR_eq, rg1_eq, rg2_eq, rg1K_int, rg2K_int, iZip_eq, zipM_tup, zipM_ref, iRev_eq, revM_tup, revM_ref, eLc_eq, lcK_vals, lcK_live, lcK_gen, optS_some, wipeW_nil, wipeW_cons, tYs_eq, lcT_gN, turnK_ite, putK_ok, putL_lst, lcV_nil, andThen_some, srcK_gen, bd_eq, bdK_ok, bdK_ex, bdK_bad, bdK_ite, rt_eq, bad_eq, app_ite, onE_ok, onE_ex, onE_bad, onE_ite, seq_eq, seqK_nx, seqK_rt, seqK_bk, seqK_ct, seqK_ex, seqK_bad, seqK_ite, loopK_nx, loopK_ct, loopK_bk, loopK_rt, loopK_ex, loopK_bad, loopK_ite, fn_eq, fnK_rt, fnK_nx, fnK_ex, fnK_ite, eVar_0, eVar_s, eC_eq, eOp_eq, eUn_eq, eAnd_eq, eOr_eq, eNot_eq, boK_bl, eIf_eq, eChain_eq, tB_eq, tbK_bl, tAnd_eq, tOr_eq, tNot_eq, aNil_eq, aCons_eq, eTup_eq, eLst_eq, new_eq, eB_eq, eCall_eq, eM_eq, eSl_eq, oNone_eq, oSome_eq, intK_int, sNil_eq, sExpr_eq, sRet_eq, sRetN_eq, sIf_eq, sAsg_eq, sRaise_eq, sBreak_eq, sCont_eq, sFor_eq, srcK_vals, iE_eq, srcOf_tup, srcOf_fl, srcOf_str, forV_nil, addM_int, addM_str, addM_tup, subM_int, mulM_int, mulM_str, modM_int, fdivM_int, powM_int, negM_int, ltM_int, leM_int, gtM_int, geM_int, eqM_int, eqM_str, eqM_bl, neM_int, neM_str, neM_bl, isM_non, isM_int, isM_str, isM_bl, isM_tup, isM_ref, inM_str, notInM_str, lenM_str, lenM_tup, lenM_fl, intM_int, tyM_str, slM_str, isiM_non, isiM_bl, isiM_int, isiM_str, isiM_tup, resK_some, obL_lst, obS_lst, optK_some, isLst_lst, appendM_eq, popM_eq, reverseM_eq, lenM_refE, ixM_refE, ixM_tupE, ixM_flE, ixM_strE, srcOf_refE, srcK_liveE, tyM_refE, get_last, set_last, sTry_eq, tryK_nx, tryK_rt, noEx_nx, noEx_rt, sTryAs_eq, tryAsK_nx, tryAsK_rt, dropS_nx, dropS_rt, onNone_none, kb_NoneType_bool, kb_NoneType_int, kb_NoneType_str, kb_NoneType_tuple, kb_NoneType_list, kb_NoneType_dict, kb_bool_bool, kb_bool_int, kb_bool_str, kb_bool_tuple, kb_bool_list, kb_bool_dict, kb_int_bool, kb_int_int, kb_int_str, kb_int_tuple, kb_int_list, kb_int_dict, kb_str_bool, kb_str_int, kb_str_str, kb_str_tuple, kb_str_list, kb_str_dict, kb_tuple_bool, kb_tuple_int, kb_tuple_str, kb_tuple_tuple, kb_tuple_list, kb_tuple_dict, kb_list_bool, kb_list_int, kb_list_str, kb_list_tuple, kb_list_list, kb_list_dict, kb_dict_bool, kb_dict_int, kb_dict_str, kb_dict_tuple, kb_dict_list, kb_dict_dict, List.map_cons, List.map_nil, List.cons_append, List.nil_append, List.length_cons, List.length_nil, Nat.reduceAdd, Nat.reduceSub, List.replicate, List.set_cons_zero, List.set_cons_succ, Bool.false_eq_true, Bool.not_true, Bool.not_false, if_true, if_false, reduceIte, decide_eq_true_eq, Bool.not_eq_true', decide_eq_false_iff_not, not_true_eq_false, not_false_eq_true, ite_not, decide_true, decide_false, eq_self_iff_true, indexSM_eq, startsM_str, endsM_str, splitM_str, iR1_eq, iR2_eq, rngK_1, rngK2_2, chr1_eq, subS_one, and_self, true_and, and_true, false_and, and_false, or_true, true_or, or_self, false_or, or_false, ne_eq])
local macro_rules | `(tactic| walk_at "evh") => `(tactic| simp only [Bool.or_true, Bool.true_or, Bool.and_self, Bool.or_self, Bool.and_true, Bool.true_and, Bool.false_or, Bool.or_false, Bool.false_and, Bool.and_false, ltG_int, ltG_str, ltG_ref, ltG_tup, memM_eq, notMemM_eq, memB_str, blK_some, nblK_some, eqM_ref, eqM_tup, neM_ref, neM_tup, isM_fl, isNotM_non, isNotM_int, isNotM_str, isNotM_bl, isNotM_tup, isNotM_ref, listM_ref, listM_tup, listM_fl, listK_lst, listK_dK, tupleM_ref, tupleM_tup, tupleM_fl, divmodM_int, strM_int, min2M_int, max2M_int, intsOf_map, sumM_ref, sortedM_ref, insertM_eq, extendM_eq, popAtM_eq, clearM_eq, indexLM_eq, tyM_list_fl, tV_eq, truK_bl, truK_non, truK_int, truK_tup, truK_ref, obB_lst, obB_dK, sAsgT_eq, tgK_some, gN_eq, gT_eq, gsCons_eq, gK_some, gsNil_eq, sSetIx_eq, setK_eq, sAug_eq, augK_some, iaddM_int, isubM_int, eListR_eq, rg1_eq, rg2_eq, rg1K_int, rg2K_int, iZip_eq, zipM_tup, zipM_ref, iRev_eq, revM_tup, revM_ref, eLc_eq, lcK_vals, lcK_live, lcK_gen, optS_some, wipeW_nil, wipeW_cons, tYs_eq, lcT_gN, turnK_ite, putK_ok, putL_lst, lcV_nil, andThen_some, srcK_gen, bd_eq, bdK_ok, bdK_ex, bdK_bad, bdK_ite, rt_eq, bad_eq, app_ite, onE_ok, onE_ex, onE_bad, onE_ite, seq_eq, seqK_nx, seqK_rt, seqK_bk, seqK_ct, seqK_ex, seqK_bad, seqK_ite, loopK_nx, loopK_ct, loopK_bk, loopK_rt, loopK_ex, loopK_bad, loopK_ite, fn_eq, fnK_rt, fnK_nx, fnK_ex, fnK_ite, eVar_0, eVar_s, eC_eq, eOp_eq, eUn_eq, eAnd_eq, eOr_eq, eNot_eq, boK_bl, eIf_eq, eChain_eq, tB_eq, tbK_bl, tAnd_eq, tOr_eq, tNot_eq, aNil_eq, aCons_eq, eTup_eq, eLst_eq, new_eq, eB_eq, eCall_eq, eM_eq, eSl_eq, oNone_eq, oSome_eq, intK_int, sNil_eq, sExpr_eq, sRet_eq, sRetN_eq, sIf_eq, sAsg_eq, sRaise_eq, sBreak_eq, sCont_eq, sFor_eq, srcK_vals, iE_eq, srcOf_tup, srcOf_fl, srcOf_str, forV_nil, addM_int, addM_str, addM_tup, subM_int, mulM_int, mulM_str, modM_int, fdivM_int, powM_int, negM_int, ltM_int, leM_int, gtM_int, geM_int, eqM_int, eqM_str, eqM_bl, neM_int, neM_str, neM_bl, isM_non, isM_int, isM_str, isM_bl, isM_tup, isM_ref, inM_str, notInM_str, lenM_str, lenM_tup, lenM_fl, intM_int, tyM_str, slM_str, isiM_non, isiM_bl, isiM_int, isiM_str, isiM_tup, resK_some, obL_lst, obS_lst, optK_some, isLst_lst, appendM_eq, popM_eq, reverseM_eq, lenM_refE, ixM_refE, ixM_tupE, ixM_flE, ixM_strE, srcOf_refE, srcK_liveE, tyM_refE, get_last, set_last, sTry_eq, tryK_nx, tryK_rt, noEx_nx, noEx_rt, sTryAs_eq, tryAsK_nx, tryAsK_rt, dropS_nx, dropS_rt, onNone_none, kb_NoneType_bool, kb_NoneType_int, kb_NoneType_str, kb_NoneType_tuple, kb_NoneType_list, kb_NoneType_dict, kb_bool_bool, kb_bool_int, kb_bool_str, kb_bool_tuple, kb_bool_list, kb_bool_dict, kb_int_bool, kb_int_int, kb_int_str, kb_int_tuple, kb_int_list, kb_int_dict, kb_str_bool, kb_str_int, kb_str_str, kb_str_tuple, kb_str_list, kb_str_dict, kb_tuple_bool, kb_tuple_int, kb_tuple_str, kb_tuple_tuple, kb_tuple_list, kb_tuple_dict, kb_list_bool, kb_list_int, kb_list_str, kb_list_tuple, kb_list_list, kb_list_dict, kb_dict_bool, kb_dict_int, kb_dict_str, kb_dict_tuple, kb_dict_list, kb_dict_dict, List.map_cons, List.map_nil, List.cons_append, List.nil_append, List.length_cons, List.length_nil, Nat.reduceAdd, Nat.reduceSub, List.replicate, List.set_cons_zero, List.set_cons_succ, Bool.false_eq_true, Bool.not_true, Bool.not_false, if_true, if_false, reduceIte, decide_eq_true_eq, Bool.not_eq_true', decide_eq_false_iff_not, not_true_eq_false, not_false_eq_true, ite_not, decide_true, decide_false, eq_self_iff_true, indexSM_eq, startsM_str, endsM_str, splitM_str, iR1_eq, iR2_eq, rngK_1, rngK2_2, chr1_eq, subS_one, and_self, true_and, and_true, false_and, and_false, or_true, true_or, or_self, false_or, or_false, ne_eq, *])
/-! ### lists of choices -/
def szs (xss : List (List PyData)) : List Int := (xss.map fun xs => (xs.length : Int)).filter fun k => decide (1 < k)
theorem szs_snoc (xss : List (List PyData)) (xs : List PyData) : szs (xss ++ [xs]) = szs xss ++ if 1 < (xs.length : Int) then [(xs.length : Int)] else [] := by
  unfold szs
  rw [List.map_append, List.filter_append]
  congr 1
  simp only [List.map_cons, List.map_nil, List.filter_cons, List.filter_nil]
  by_cases h : 1 < (xs.length : Int)
  · rw [decide_eq_true h, if_pos rfl, if_pos h]
  · rw [decide_eq_false h, if_neg Bool.false_ne_true, if_neg h]
/-- the lists stand at L -/
structure Lsts (h : List Nat) (S : Sto) (L : Nat) (ws : List W) (xss : List (List PyData)) : Prop where
  at_ : S[L]? = some (.lst ws)
  vw : Vws h S 4 ws (xss.map PyData.list)
theorem Lsts.kp {h : List Nat} {S S' : Sto} {L : Nat} {ws : List W} {xss : List (List PyData)} (a : Lsts h S L ws xss) (k : Kp [] S S') : Lsts h S' L ws xss := ⟨k.get (by simp) a.at_, a.vw.kp k.all⟩
theorem Lsts.turn {h : List Nat} {S : Sto} {L : Nat} {ws : List W} {xss : List (List PyData)} (a : Lsts h S L ws xss) {pre suf : List W} {x : W} (e : ws = pre ++ x :: suf) :
    ∃ xs items, xss[pre.length]? = some xs ∧ pre.length < xss.length ∧ xss.take (pre.length + 1) = xss.take pre.length ++ [xs] ∧ Vw h S 4 x (.list xs) ∧ Seen S false x items ∧ Vws h S 3 items xs := by
  have h1 : ws[pre.length]? = some x := by rw [e]; simp
  obtain ⟨y, h2, h3⟩ := a.vw.get h1
  rw [List.getElem?_map] at h2
  cases hx : xss[pre.length]? with
  | none => rw [hx] at h2; cases h2
  | some xs =>
    rw [hx] at h2
    cases h2
    obtain ⟨items, m, em, s1, s2, _⟩ := h3.seen
    cases em
    have hl := (List.getElem?_eq_some_iff.mp hx).1
    refine ⟨xs, items, rfl, hl, ?_, h3, s1, s2⟩
    rw [List.take_succ_eq_append_getElem hl]
    congr 2
    exact Option.some.inj ((List.getElem?_eq_getElem hl).symm.trans hx)
theorem szs_len (xss : List (List PyData)) : (szs xss).length ≤ xss.length := by
  unfold szs
  exact Nat.le_trans (List.length_filter_le _ _) (by simp)
theorem sizes_run {h : List Nat} {S : Sto} {L : Nat} {ws : List W} {xss : List (List PyData)} (a : Lsts h S L ws xss) (hl : xss.length ≤ 1000) : m_sizes_of [.ref L] S = .ok (.ref S.length) (S ++ [oI (szs xss)]) := by
  obtain ⟨T, e, hT⟩ := lcL_all (g := gN 1) (tt := tB (eOp gtM (eB lenM (aCons (eVar 1) aNil)) (eC (.int 1)))) (e := eB lenM (aCons (eVar 1) aNil)) (s0 := [some (.ref L), none]) (D := S.length) (a := L) ws
    (fun pre T => T = S ++ [oI (szs (xss.take pre.length))]) (fun pre T h => by rw [h]; exact get_old _ a.at_)
    (fun pre x suf T e hI => by
      subst hI
      obtain ⟨xs, items, h1, h2, h3, h4, h5, h6⟩ := (a.kp (Kp.app [oI (szs (xss.take pre.length))])).turn e
      have hlen := h5.len
      rw [h6.length] at hlen
      have hz : (List.map W.int (szs (xss.take pre.length))).length < sizeLine := by
        rw [List.length_map, sizeLine_n]
        have := szs_len (xss.take pre.length)
        have : (xss.take pre.length).length ≤ xss.length := by simp; omega
        omega
      refine ⟨_, ?_, rfl⟩
      rw [List.length_append, List.length_singleton, h3, szs_snoc]
      clear a h1 h2 h3 h4 h5 h6 e hl
      rw [lcT_gN]
      show turnK (tB (eOp gtM (eB lenM (aCons (eVar 1) aNil)) (eC (.int 1))) [some (.ref L), some x] _) [some (.ref L), some x] _ _ = _
      by_cases g : 1 < (xs.length : Int)
      · walk_at "evh"
        simp
      · walk_at "evh"
        simp)
    (S := S ++ [.lst []]) rfl
  subst hT
  have hw : ws.length = xss.length := by rw [a.vw.length]; simp
  have ht : xss.take ws.length = xss := by rw [hw, List.take_length]
  rw [ht] at e
  clear hw ht
  have hA := a.at_
  unfold m_sizes_of b_sizes_of
  clear a hl
  walk_at "evh"
/-- a list's items can be told apart -/
structure GoodL (xs : List PyData) : Prop where
  ne : 1 ≤ xs.length
  le : xs.length ≤ 1000
  lay : PyData.canLayAll0 xs = true
  idx : ∀ (j : Nat) (x : PyData), xs[j]? = some x → findD x xs 0 = some j
  sm : ∀ x ∈ xs, ∀ n, smD n x
theorem GoodL.lay1 {xs : List PyData} (g : GoodL xs) {x : PyData} (hx : x ∈ xs) : x.canLay0 = true := by
  have key : ∀ ys : List PyData, PyData.canLayAll0 ys = true → ∀ y ∈ ys, y.canLay0 = true := by
    intro ys
    induction ys with
    | nil => intro _ y hy; cases hy
    | cons z ys ih =>
      intro h y hy
      unfold PyData.canLayAll0 at h
      simp only [Bool.and_eq_true] at h
      rcases List.mem_cons.mp hy with rfl | hy
      · exact h.1
      · exact ih h.2 y hy
  exact key xs g.lay x hx
/-- what the indexes say of the lists with a choice -/
def noteOf : List (List PyData) → List Nat → List Int
  | xs :: xss, j :: js => (if 1 < (xs.length : Int) then [(j : Int)] else []) ++ noteOf xss js
  | _, _ => []
theorem noteOf_len : ∀ (xss : List (List PyData)) (js : List Nat), (noteOf xss js).length ≤ xss.length
  | [], _ => by simp [noteOf]
  | xs :: xss, [] => by simp [noteOf]
  | xs :: xss, j :: js => by
    unfold noteOf
    have := noteOf_len xss js
    split
    · simp; omega
    · simp; omega
def bNo : Stm := (sIf (tB (eOp gtM (eB lenM (aCons (eVar 3) aNil)) (eC (.int 1)))) (sExpr (eM "list" appendM (eVar 2) (aCons (eM "list" indexLM (eVar 3) (aCons (eVar 4) aNil)) aNil))) sNil)
theorem no_loop {h : List Nat} {S : Sto} {L c n : Nat} {ws cs : List W} (hA : S[L]? = some (.lst ws)) (hB : S[c]? = some (.lst cs)) (hn : ws.length = n) (hm : cs.length = n) (hl : n ≤ 1000) :
    ∀ (w1 w2 p1 p2 : List W) (xs1 : List (List PyData)) (ys1 : List PyData) (js : List Nat) (acc : List Int) (c3 c4 : Option W), ws = p1 ++ w1 → cs = p2 ++ w2 → Vws h S 4 w1 (xs1.map PyData.list) → Vws h S 3 w2 ys1 → w1.length = w2.length → js.length = xs1.length → acc.length + w1.length ≤ 1000 →
      (∀ (i : Nat) (xs : List PyData) (j : Nat), xs1[i]? = some xs → js[i]? = some j → GoodL xs ∧ ∃ y, ys1[i]? = some y ∧ xs[j]? = some y) →
      ∃ c3' c4', forG (tg2 3 4) bNo n (zipF (.ref L) (.ref c)) (zipC (.ref L) (.ref c) n) w1.length [some (.ref L), some (.ref c), some (.ref S.length), c3, c4] (S ++ [oI acc]) = .nx [some (.ref L), some (.ref c), some (.ref S.length), c3', c4'] (S ++ [oI (acc ++ noteOf xs1 js)])
  | [], [], _, _, xs1, ys1, js, acc, c3, c4, _, _, v1, v2, _, hj, _, _ => by
    have : xs1 = [] := by
      have := v1.length
      simp at this
      exact List.length_eq_zero_iff.mp this.symm
    subst this
    refine ⟨c3, c4, ?_⟩
    unfold noteOf
    rw [List.append_nil]
    exact zip_done (get_old _ hA) (get_old _ hB) (.inl (by omega))
  | w :: w1, v :: w2, p1, p2, xs1, ys1, js, acc, c3, c4, e1, e2, v1, v2, hl1, hj, hacc, hg => by
    cases xs1 with
    | nil => cases v1
    | cons xs xs1 =>
      cases js with
      | nil => simp at hj
      | cons j js =>
        cases v1 with
        | cons a1 a2 =>
          cases v2 with
          | @cons _ y _ ys1 b1 b2 =>
            obtain ⟨G, y', hy, hxj⟩ := hg 0 xs j rfl rfl
            cases hy
            have kp : Kp [] S (S ++ [oI acc]) := Kp.app _
            have a1' := a1.kp (kp.all (h := h))
            have b1' := b1.kp (kp.all (h := h))
            obtain ⟨items, m, em, s1, s2, _⟩ := a1'.seen
            cases em
            have h3 : ws[n - (w1.length + 1)]? = some w := by
              have : n - (w1.length + 1) = p1.length := by rw [← hn, e1]; simp
              rw [this, e1]; simp
            have h4 : cs[n - (w1.length + 1)]? = some v := by
              have : n - (w1.length + 1) = p2.length := by
                simp at hl1
                rw [← hm, e2]; simp [hl1]
              rw [this, e2]; simp
            rw [List.length_cons, zip_step (get_old _ hA) (get_old _ hB) h3 h4]
            show ∃ c3' c4', loopK (bNo [some (.ref L), some (.ref c), some (.ref S.length), some w, some v] (S ++ [oI acc])) _ = _
            have t1 : toD (S ++ [oI acc]) 40 w = some (.list xs) := toD_le (by omega) a1'.toD
            have t2 : toD (S ++ [oI acc]) 40 v = some y := toD_le (by omega) b1'.toD
            have sh1 : SeqAt.shaped (.list xs) = true := shaped_toD t1 (by omega) (by unfold PyData.canLay0; exact G.lay)
            have sh2 : SeqAt.shaped y = true := shaped_toD t2 (by omega) (G.lay1 (List.mem_of_getElem? hxj))
            have hf := G.idx j y hxj
            have hix : idxK (toD (S ++ [oI acc]) 40 w) (toD (S ++ [oI acc]) 40 v) (S ++ [oI acc]) = .ok (.int j) (S ++ [oI acc]) := by
              rw [t1, t2, idxK_some, sh1, sh2, hf]
              rfl
            have hlen := s1.len
            rw [s2.length] at hlen
            have hty := s1.ty
            simp only [Bool.not_false] at hty
            have hz : (List.map W.int acc).length < sizeLine := by
              rw [List.length_map, sizeLine_n]
              simp at hacc
              omega
            obtain ⟨acc', ea, hb⟩ : ∃ acc', acc' = acc ++ (if 1 < (xs.length : Int) then [(j : Int)] else []) ∧ bNo [some (.ref L), some (.ref c), some (.ref S.length), some w, some v] (S ++ [oI acc]) = .nx [some (.ref L), some (.ref c), some (.ref S.length), some w, some v] (S ++ [oI acc']) := by
              refine ⟨_, rfl, ?_⟩
              unfold bNo
              clear hg hA hB h3 h4 t1 t2 sh1 sh2 hf s1 s2 a1' b1' kp G hxj a1 a2 b1 b2 e1 e2 hl1 hj hacc hl hn hm
              by_cases g : 1 < (xs.length : Int)
              · walk_at "evh"
                simp
              · walk_at "evh"
                simp
            rw [hb]
            have ih := no_loop hA hB hn hm hl w1 w2 (p1 ++ [w]) (p2 ++ [v]) xs1 ys1 js acc' (some w) (some v) (by rw [e1]; simp) (by rw [e2]; simp) a2 b2 (by simpa using hl1) (by simpa using hj)
              (by
                rw [ea, List.length_append]
                simp at hacc
                split
                · simp; omega
                · simp; omega)
              (fun i xs' j' q1 q2 => hg (i + 1) xs' j' (by simpa using q1) (by simpa using q2))
            obtain ⟨c3', c4', ih⟩ := ih
            refine ⟨c3', c4', ?_⟩
            rw [show acc ++ noteOf (xs :: xs1) (j :: js) = acc' ++ noteOf xs1 js by rw [ea, List.append_assoc]; rfl]
            exact ih
  | [], _ :: _, _, _, _, _, _, _, _, _, _, _, _, _, h, _, _, _ => by simp at h
  | _ :: _, [], _, _, _, _, _, _, _, _, _, _, _, _, h, _, _, _ => by simp at h
theorem note_run {h : List Nat} {S : Sto} {L c : Nat} {ws cs : List W} {xss : List (List PyData)} {ys : List PyData} {js : List Nat} (a : Lsts h S L ws xss) (hB : S[c]? = some (.lst cs)) (hv : Vws h S 3 cs ys) (hl : xss.length ≤ 1000) (hc : cs.length = xss.length) (hj : js.length = xss.length)
    (hg : ∀ (i : Nat) (xs : List PyData) (j : Nat), xss[i]? = some xs → js[i]? = some j → GoodL xs ∧ ∃ y, ys[i]? = some y ∧ xs[j]? = some y) :
    m_note_of [.ref L, .ref c] S = .ok (.ref S.length) (S ++ [oI (noteOf xss js)]) := by
  have hw : ws.length = xss.length := by rw [a.vw.length]; simp
  obtain ⟨c3, c4, e⟩ := no_loop a.at_ hB rfl (by omega) (by omega) ws cs [] [] xss ys js [] none none rfl rfl a.vw hv (by omega) hj (by simp; omega) hg
  rw [List.nil_append] at e
  have hA := a.at_
  have hA2 : (S ++ [Ob.lst []])[L]? = some (.lst ws) := get_old _ hA
  have hB2 : (S ++ [Ob.lst []])[c]? = some (.lst cs) := get_old _ hB
  have e3 : min ws.length cs.length = ws.length := by omega
  have hz : 0 ≤ sizeLine := Nat.zero_le _
  have e' : forG (tg2 3 4) bNo ws.length (zipF (.ref L) (.ref c)) (zipC (.ref L) (.ref c) ws.length) ws.length [some (.ref L), some (.ref c), some (.ref S.length), none, none] (S ++ [Ob.lst []]) = .nx [some (.ref L), some (.ref c), some (.ref S.length), c3, c4] (S ++ [oI (noteOf xss js)]) := e
  unfold bNo at e'
  unfold m_note_of b_note_of
  clear e a hv hl hc hj hg hw hA hB
  walk_at "evh"

end Lw_k16

namespace Lw_k16
open PySem Fr
local macro_rules | `(tactic| walk_at "ev") => `(tactic| simp only [Bool.or_true, Bool.true_or, Bool.and_self, Bool.or_self, Bool.and_true, Bool.true_and, Bool.false_or, Bool.or_false, Bool.false_and, Bool.and_false, ltG_int, ltG_str, ltG_ref, ltG_tup, memM_eq, notMemM_eq, memB_str, blK_some, nblK_some, eqM_ref, eqM_tup, neM_ref, neM_tup, isM_fl, isNotM_non, isNotM_int, isNotM_str, isNotM_bl, isNotM_tup, isNotM_ref, listM_ref, listM_tup, listM_fl, listK_lst, listK_dK, tupleM_ref, tupleM_tup, tupleM_fl, divmodM_int, strM_int, min2M_int, max2M_int, intsOf_map, sumM_ref, sortedM_ref, insertM_eq, extendM_eq, popAtM_eq, clearM_eq, indexLM_eq, tyM_list_fl, tV_eq, truK_bl, truK_non, truK_int, truK_tup, truK_ref, obB_lst, obB_dK, sAsgT_eq, tgK_some, gN_eq, gT_eq, gsCons_eq, gK_some, gsNil_eq, sSetIx_eq, setK_eq, sAug_eq, augK_some, iaddM_int, isubM_int, eListR_eq, rg1_eq, rg2_eq, rg1K_int, rg2K_int, iZip_eq, zipM_tup, zipM_ref, iRev_eq, revM_tup, revM_ref, eLc_eq, lcK_vals, lcK_live, lcK_gen, optS_some, wipeW_nil, wipeW_cons, tYs_eq, lcT_gN, turnK_ite, putK_ok, putL_lst, lcV_nil, andThen_some, srcK_gen, bd_eq, bdK_ok, bdK_ex, bdK_bad, bdK_ite, rt_eq, bad_eq, app_ite, onE_ok, onE_ex, onE_bad, onE_ite, seq_eq, seqK_nx, seqK_rt, seqK_bk, seqK_ct, seqK_ex, seqK_bad, seqK_ite, loopK_nx, loopK_ct, loopK_bk, loopK_rt, loopK_ex, loopK_bad, loopK_ite, fn_eq, fnK_rt, fnK_nx, fnK_ex, fnK_ite, eVar_0, eVar_s, eC_eq, eOp_eq, eUn_eq, eAnd_eq, eOr_eq, eNot_eq, boK_bl, eIf_eq, eChain_eq, tB_eq, tbK_bl, tAnd_eq, tOr_eq, tNot_eq, aNil_eq, aCons_eq, eTup_eq, eLst_eq, new_eq, eB_eq, eCall_eq, eM_eq, eSl_eq, oNone_eq, oSome_eq, intK_int, sNil_eq, sExpr_eq, sRet_eq, sRetN_eq, sIf_eq, sAsg_eq, sRaise_eq, sBreak_eq, sCont_eq, sFor_eq, srcK_vals, iE_eq, srcOf_tup, srcOf_fl, srcOf_str, forV_nil, addM_int, addM_str, addM_tup, subM_int, mulM_int, mulM_str, modM_int, fdivM_int, powM_int, negM_int, ltM_int, leM_int, gtM_int, geM_int, eqM_int, eqM_str, eqM_bl, neM_int, neM_str, neM_bl, isM_non, isM_int, isM_str, isM_bl, isM_tup, isM_ref, inM_str, notInM_str, lenM_str, lenM_tup, lenM_fl, intM_int, tyM_str, slM_str, isiM_non, isiM_bl, isiM_int, isiM_str, isiM_tup, resK_some, obL_lst, obS_lst, optK_some, isLst_lst, appendM_eq, popM_eq, reverseM_eq, lenM_refE, ixM_refE, ixM_tupE, ixM_flE, ixM_strE, srcOf_refE, srcK_liveE, tyM_refE, get_last, set_last, sTry_eq, tryK_nx, tryK_rt, noEx_nx, noEx_rt, sTryAs_eq, tryAsK_nx, tryAsK_rt, dropS_nx, dropS_rt, onNone_none, kb_NoneType_bool, kb_NoneType_int, kb_NoneType_str, kb_NoneType_tuple, kb_NoneType_list, kb_NoneType_dict, kb_bool_bool, kb_bool_int, kb_bool_str, kb_bool_tuple, kb_bool_list, kb_bool_dict, kb_int_bool, kb_int_int, kb_int_str, kb_int_tuple, kb_int_list, kb_int_dict, kb_str_bool, kb_str_int, kb_str_str, kb_str_tuple, kb_str_list, kb_str_dict, kb_tuple_bool, kb_tuple_int, kb_tuple_str, kb_tuple_tuple, kb_tuple_list, kb_tuple_dict, kb_list_bool, kb_list_int, kb_list_str, kb_list_tuple, kb_list_list, kb_list_dict, kb_dict_bool, kb_dict_int, kb_dict_str, kb_dict_tuple, kb_dict_list, kb_dict_dict, List.map_cons, List.map_nil, List.cons_append, List.nil_append, List.length_cons, List.length_nil, Nat.reduceAdd, Nat.reduceSub, List.replicate, List.set_cons_zero, List.set_cons_succ, Bool.false_eq_true, Bool.not_true, Bool.not_false, if_true, if_false, reduceIte, decide_eq_true_eq, Bool.not_eq_true', decide_eq_false_iff_not, not_true_eq_false, not_false_eq_true, ite_not, decide_true, decide_false, eq_self_iff_true, indexSM_eq, startsM_str, endsM_str, splitM_str, iR1_eq, iR2_eq, rngK_1, rngK2_2, chr1_eq, subS_one, and_self, true_and, and_true, false_and, and_false, or_true, true_or, or_self, false_or, or_false, ne_eq])
local macro_rules | `(tactic| walk_at "evh") => `(tactic| simp only [Bool.or_true, Bool.true_or, Bool.and_self, Bool.or_self, Bool.and_true, Bool.true_and, Bool.false_or, Bool.or_false, Bool.false_and, Bool.and_false, ltG_int, ltG_str, ltG_ref, ltG_tup, memM_eq, notMemM_eq, memB_str, blK_some, nblK_some, eqM_ref, eqM_tup, neM_ref, neM_tup, isM_fl, isNotM_non, isNotM_int, isNotM_str, isNotM_bl, isNotM_tup, isNotM_ref, listM_ref, listM_tup, listM_fl, listK_lst, listK_dK, tupleM_ref, tupleM_tup, tupleM_fl, divmodM_int, strM_int, min2M_int, max2M_int, intsOf_map, sumM_ref, sortedM_ref, insertM_eq, extendM_eq, popAtM_eq, clearM_eq, indexLM_eq, tyM_list_fl, tV_eq, truK_bl, truK_non, truK_int, truK_tup, truK_ref, obB_lst, obB_dK, sAsgT_eq, tgK_some, gN_eq, gT_eq, gsCons_eq, gK_some, gsNil_eq, sSetIx_eq, setK_eq, sAug_eq, augK_some, iaddM_int, isubM_int, eListR_eq, rg1_eq, rg2_eq, rg1K_int, rg2K_int, iZip_eq, zipM_tup, zipM_ref, iRev_eq, revM_tup, revM_ref, eLc_eq, lcK_vals, lcK_live, lcK_gen, optS_some, wipeW_nil, wipeW_cons, tYs_eq, lcT_gN, turnK_ite, putK_ok, putL_lst, lcV_nil, andThen_some, srcK_gen, bd_eq, bdK_ok, bdK_ex, bdK_bad, bdK_ite, rt_eq, bad_eq, app_ite, onE_ok, onE_ex, onE_bad, onE_ite, seq_eq, seqK_nx, seqK_rt, seqK_bk, seqK_ct, seqK_ex, seqK_bad, seqK_ite, loopK_nx, loopK_ct, loopK_bk, loopK_rt, loopK_ex, loopK_bad, loopK_ite, fn_eq, fnK_rt, fnK_nx, fnK_ex, fnK_ite, eVar_0, eVar_s, eC_eq, eOp_eq, eUn_eq, eAnd_eq, eOr_eq, eNot_eq, boK_bl, eIf_eq, eChain_eq, tB_eq, tbK_bl, tAnd_eq, tOr_eq, tNot_eq, aNil_eq, aCons_eq, eTup_eq, eLst_eq, new_eq, eB_eq, eCall_eq, eM_eq, eSl_eq, oNone_eq, oSome_eq, intK_int, sNil_eq, sExpr_eq, sRet_eq, sRetN_eq, sIf_eq, sAsg_eq, sRaise_eq, sBreak_eq, sCont_eq, sFor_eq, srcK_vals, iE_eq, srcOf_tup, srcOf_fl, srcOf_str, forV_nil, addM_int, addM_str, addM_tup, subM_int, mulM_int, mulM_str, modM_int, fdivM_int, powM_int, negM_int, ltM_int, leM_int, gtM_int, geM_int, eqM_int, eqM_str, eqM_bl, neM_int, neM_str, neM_bl, isM_non, isM_int, isM_str, isM_bl, isM_tup, isM_ref, inM_str, notInM_str, lenM_str, lenM_tup, lenM_fl, intM_int, tyM_str, slM_str, isiM_non, isiM_bl, isiM_int, isiM_str, isiM_tup, resK_some, obL_lst, obS_lst, optK_some, isLst_lst, appendM_eq, popM_eq, reverseM_eq, lenM_refE, ixM_refE, ixM_tupE, ixM_flE, ixM_strE, srcOf_refE, srcK_liveE, tyM_refE, get_last, set_last, sTry_eq, tryK_nx, tryK_rt, noEx_nx, noEx_rt, sTryAs_eq, tryAsK_nx, tryAsK_rt, dropS_nx, dropS_rt, onNone_none, kb_NoneType_bool, kb_NoneType_int, kb_NoneType_str, kb_NoneType_tuple, kb_NoneType_list, kb_NoneType_dict, kb_bool_bool, kb_bool_int, kb_bool_str, kb_bool_tuple, kb_bool_list, kb_bool_dict, kb_int_bool, kb_int_int, kb_int_str, kb_int_tuple, kb_int_list, kb_int_dict, kb_str_bool, kb_str_int, kb_str_str, kb_str_tuple, kb_str_list, kb_str_dict, kb_tuple_bool, kb_tuple_int, kb_tuple_str, kb_tuple_tuple, kb_tuple_list, kb_tuple_dict, kb_list_bool, kb_list_int, kb_list_str, kb_list_tuple, kb_list_list, kb_list_dict, kb_dict_bool, kb_dict_int, kb_dict_str, kb_dict_tuple, kb_dict_list, kb_dict_dict, List.map_cons, List.map_nil, List.cons_append, List.nil_append, List.length_cons, List.length_nil, Nat.reduceAdd, Nat.reduceSub, List.replicate, List.set_cons_zero, List.set_cons_succ, Bool.false_eq_true, Bool.not_true, Bool.not_false, if_true, if_false, reduceIte, decide_eq_true_eq, Bool.not_eq_true', decide_eq_false_iff_not, not_true_eq_false, not_false_eq_true, ite_not, decide_true, decide_false, eq_self_iff_true, indexSM_eq, startsM_str, endsM_str, splitM_str, iR1_eq, iR2_eq, rngK_1, rngK2_2, chr1_eq, subS_one, and_self, true_and, and_true, false_and, and_false, or_true, true_or, or_self, false_or, or_false, ne_eq, *])
/-! ### chosen_by -/
def InJ : List (List PyData) → List Nat → Prop
  | [], [] => True
  | xs :: xss, j :: js => j < xs.length ∧ InJ xss js
  | _, _ => False
def chJ : List (List PyData) → List Nat → List PyData
  | xs :: xss, j :: js => xs.getD j .none :: chJ xss js
  | _, _ => []
theorem InJ.len : ∀ {xss : List (List PyData)} {js : List Nat}, InJ xss js → js.length = xss.length
  | [], [], _ => rfl
  | _ :: _, _ :: _, h => by simp [InJ.len h.2]
  | [], _ :: _, h => False.elim h
  | _ :: _, [], h => False.elim h
theorem chJ_len : ∀ {xss : List (List PyData)} {js : List Nat}, InJ xss js → (chJ xss js).length = xss.length
  | [], [], _ => rfl
  | _ :: _, _ :: _, h => by simp [chJ, chJ_len h.2]
  | [], _ :: _, h => False.elim h
  | _ :: _, [], h => False.elim h
theorem chJ_at : ∀ {xss : List (List PyData)} {js : List Nat}, InJ xss js → ∀ (i : Nat) (xs : List PyData) (j : Nat), xss[i]? = some xs → js[i]? = some j → ∃ y, (chJ xss js)[i]? = some y ∧ xs[j]? = some y
  | [], [], _, _, _, _, h, _ => by simp at h
  | xs :: xss, j :: js, h, 0, xs', j', h1, h2 => by
    simp at h1 h2
    subst h1; subst h2
    refine ⟨xs.getD j .none, rfl, ?_⟩
    rw [List.getElem?_eq_getElem h.1, List.getD_eq_getElem?_getD, List.getElem?_eq_getElem h.1]
    rfl
  | xs :: xss, j :: js, h, i + 1, xs', j', h1, h2 => by
    obtain ⟨y, q1, q2⟩ := chJ_at h.2 i xs' j' (by simpa using h1) (by simpa using h2)
    exact ⟨y, by simpa [chJ] using q1, q2⟩
  | [], _ :: _, h, _, _, _, _, _ => False.elim h
  | _ :: _, [], h, _, _, _, _, _ => False.elim h
theorem szs_cons (xs : List PyData) (xss : List (List PyData)) : szs (xs :: xss) = (if 1 < (xs.length : Int) then [(xs.length : Int)] else []) ++ szs xss := by
  unfold szs
  rw [List.map_cons, List.filter_cons]
  by_cases h : 1 < (xs.length : Int)
  · rw [decide_eq_true h, if_pos rfl, if_pos h]; rfl
  · rw [decide_eq_false h, if_neg Bool.false_ne_true, if_neg h]; rfl
theorem noteOf_ok : ∀ {xss : List (List PyData)} {js : List Nat}, InJ xss js → okN (szs xss) (noteOf xss js) = true
  | [], [], _ => rfl
  | xs :: xss, j :: js, h => by
    have ih := noteOf_ok h.2
    rw [szs_cons]
    show okN _ ((if 1 < (xs.length : Int) then [(j : Int)] else []) ++ noteOf xss js) = true
    by_cases g : 1 < (xs.length : Int)
    · rw [if_pos g, if_pos g]
      show (decide (0 ≤ (j : Int) ∧ (j : Int) < xs.length) && okN (szs xss) (noteOf xss js)) = true
      have := h.1
      rw [ih, decide_eq_true (by omega)]
      rfl
    · rw [if_neg g, if_neg g]; exact ih
  | [], _ :: _, h => False.elim h
  | _ :: _, [], h => False.elim h
/-- a note that fits says which item of each list -/
theorem note_js : ∀ {xss : List (List PyData)} {note : List Int}, (∀ xs ∈ xss, 1 ≤ xs.length) → okN (szs xss) note = true → ∃ js, InJ xss js ∧ noteOf xss js = note
  | [], note, _, h => by
    cases note with
    | nil => exact ⟨[], trivial, rfl⟩
    | cons d ds => cases h
  | xs :: xss, note, hx, h => by
    rw [szs_cons] at h
    by_cases g : 1 < (xs.length : Int)
    · rw [if_pos g] at h
      cases note with
      | nil => cases h
      | cons d ds =>
        have h' : (decide (0 ≤ d ∧ d < xs.length) && okN (szs xss) ds) = true := h
        simp only [Bool.and_eq_true, decide_eq_true_eq] at h'
        obtain ⟨js, q1, q2⟩ := note_js (fun ys hy => hx ys (List.mem_cons_of_mem _ hy)) h'.2
        refine ⟨d.toNat :: js, ⟨by omega, q1⟩, ?_⟩
        show (if 1 < (xs.length : Int) then [(d.toNat : Int)] else []) ++ noteOf xss js = _
        rw [if_pos g, q2, Int.toNat_of_nonneg h'.1.1]
        rfl
    · rw [if_neg g] at h
      obtain ⟨js, q1, q2⟩ := note_js (fun ys hy => hx ys (List.mem_cons_of_mem _ hy)) h
      refine ⟨0 :: js, ⟨by have := hx xs (by simp); omega, q1⟩, ?_⟩
      show (if 1 < (xs.length : Int) then [((0 : Nat) : Int)] else []) ++ noteOf xss js = _
      rw [if_neg g, q2]
      rfl
def bCh : Stm := (sIf (tB (eOp gtM (eB lenM (aCons (eVar 4) aNil)) (eC (.int 1)))) (sExpr (eM "list" appendM (eVar 3) (aCons (eOp ixM (eVar 4) (eM "list" popAtM (eVar 2) (aCons (eC (.int 0)) aNil))) aNil))) (sExpr (eM "list" appendM (eVar 3) (aCons (eOp ixM (eVar 4) (eC (.int 0))) aNil))))
theorem ch_loop {h : List Nat} {S : Sto} {L c n : Nat} {ws : List W} (hA : S[L]? = some (.lst ws)) (hn : ws.length = n) :
    ∀ (w1 p1 : List W) (xs1 : List (List PyData)) (js : List Nat) (acc : List W) (ad : List PyData) (c4 : Option W) (T : Sto), ws = p1 ++ w1 → Vws h S 4 w1 (xs1.map PyData.list) → InJ xs1 js → acc.length + w1.length ≤ 1000 → T.length = S.length + 3 → T[S.length + 1]? = some (oI (noteOf xs1 js)) → T[S.length + 2]? = some (.lst acc) → Kp [] S T → Vws h S 3 acc ad →
      ∃ c4' T' acc', forL (gN 4) bCh L n w1.length [some (.ref L), some (.ref c), some (.ref (S.length + 1)), some (.ref (S.length + 2)), c4] T = .nx [some (.ref L), some (.ref c), some (.ref (S.length + 1)), some (.ref (S.length + 2)), c4'] T' ∧ T'.length = S.length + 3 ∧ T'[S.length + 2]? = some (.lst acc') ∧ Kp [] S T' ∧ Vws h S 3 acc' (ad ++ chJ xs1 js)
  | [], p1, xs1, js, acc, ad, c4, T, e1, v1, hj, hacc, hT0, hT1, hT2, hk, va => by
    have : xs1 = [] := by
      have := v1.length
      simp at this
      exact List.length_eq_zero_iff.mp this.symm
    subst this
    refine ⟨c4, T, acc, forL_done _ L n _ ws _ T (hk.get (by simp) hA) hn, hT0, hT2, hk, ?_⟩
    unfold chJ
    rw [List.append_nil]
    exact va
  | w :: w1, p1, xs1, js, acc, ad, c4, T, e1, v1, hj, hacc, hT0, hT1, hT2, hk, va => by
    cases xs1 with
    | nil => cases v1
    | cons xs xs1 =>
      cases js with
      | nil => exact False.elim hj
      | cons j js =>
        cases v1 with
        | cons a1 a2 =>
          obtain ⟨items, m, em, s1, s2, gl⟩ := (a1.kp (hk.all (h := h))).seen
          cases em
          obtain ⟨items0, m0, em0, s10, s20, gl0⟩ := a1.seen
          cases em0
          have hit : items = items0 := by
            have t1 := gl
            -- the same object, read in both stores
            cases w with
            | fl q => cases gl; cases gl0; rfl
            | ref k =>
              have hk0 := a1.ref_inv
              obtain ⟨q1, q2, q3, q4, q5, _⟩ := hk0
              have q6 : T[k]? = some (.lst q1) := hk.get (by simp) q5
              unfold getL at gl gl0
              simp only [q5] at gl0
              simp only [q6] at gl
              cases gl; cases gl0; rfl
            | _ => cases gl
          subst hit
          have hA' : T[L]? = some (.lst (p1 ++ w :: w1)) := by rw [← e1]; exact hk.get (by simp) hA
          rw [List.length_cons, forL_step 4 L n bCh p1 w1 w _ T hA' (by rw [← e1]; exact hn)]
          have hjl : j < items.length := by rw [s20.length]; exact hj.1
          obtain ⟨u, hgi⟩ : ∃ u, items[j]? = some u := ⟨_, List.getElem?_eq_getElem hjl⟩
          obtain ⟨y, hy1, hy2⟩ := s20.get hgi
          have hyd : xs.getD j .none = y := by rw [List.getD_eq_getElem?_getD, hy1]; rfl
          have hlen := s1.len
          rw [s2.length] at hlen
          have hz : acc.length < sizeLine := by rw [sizeLine_n]; simp at hacc; omega
          have hty3 : tyM "list" (.ref (S.length + 2)) T = true := by rw [tyM_refE, hT2]; rfl
          show ∃ c4' T' acc', loopK (bCh [some (.ref L), some (.ref c), some (.ref (S.length + 1)), some (.ref (S.length + 2)), some w] T) _ = _ ∧ _
          by_cases g : 1 < (xs.length : Int)
          · have hno : noteOf (xs :: xs1) (j :: js) = (j : Int) :: noteOf xs1 js := by
              show (if 1 < (xs.length : Int) then [(j : Int)] else []) ++ noteOf xs1 js = _
              rw [if_pos g]; rfl
            rw [hno] at hT1
            let T1 := T.set (S.length + 1) (oI (noteOf xs1 js))
            have hb : bCh [some (.ref L), some (.ref c), some (.ref (S.length + 1)), some (.ref (S.length + 2)), some w] T = .nx [some (.ref L), some (.ref c), some (.ref (S.length + 1)), some (.ref (S.length + 2)), some w] (T1.set (S.length + 2) (.lst (acc ++ [u]))) := by
              have hi : L2.ixN ((List.map W.int (noteOf xs1 js)).length + 1) 0 = some 0 := by
                unfold L2.ixN
                rw [if_pos (by omega), if_pos (by omega)]
                rfl
              have hi2 : (W.int (j : Int) :: List.map W.int (noteOf xs1 js))[0]? = some (W.int (j : Int)) := rfl
              have hi3 : (W.int (j : Int) :: List.map W.int (noteOf xs1 js)).eraseIdx 0 = List.map W.int (noteOf xs1 js) := rfl
              have hi4 : inR 9223372036854775807 0 = true := rfl
              have hT1' : T.set (S.length + 1) (.lst (List.map W.int (noteOf xs1 js))) = T1 := rfl
              have k1 : Kp [] S T1 := hk.new (Nat.le_succ _)
              obtain ⟨it2, m2, em2, s12, s22, gl2⟩ := (a1.kp (k1.all (h := h))).seen
              have hit2 : it2 = items := by
                cases w with
                | fl q => cases gl; cases gl2; rfl
                | ref k =>
                  obtain ⟨q1, q2, q3, q4, q5, _⟩ := a1.ref_inv
                  have q6 : T[k]? = some (.lst q1) := hk.get (by simp) q5
                  have q7 : T1[k]? = some (.lst q1) := k1.get (by simp) q5
                  unfold getL at gl gl2
                  simp only [q7] at gl2
                  simp only [q6] at gl
                  cases gl; cases gl2; rfl
                | _ => cases gl
              subst hit2
              have hix := s12.ix (j : Int)
              rw [atI_nat, hgi] at hix
              have h2' : T1[S.length + 2]? = some (.lst acc) := by
                show (T.set (S.length + 1) _)[S.length + 2]? = _
                rw [List.getElem?_set_ne (by omega)]; exact hT2
              unfold bCh
              clear a1 a2 va hk hA hA' e1 hT0 s1 s2 s12 s22 s10 s20 gl gl2 gl0 hj hjl hgi hy1 hy2 hyd hacc k1 hno em2 hty3
              clear_value T1
              walk_at "evh"
            rw [hb]
            obtain ⟨c4', T', acc', q1, q2, q3, q4, q5⟩ := ch_loop (c := c) hA hn w1 (p1 ++ [w]) xs1 js (acc ++ [u]) (ad ++ [y]) (some w) (T1.set (S.length + 2) (.lst (acc ++ [u]))) (by rw [e1]; simp) a2 hj.2 (by simp at hacc ⊢; omega) (by simp [T1, hT0])
              (by rw [List.getElem?_set_ne (by omega)]; exact set_get hT1) (set_get (by show (T.set (S.length + 1) _)[S.length + 2]? = some (.lst acc); rw [List.getElem?_set_ne (by omega)]; exact hT2)) ((hk.new (Nat.le_succ _)).new (by omega)) (va.append (.cons hy2 .nil))
            refine ⟨c4', T', acc', q1, q2, q3, q4, ?_⟩
            show Vws h S 3 acc' (ad ++ (xs.getD j .none :: chJ xs1 js))
            rw [hyd]
            simpa using q5
          · have hno : noteOf (xs :: xs1) (j :: js) = noteOf xs1 js := by
              show (if 1 < (xs.length : Int) then [(j : Int)] else []) ++ noteOf xs1 js = _
              rw [if_neg g]; rfl
            rw [hno] at hT1
            have hj0 : j = 0 := by have := hj.1; omega
            have hix := s1.ix 0
            have e0 : L2.atI items (0 : Int) = some u := by
              have := atI_nat items 0
              rw [show ((0 : Nat) : Int) = 0 from rfl] at this
              rw [this, ← hgi, hj0]
            rw [e0] at hix
            have hb : bCh [some (.ref L), some (.ref c), some (.ref (S.length + 1)), some (.ref (S.length + 2)), some w] T = .nx [some (.ref L), some (.ref c), some (.ref (S.length + 1)), some (.ref (S.length + 2)), some w] (T.set (S.length + 2) (.lst (acc ++ [u]))) := by
              unfold bCh
              clear a1 a2 va hk hA hA' e1 hT1 hT0 s1 s2 s10 s20 gl gl0 hj hjl hgi hy1 hy2 hyd hacc e0 hno hj0 hty3
              walk_at "evh"
            rw [hb]
            obtain ⟨c4', T', acc', q1, q2, q3, q4, q5⟩ := ch_loop (c := c) hA hn w1 (p1 ++ [w]) xs1 js (acc ++ [u]) (ad ++ [y]) (some w) (T.set (S.length + 2) (.lst (acc ++ [u]))) (by rw [e1]; simp) a2 hj.2 (by simp at hacc ⊢; omega) (by simp [hT0])
              (by rw [List.getElem?_set_ne (by omega)]; exact hT1) (set_get hT2) (hk.new (by omega)) (va.append (.cons hy2 .nil))
            refine ⟨c4', T', acc', q1, q2, q3, q4, ?_⟩
            show Vws h S 3 acc' (ad ++ (xs.getD j .none :: chJ xs1 js))
            rw [hyd]
            simpa using q5
theorem chosen_ok {h : List Nat} {S : Sto} {L c : Nat} {ws : List W} {xss : List (List PyData)} {js : List Nat} (a : Lsts h S L ws xss) (hc : S[c]? = some (oI (noteOf xss js))) (hl : xss.length ≤ 1000) (hj : InJ xss js) :
    ∃ T cw, m_chosen_by [.ref L, .ref c] S = .ok (.ref (S.length + 2)) T ∧ T[S.length + 2]? = some (.lst cw) ∧ Vws h T 3 cw (chJ xss js) ∧ Kp [] S T := by
  have hs := sizes_run a hl
  have hw : ws.length = xss.length := by rw [a.vw.length]; simp
  have hck := check_ok (S := S ++ [oI (szs xss)]) (a := S.length) (b := c) (get_last _ _) (get_old _ hc) (noteOf_ok hj)
  let T0 : Sto := S ++ [oI (szs xss)] ++ [oI (noteOf xss js)] ++ [.lst []]
  have hk0 : Kp [] S T0 := ((Kp.app _).trans (Kp.app _)).trans (Kp.app _)
  obtain ⟨c4', T', acc', q1, q2, q3, q4, q5⟩ := ch_loop (c := c) a.at_ rfl ws [] xss js [] [] none T0 rfl a.vw hj (by simp; omega) (by simp [T0]) (by simp [T0]) (by simp [T0]) hk0 .nil
  refine ⟨T', acc', ?_, q3, (by rw [List.nil_append] at q5; exact q5.kp q4.all), q4⟩
  have hA : T0[L]? = some (.lst ws) := hk0.get (by simp) a.at_
  have hc1 : (S ++ [oI (szs xss)])[c]? = some (oI (noteOf xss js)) := get_old _ hc
  have el : (S ++ [oI (szs xss)]).length = S.length + 1 := by simp
  have el2 : (S ++ [oI (szs xss)] ++ [oI (noteOf xss js)]).length = S.length + 2 := by simp
  have hz : 0 ≤ sizeLine := Nat.zero_le _
  unfold m_chosen_by b_chosen_by
  unfold bCh at q1
  simp only [T0] at q1 hA
  clear a hl hj hw hk0 q2 q3 q4 q5 hc
  walk_at "evh"
theorem chosen_no {h : List Nat} {S : Sto} {L c : Nat} {ws : List W} {xss : List (List PyData)} {note : List Int} (a : Lsts h S L ws xss) (hc : S[c]? = some (oI note)) (hl : xss.length ≤ 1000) (hj : okN (szs xss) note = false) :
    ∃ T, m_chosen_by [.ref L, .ref c] S = .ex (Str.ofString "InvalidNote") none T ∧ Kp [] S T := by
  have hs := sizes_run a hl
  have hck := check_no (S := S ++ [oI (szs xss)]) (a := S.length) (b := c) (get_last _ _) (get_old _ hc) hj
  refine ⟨_, ?_, Kp.app [oI (szs xss)]⟩
  unfold m_chosen_by b_chosen_by
  clear a hc hl hj
  walk_at "evh"

end Lw_k16

namespace Lw_k16
open PySem Fr
local macro_rules | `(tactic| walk_at "ev") => `(tactic| simp only [Bool.or_true, Bool.true_or, Bool.and_self, Bool.or_self, Bool.and_true, Bool.true_and, Bool.false_or, Bool.or_false, Bool.false_and, Bool.and_false, ltG_int, ltG_str, ltG_ref, ltG_tup, memM_eq, notMemM_eq, memB_str, blK_some, nblK_some, eqM_ref, eqM_tup, neM_ref, neM_tup, isM_fl, isNotM_non, isNotM_int, isNotM_str, isNotM_bl, isNotM_tup, isNotM_ref, listM_ref, listM_tup, listM_fl, listK_lst, listK_dK, tupleM_ref, tupleM_tup, tupleM_fl, divmodM_int, strM_int, min2M_int, max2M_int, intsOf_map, sumM_ref, sortedM_ref, insertM_eq, extendM_eq, popAtM_eq, clearM_eq, indexLM_eq, tyM_list_fl, tV_eq, truK_bl, truK_non, truK_int, truK_tup, truK_ref, obB_lst, obB_dK, sAsgT_eq, tgK_some, gN_eq, gT_eq, gsCons_eq, gK_some, gsNil_eq, sSetIx_eq, setK_eq, sAug_eq, augK_some, iaddM_int, isubM_int, eListR_eq, rg1_eq, rg2_eq, rg1K_int, rg2K_int, iZip_eq, zipM_tup, zipM_ref, iRev_eq, revM_tup, revM_ref, eLc_eq, lcK_vals, lcK_live, lcK_gen, optS_some, wipeW_nil, wipeW_cons, tYs_eq, lcT_gN, turnK_ite, putK_ok, putL_lst, lcV_nil, andThen_some, srcK_gen, bd_eq, bdK_ok, bdK_ex, bdK_bad, bdK_ite, rt_eq, bad_eq, app_ite, onE_ok, onE_ex, onE_bad, onE_ite, seq_eq, seqK_nx, seqK_rt, seqK_bk, seqK_ct, seqK_ex, seqK_bad, seqK_ite, loopK_nx, loopK_ct, loopK_bk, loopK_rt, loopK_ex, loopK_bad, loopK_ite, fn_eq, fnK_rt, fnK_nx, fnK_ex, fnK_ite, eVar_0, eVar_s, eC_eq, eOp_eq, eUn_eq, eAnd_eq, eOr_eq, eNot_eq, boK_bl, eIf_eq, eChain_eq, tB_eq, tbK_bl, tAnd_eq, tOr_eq, tNot_eq, aNil_eq, aCons_eq, eTup_eq, eLst_eq, new_eq, eB_eq, eCall_eq, eM_eq, eSl_eq, oNone_eq, oSome_eq, intK_int, sNil_eq, sExpr_eq, sRet_eq, sRetN_eq, sIf_eq, sAsg_eq, sRaise_eq, sBreak_eq, sCont_eq, sFor_eq, srcK_vals, iE_eq, srcOf_tup, srcOf_fl, srcOf_str, forV_nil, addM_int, addM_str, addM_tup, subM_int, mulM_int, mulM_str, modM_int, fdivM_int, powM_int, negM_int, ltM_int, leM_int, gtM_int, geM_int, eqM_int, eqM_str, eqM_bl, neM_int, neM_str, neM_bl, isM_non, isM_int, isM_str, isM_bl, isM_tup, isM_ref, inM_str, notInM_str, lenM_str, lenM_tup, lenM_fl, intM_int, tyM_str, slM_str, isiM_non, isiM_bl, isiM_int, isiM_str, isiM_tup, resK_some, obL_lst, obS_lst, optK_some, isLst_lst, appendM_eq, popM_eq, reverseM_eq, lenM_refE, ixM_refE, ixM_tupE, ixM_flE, ixM_strE, srcOf_refE, srcK_liveE, tyM_refE, get_last, set_last, sTry_eq, tryK_nx, tryK_rt, noEx_nx, noEx_rt, sTryAs_eq, tryAsK_nx, tryAsK_rt, dropS_nx, dropS_rt, onNone_none, kb_NoneType_bool, kb_NoneType_int, kb_NoneType_str, kb_NoneType_tuple, kb_NoneType_list, kb_NoneType_dict, kb_bool_bool, kb_bool_int, kb_bool_str, kb_bool_tuple, kb_bool_list, kb_bool_dict, kb_int_bool, kb_int_int, kb_int_str, kb_int_tuple, kb_int_list, kb_int_dict, kb_str_bool, kb_str_int, kb_str_str, kb_str_tuple, kb_str_list, kb_str_dict, kb_tuple_bool, kb_tuple_int, kb_tuple_str, kb_tuple_tuple, kb_tuple_list, kb_tuple_dict, kb_list_bool, kb_list_int, kb_list_str, kb_list_tuple, kb_list_list, kb_list_dict, kb_dict_bool, kb_dict_int, kb_dict_str, kb_dict_tuple, kb_dict_list, kb_dict_dict, List.map_cons, List.map_nil, List.cons_append, List.nil_append, List.length_cons, List.length_nil, Nat.reduceAdd, Nat.reduceSub, List.replicate, List.set_cons_zero, List.set_cons_succ, Bool.false_eq_true, Bool.not_true, Bool.not_false, if_true, if_false, reduceIte, decide_eq_true_eq, Bool.not_eq_true', decide_eq_false_iff_not, not_true_eq_false, not_false_eq_true, ite_not, decide_true, decide_false, eq_self_iff_true, indexSM_eq, startsM_str, endsM_str, splitM_str, iR1_eq, iR2_eq, rngK_1, rngK2_2, chr1_eq, subS_one, and_self, true_and, and_true, false_and, and_false, or_true, true_or, or_self, false_or, or_false, ne_eq])
local macro_rules | `(tactic| walk_at "evh") => `(tactic| simp only [Bool.or_true, Bool.true_or, Bool.and_self, Bool.or_self, Bool.and_true, Bool.true_and, Bool.false_or, Bool.or_false, Bool.false_and, Bool.and_false, ltG_int, ltG_str, ltG_ref, ltG_tup, memM_eq, notMemM_eq, memB_str, blK_some, nblK_some, eqM_ref, eqM_tup, neM_ref, neM_tup, isM_fl, isNotM_non, isNotM_int, isNotM_str, isNotM_bl, isNotM_tup, isNotM_ref, listM_ref, listM_tup, listM_fl, listK_lst, listK_dK, tupleM_ref, tupleM_tup, tupleM_fl, divmodM_int, strM_int, min2M_int, max2M_int, intsOf_map, sumM_ref, sortedM_ref, insertM_eq, extendM_eq, popAtM_eq, clearM_eq, indexLM_eq, tyM_list_fl, tV_eq, truK_bl, truK_non, truK_int, truK_tup, truK_ref, obB_lst, obB_dK, sAsgT_eq, tgK_some, gN_eq, gT_eq, gsCons_eq, gK_some, gsNil_eq, sSetIx_eq, setK_eq, sAug_eq, augK_some, iaddM_int, isubM_int, eListR_eq, rg1_eq, rg2_eq, rg1K_int, rg2K_int, iZip_eq, zipM_tup, zipM_ref, iRev_eq, revM_tup, revM_ref, eLc_eq, lcK_vals, lcK_live, lcK_gen, optS_some, wipeW_nil, wipeW_cons, tYs_eq, lcT_gN, turnK_ite, putK_ok, putL_lst, lcV_nil, andThen_some, srcK_gen, bd_eq, bdK_ok, bdK_ex, bdK_bad, bdK_ite, rt_eq, bad_eq, app_ite, onE_ok, onE_ex, onE_bad, onE_ite, seq_eq, seqK_nx, seqK_rt, seqK_bk, seqK_ct, seqK_ex, seqK_bad, seqK_ite, loopK_nx, loopK_ct, loopK_bk, loopK_rt, loopK_ex, loopK_bad, loopK_ite, fn_eq, fnK_rt, fnK_nx, fnK_ex, fnK_ite, eVar_0, eVar_s, eC_eq, eOp_eq, eUn_eq, eAnd_eq, eOr_eq, eNot_eq, boK_bl, eIf_eq, eChain_eq, tB_eq, tbK_bl, tAnd_eq, tOr_eq, tNot_eq, aNil_eq, aCons_eq, eTup_eq, eLst_eq, new_eq, eB_eq, eCall_eq, eM_eq, eSl_eq, oNone_eq, oSome_eq, intK_int, sNil_eq, sExpr_eq, sRet_eq, sRetN_eq, sIf_eq, sAsg_eq, sRaise_eq, sBreak_eq, sCont_eq, sFor_eq, srcK_vals, iE_eq, srcOf_tup, srcOf_fl, srcOf_str, forV_nil, addM_int, addM_str, addM_tup, subM_int, mulM_int, mulM_str, modM_int, fdivM_int, powM_int, negM_int, ltM_int, leM_int, gtM_int, geM_int, eqM_int, eqM_str, eqM_bl, neM_int, neM_str, neM_bl, isM_non, isM_int, isM_str, isM_bl, isM_tup, isM_ref, inM_str, notInM_str, lenM_str, lenM_tup, lenM_fl, intM_int, tyM_str, slM_str, isiM_non, isiM_bl, isiM_int, isiM_str, isiM_tup, resK_some, obL_lst, obS_lst, optK_some, isLst_lst, appendM_eq, popM_eq, reverseM_eq, lenM_refE, ixM_refE, ixM_tupE, ixM_flE, ixM_strE, srcOf_refE, srcK_liveE, tyM_refE, get_last, set_last, sTry_eq, tryK_nx, tryK_rt, noEx_nx, noEx_rt, sTryAs_eq, tryAsK_nx, tryAsK_rt, dropS_nx, dropS_rt, onNone_none, kb_NoneType_bool, kb_NoneType_int, kb_NoneType_str, kb_NoneType_tuple, kb_NoneType_list, kb_NoneType_dict, kb_bool_bool, kb_bool_int, kb_bool_str, kb_bool_tuple, kb_bool_list, kb_bool_dict, kb_int_bool, kb_int_int, kb_int_str, kb_int_tuple, kb_int_list, kb_int_dict, kb_str_bool, kb_str_int, kb_str_str, kb_str_tuple, kb_str_list, kb_str_dict, kb_tuple_bool, kb_tuple_int, kb_tuple_str, kb_tuple_tuple, kb_tuple_list, kb_tuple_dict, kb_list_bool, kb_list_int, kb_list_str, kb_list_tuple, kb_list_list, kb_list_dict, kb_dict_bool, kb_dict_int, kb_dict_str, kb_dict_tuple, kb_dict_list, kb_dict_dict, List.map_cons, List.map_nil, List.cons_append, List.nil_append, List.length_cons, List.length_nil, Nat.reduceAdd, Nat.reduceSub, List.replicate, List.set_cons_zero, List.set_cons_succ, Bool.false_eq_true, Bool.not_true, Bool.not_false, if_true, if_false, reduceIte, decide_eq_true_eq, Bool.not_eq_true', decide_eq_false_iff_not, not_true_eq_false, not_false_eq_true, ite_not, decide_true, decide_false, eq_self_iff_true, indexSM_eq, startsM_str, endsM_str, splitM_str, iR1_eq, iR2_eq, rngK_1, rngK2_2, chr1_eq, subS_one, and_self, true_and, and_true, false_and, and_false, or_true, true_or, or_self, false_or, or_false, ne_eq, *])
/-! ### the law's own helpers -/
theorem okN_iff : ∀ {ss ns : List Int}, ss.length = ns.length → (okN ss ns = true ↔ ∀ (i : Nat) (s n : Int), ss[i]? = some s → ns[i]? = some n → 0 ≤ n ∧ n < s)
  | [], [], _ => by simp [okN]
  | s :: ss, n :: ns, h => by
    unfold okN
    simp only [Bool.and_eq_true, decide_eq_true_eq]
    rw [okN_iff (by simpa using h)]
    constructor
    · rintro ⟨h1, h2⟩ i s' n' q1 q2
      cases i with
      | zero => simp at q1 q2; subst q1; subst q2; exact h1
      | succ i => exact h2 i s' n' (by simpa using q1) (by simpa using q2)
    · intro q
      exact ⟨q 0 s n rfl rfl, fun i s' n' q1 q2 => q (i + 1) s' n' (by simpa using q1) (by simpa using q2)⟩
  | [], _ :: _, h => by simp at h
  | _ :: _, [], h => by simp at h
theorem isi_list_int {S : Sto} {k : Nat} {is : List Int} (h : S[k]? = some (oI is)) : isiM [.ref k, .ty "list"] S = .ok (.bl true) S := by rw [isiM_ref k _ "list" S h]; rfl
def bDi : Stm := (sSeq (sIf (tOr (tNot (tB (eB isiM (aCons (eOp ixM (eVar 1) (eVar 2)) (aCons (eC (.ty "int")) aNil))))) (tB (eB isiM (aCons (eOp ixM (eVar 1) (eVar 2)) (aCons (eC (.ty "bool")) aNil))))) (sRet (eC (.bl false))) sNil)
  (sIf (tOr (tB (eOp ltG (eOp ixM (eVar 1) (eVar 2)) (eC (.int 0)))) (tB (eOp geM (eOp ixM (eVar 1) (eVar 2)) (eOp ixM (eVar 0) (eVar 2))))) (sRet (eC (.bl false))) sNil))
theorem at_map {is : List Int} {i : Nat} {x : Int} (h : is[i]? = some x) : L2.atI (List.map W.int is) (i : Int) = some (.int x) := by
  rw [atI_nat, List.getElem?_map, h]; rfl
theorem digits_run {S : Sto} {a b : Nat} {sizes note : List Int} (hA : S[a]? = some (oI sizes)) (hB : S[b]? = some (oI note)) (hl : sizes.length < 4611686018427387904) : m__law_digits [.ref a, .ref b] S = .ok (.bl (okN sizes note)) S := by
  have hi := isi_list_int hB
  by_cases he : sizes.length = note.length
  · have hlo := forV_find (g := gN 2) (b := bDi) (fun pre s S' => S' = S ∧ (∃ c, s = [some (.ref a), some (.ref b), c]) ∧ ∀ (i : Nat) (s n : Int), i < pre.length → sizes[i]? = some s → note[i]? = some n → 0 ≤ n ∧ n < s)
      (fun r => r = .rt (.bl false) S ∧ okN sizes note = false) (rng 0 sizes.length) (s := [some (.ref a), some (.ref b), none]) (S := S) (fun pre x suf s S' e hI => ?_) ⟨rfl, ⟨none, rfl⟩, fun i _ _ q => by simp at q⟩
    · have i0 := small62 sizes.length hl
      have e3 : ((sizes.length : Int)).toNat = sizes.length := by omega
      have e4 : (note.length : Int) = (sizes.length : Int) := by omega
      rcases hlo with ⟨s', S', h1, rfl, ⟨c, rfl⟩, h3⟩ | ⟨h1, h2⟩
      · have hok : okN sizes note = true := (okN_iff he).mpr fun i s n q1 q2 => h3 i s n (by rw [rng_len]; exact (List.getElem?_eq_some_iff.mp q1).1) q1 q2
        unfold m__law_digits b__law_digits
        unfold bDi at h1
        clear h3 he hl
        walk_at "evh"
        simp only [List.length_map]
        walk_at "evh"
      · unfold m__law_digits b__law_digits
        unfold bDi at h1
        clear he hl
        walk_at "evh"
        simp only [List.length_map]
        walk_at "evh"
    · obtain ⟨rfl, ⟨c, rfl⟩, hp⟩ := hI
      obtain ⟨rfl, hlt⟩ := rng_at e
      refine ⟨_, rfl, ?_⟩
      rw [Int.zero_add]
      have q1 : sizes[pre.length]? = some sizes[pre.length] := List.getElem?_eq_getElem hlt
      have q2 : note[pre.length]? = some note[pre.length] := List.getElem?_eq_getElem (by omega)
      obtain ⟨s, hs⟩ : ∃ s, sizes[pre.length]? = some s := ⟨_, q1⟩
      obtain ⟨n, hn⟩ : ∃ n, note[pre.length]? = some n := ⟨_, q2⟩
      have a1 := at_map hs
      have a2 := at_map hn
      have ev : bDi [some (.ref a), some (.ref b), some (.int pre.length)] S' = if 0 ≤ n ∧ n < s then .nx [some (.ref a), some (.ref b), some (.int pre.length)] S' else .rt (.bl false) S' := by
        unfold bDi
        clear q1 q2 hs hn hp e hlt he hl hi
        by_cases g1 : 0 ≤ n
        · by_cases g2 : n < s
          · have g3 : ¬ n < 0 := by omega
            have g4 : ¬ s ≤ n := by omega
            walk_at "evh"
          · have g3 : ¬ n < 0 := by omega
            have g4 : s ≤ n := by omega
            walk_at "evh"
        · have g3 : n < 0 := by omega
          walk_at "evh"
      show (∃ s2 S2, (bDi [some (.ref a), some (.ref b), some (.int pre.length)] S' = .nx s2 S2 ∨ bDi [some (.ref a), some (.ref b), some (.int pre.length)] S' = .ct s2 S2) ∧ _) ∨ (Ends (bDi [some (.ref a), some (.ref b), some (.int pre.length)] S') ∧ (bDi [some (.ref a), some (.ref b), some (.int pre.length)] S' = _ ∧ _))
      rw [ev]
      by_cases g : 0 ≤ n ∧ n < s
      · rw [if_pos g]
        refine .inl ⟨_, _, .inl rfl, rfl, ⟨_, rfl⟩, fun i s' n' hi' r1 r2 => ?_⟩
        rw [List.length_append, List.length_singleton] at hi'
        by_cases hi2 : i < pre.length
        · exact hp i s' n' hi2 r1 r2
        · have : i = pre.length := by omega
          subst this
          rw [hs] at r1; rw [hn] at r2
          cases r1; cases r2
          exact g
      · rw [if_neg g]
        refine .inr ⟨.inl ⟨_, _, rfl⟩, rfl, ?_⟩
        cases hok : okN sizes note with
        | false => rfl
        | true => exact absurd ((okN_iff he).mp hok pre.length s n hs hn) g
  · have hok : okN sizes note = false := by
      cases hok : okN sizes note with
      | false => rfl
      | true => exact absurd (okN_len hok) he
    have e1 : ¬ ((note.map W.int).length : Int) = ((sizes.map W.int).length : Int) := by simp; omega
    unfold m__law_digits b__law_digits
    clear he hl
    walk_at "evh"
def bLn : Stm := (sAsg 2 (eOp addM (eOp mulM (eVar 2) (eOp ixM (eVar 0) (eVar 3))) (eOp ixM (eVar 1) (eVar 3))))
theorem lnumber_run {S : Sto} {a b : Nat} {sizes note : List Int} (hA : S[a]? = some (oI sizes)) (hB : S[b]? = some (oI note)) (hl : sizes.length < 4611686018427387904) (he : sizes.length = note.length) (hs : SzOk sizes) : m__law_number [.ref a, .ref b] S = .ok (.int (val sizes note)) S := by
  obtain ⟨s', S', h1, rfl, c, hc⟩ := forV_all (g := gN 3) (b := bLn) (fun pre s S' => S' = S ∧ ∃ c, s = [some (.ref a), some (.ref b), some (.int (hornA 0 (sizes.take pre.length) (note.take pre.length))), c]) (rng 0 sizes.length)
    (fun pre x suf s S' e hI => by
      obtain ⟨rfl, c, rfl⟩ := hI
      obtain ⟨rfl, hlt⟩ := rng_at e
      have hlt2 : pre.length < note.length := by omega
      refine ⟨_, [some (.ref a), some (.ref b), some (.int (hornA 0 (sizes.take pre.length) (note.take pre.length) * sizes[pre.length] + note[pre.length])), some (.int (0 + pre.length))], S', rfl, .inl ?_, rfl, some (.int (0 + pre.length)), ?_⟩
      · rw [Int.zero_add]
        obtain ⟨s, hs1⟩ : ∃ s, sizes[pre.length] = s := ⟨_, rfl⟩
        obtain ⟨n, hn1⟩ : ∃ n, note[pre.length] = n := ⟨_, rfl⟩
        have q1 : sizes[pre.length]? = some s := by rw [List.getElem?_eq_getElem hlt, hs1]
        have q2 : note[pre.length]? = some n := by rw [List.getElem?_eq_getElem hlt2, hn1]
        have a1 := at_map q1
        have a2 := at_map q2
        have hm := inR_small (hs s (List.mem_of_getElem? q1))
        rw [hs1, hn1]
        show bLn [some (.ref a), some (.ref b), some (.int (hornA 0 (sizes.take pre.length) (note.take pre.length))), some (.int pre.length)] S' = _
        unfold bLn
        clear q1 q2 hs1 hn1 hs e hlt hlt2 he hl
        walk_at "evh"
      · rw [List.length_append, List.length_singleton, List.take_succ_eq_append_getElem hlt, List.take_succ_eq_append_getElem hlt2, hornA_snoc _ _ _ (by simp; omega)])
    (s := [some (.ref a), some (.ref b), some (.int 0), none]) (S := S) ⟨rfl, none, rfl⟩
  rw [rng_len, List.take_length, he, List.take_length, horn_val 0 he, Int.zero_mul, Int.zero_add] at hc
  subst hc
  have i0 := small62 sizes.length hl
  have e3 : ((sizes.length : Int)).toNat = sizes.length := by omega
  unfold m__law_number b__law_number
  unfold bLn at h1
  clear hs he hl hB
  walk_at "evh"
  simp only [List.length_map]
  walk_at "evh"
theorem numRef_run {S : Sto} {a b : Nat} {sizes note : List Int} (hA : S[a]? = some (oI sizes)) (hB : S[b]? = some (oI note)) (h : okN sizes note = false) : m__law_number_refused [.ref a, .ref b] S = .ok (.bl true) S := by
  have hn := number_no hA hB h
  have ht := fun s d su => tryK_yes (Str.ofString "InvalidNote") d s S tab_InvalidNote su (by decide +kernel)
  unfold m__law_number_refused b__law_number_refused
  clear hA hB h
  walk_at "evh"
theorem numdRef_run {S : Sto} {a : Nat} {sizes : List Int} {n : Int} (hA : S[a]? = some (oI sizes)) (hs : SzOk sizes) (h : ¬ (0 ≤ n ∧ n < prodL sizes)) : m__law_numbered_refused [.ref a, .int n] S = .ok (.bl true) S := by
  have hn := numbered_no hA hs h
  have ht := fun s d su => tryK_yes (Str.ofString "InvalidNote") d s S tab_InvalidNote su (by decide +kernel)
  unfold m__law_numbered_refused b__law_numbered_refused
  clear hA hs h
  walk_at "evh"
theorem chRef_run {h : List Nat} {S : Sto} {L c : Nat} {ws : List W} {xss : List (List PyData)} {note : List Int} (a : Lsts h S L ws xss) (hc : S[c]? = some (oI note)) (hl : xss.length ≤ 1000) (hj : okN (szs xss) note = false) :
    ∃ T, m__law_chosen_refused [.ref L, .ref c] S = .ok (.bl true) T ∧ Kp [] S T := by
  obtain ⟨T, hn, hk⟩ := chosen_no a hc hl hj
  refine ⟨T, ?_, hk⟩
  have ht := fun i s d su => tryAsK_yes i (Str.ofString "InvalidNote") d s T tab_FormroadsError su (by decide +kernel)
  have h1 := fun s S => eIsX_eq tab_ValueError (Str.ofString "InvalidNote") true s S (by decide +kernel)
  have h2 := fun s S => eIsX_eq tab_Unreached (Str.ofString "InvalidNote") false s S (by decide +kernel)
  have h3 := fun s S => eIsX_eq tab_InvalidNote (Str.ofString "InvalidNote") true s S (by decide +kernel)
  have h23 : 2 < 3 := by decide
  unfold m__law_chosen_refused b__law_chosen_refused
  clear a hc hl hj hk
  walk_at "evh"

end Lw_k16

namespace Lw_k16
open PySem Fr
local macro_rules | `(tactic| walk_at "ev") => `(tactic| simp only [Bool.or_true, Bool.true_or, Bool.and_self, Bool.or_self, Bool.and_true, Bool.true_and, Bool.false_or, Bool.or_false, Bool.false_and, Bool.and_false, ltG_int, ltG_str, ltG_ref, ltG_tup, memM_eq, notMemM_eq, memB_str, blK_some, nblK_some, eqM_ref, eqM_tup, neM_ref, neM_tup, isM_fl, isNotM_non, isNotM_int, isNotM_str, isNotM_bl, isNotM_tup, isNotM_ref, listM_ref, listM_tup, listM_fl, listK_lst, listK_dK, tupleM_ref, tupleM_tup, tupleM_fl, divmodM_int, strM_int, min2M_int, max2M_int, intsOf_map, sumM_ref, sortedM_ref, insertM_eq, extendM_eq, popAtM_eq, clearM_eq, indexLM_eq, tyM_list_fl, tV_eq, truK_bl, truK_non, truK_int, truK_tup, truK_ref, obB_lst, obB_dK, sAsgT_eq, tgK_some, gN_eq, gT_eq, gsCons_eq, gK_some, gsNil_eq, sSetIx_eq, setK_eq, sAug_eq, augK_some, iaddM_int, isubM_int, eListR_eq, rg1_eq, rg2_eq, rg1K_int, rg2K_int, iZip_eq, zipM_tup, zipM_ref, iRev_eq, revM_tup, revM_ref, eLc_eq, lcK_vals, lcK_live, lcK_gen, optS_some, wipeW_nil, wipeW_cons, tYs_eq, lcT_gN, turnK_ite, putK_ok, putL_lst, lcV_nil, andThen_some, srcK_gen, bd_eq, bdK_ok, bdK_ex, bdK_bad, bdK_ite, rt_eq, bad_eq, app_ite, onE_ok, onE_ex, onE_bad, onE_ite, seq_eq, seqK_nx, seqK_rt, seqK_bk, seqK_ct, seqK_ex, seqK_bad, seqK_ite, loopK_nx, loopK_ct, loopK_bk, loopK_rt, loopK_ex, loopK_bad, loopK_ite, fn_eq, fnK_rt, fnK_nx, fnK_ex, fnK_ite, eVar_0, eVar_s, eC_eq, eOp_eq, eUn_eq, eAnd_eq, eOr_eq, eNot_eq, boK_bl, eIf_eq, eChain_eq, tB_eq, tbK_bl, tAnd_eq, tOr_eq, tNot_eq, aNil_eq, aCons_eq, eTup_eq, eLst_eq, new_eq, eB_eq, eCall_eq, eM_eq, eSl_eq, oNone_eq, oSome_eq, intK_int, sNil_eq, sExpr_eq, sRet_eq, sRetN_eq, sIf_eq, sAsg_eq, sRaise_eq, sBreak_eq, sCont_eq, sFor_eq, srcK_vals, iE_eq, srcOf_tup, srcOf_fl, srcOf_str, forV_nil, addM_int, addM_str, addM_tup, subM_int, mulM_int, mulM_str, modM_int, fdivM_int, powM_int, negM_int, ltM_int, leM_int, gtM_int, geM_int, eqM_int, eqM_str, eqM_bl, neM_int, neM_str, neM_bl, isM_non, isM_int, isM_str, isM_bl, isM_tup, isM_ref, inM_str, notInM_str, lenM_str, lenM_tup, lenM_fl, intM_int, tyM_str, slM_str, isiM_non, isiM_bl, isiM_int, isiM_str, isiM_tup, resK_some, obL_lst, obS_lst, optK_some, isLst_lst, appendM_eq, popM_eq, reverseM_eq, lenM_refE, ixM_refE, ixM_tupE, ixM_flE, ixM_strE, srcOf_refE, srcK_liveE, tyM_refE, get_last, set_last, sTry_eq, tryK_nx, tryK_rt, noEx_nx, noEx_rt, sTryAs_eq, tryAsK_nx, tryAsK_rt, dropS_nx, dropS_rt, onNone_none, kb_NoneType_bool, kb_NoneType_int, kb_NoneType_str, kb_NoneType_tuple, kb_NoneType_list, kb_NoneType_dict, kb_bool_bool, kb_bool_int, kb_bool_str, kb_bool_tuple, kb_bool_list, kb_bool_dict, kb_int_bool, kb_int_int, kb_int_str, kb_int_tuple, kb_int_list, kb_int_dict, kb_str_bool, kb_str_int, kb_str_str, kb_str_tuple, kb_str_list, kb_str_dict, kb_tuple_bool, kb_tuple_int, kb_tuple_str, kb_tuple_tuple, kb_tuple_list, kb_tuple_dict, kb_list_bool, kb_list_int, kb_list_str, kb_list_tuple, kb_list_list, kb_list_dict, kb_dict_bool, kb_dict_int, kb_dict_str, kb_dict_tuple, kb_dict_list, kb_dict_dict, List.map_cons, List.map_nil, List.cons_append, List.nil_append, List.length_cons, List.length_nil, Nat.reduceAdd, Nat.reduceSub, List.replicate, List.set_cons_zero, List.set_cons_succ, Bool.false_eq_true, Bool.not_true, Bool.not_false, if_true, if_false, reduceIte, decide_eq_true_eq, Bool.not_eq_true', decide_eq_false_iff_not, not_true_eq_false, not_false_eq_true, ite_not, decide_true, decide_false, eq_self_iff_true, indexSM_eq, startsM_str, endsM_str, splitM_str, iR1_eq, iR2_eq, rngK_1, rngK2_2, chr1_eq, subS_one, and_self, true_and, and_true, false_and, and_false, or_true, true_or, or_self, false_or, or_false, ne_eq])
local macro_rules | `(tactic| walk_at "evh") => `(tactic| simp only [Bool.or_true, Bool.true_or, Bool.and_self, Bool.or_self, Bool.and_true, Bool.true_and, Bool.false_or, Bool.or_false, Bool.false_and, Bool.and_false, ltG_int, ltG_str, ltG_ref, ltG_tup, memM_eq, notMemM_eq, memB_str, blK_some, nblK_some, eqM_ref, eqM_tup, neM_ref, neM_tup, isM_fl, isNotM_non, isNotM_int, isNotM_str, isNotM_bl, isNotM_tup, isNotM_ref, listM_ref, listM_tup, listM_fl, listK_lst, listK_dK, tupleM_ref, tupleM_tup, tupleM_fl, divmodM_int, strM_int, min2M_int, max2M_int, intsOf_map, sumM_ref, sortedM_ref, insertM_eq, extendM_eq, popAtM_eq, clearM_eq, indexLM_eq, tyM_list_fl, tV_eq, truK_bl, truK_non, truK_int, truK_tup, truK_ref, obB_lst, obB_dK, sAsgT_eq, tgK_some, gN_eq, gT_eq, gsCons_eq, gK_some, gsNil_eq, sSetIx_eq, setK_eq, sAug_eq, augK_some, iaddM_int, isubM_int, eListR_eq, rg1_eq, rg2_eq, rg1K_int, rg2K_int, iZip_eq, zipM_tup, zipM_ref, iRev_eq, revM_tup, revM_ref, eLc_eq, lcK_vals, lcK_live, lcK_gen, optS_some, wipeW_nil, wipeW_cons, tYs_eq, lcT_gN, turnK_ite, putK_ok, putL_lst, lcV_nil, andThen_some, srcK_gen, bd_eq, bdK_ok, bdK_ex, bdK_bad, bdK_ite, rt_eq, bad_eq, app_ite, onE_ok, onE_ex, onE_bad, onE_ite, seq_eq, seqK_nx, seqK_rt, seqK_bk, seqK_ct, seqK_ex, seqK_bad, seqK_ite, loopK_nx, loopK_ct, loopK_bk, loopK_rt, loopK_ex, loopK_bad, loopK_ite, fn_eq, fnK_rt, fnK_nx, fnK_ex, fnK_ite, eVar_0, eVar_s, eC_eq, eOp_eq, eUn_eq, eAnd_eq, eOr_eq, eNot_eq, boK_bl, eIf_eq, eChain_eq, tB_eq, tbK_bl, tAnd_eq, tOr_eq, tNot_eq, aNil_eq, aCons_eq, eTup_eq, eLst_eq, new_eq, eB_eq, eCall_eq, eM_eq, eSl_eq, oNone_eq, oSome_eq, intK_int, sNil_eq, sExpr_eq, sRet_eq, sRetN_eq, sIf_eq, sAsg_eq, sRaise_eq, sBreak_eq, sCont_eq, sFor_eq, srcK_vals, iE_eq, srcOf_tup, srcOf_fl, srcOf_str, forV_nil, addM_int, addM_str, addM_tup, subM_int, mulM_int, mulM_str, modM_int, fdivM_int, powM_int, negM_int, ltM_int, leM_int, gtM_int, geM_int, eqM_int, eqM_str, eqM_bl, neM_int, neM_str, neM_bl, isM_non, isM_int, isM_str, isM_bl, isM_tup, isM_ref, inM_str, notInM_str, lenM_str, lenM_tup, lenM_fl, intM_int, tyM_str, slM_str, isiM_non, isiM_bl, isiM_int, isiM_str, isiM_tup, resK_some, obL_lst, obS_lst, optK_some, isLst_lst, appendM_eq, popM_eq, reverseM_eq, lenM_refE, ixM_refE, ixM_tupE, ixM_flE, ixM_strE, srcOf_refE, srcK_liveE, tyM_refE, get_last, set_last, sTry_eq, tryK_nx, tryK_rt, noEx_nx, noEx_rt, sTryAs_eq, tryAsK_nx, tryAsK_rt, dropS_nx, dropS_rt, onNone_none, kb_NoneType_bool, kb_NoneType_int, kb_NoneType_str, kb_NoneType_tuple, kb_NoneType_list, kb_NoneType_dict, kb_bool_bool, kb_bool_int, kb_bool_str, kb_bool_tuple, kb_bool_list, kb_bool_dict, kb_int_bool, kb_int_int, kb_int_str, kb_int_tuple, kb_int_list, kb_int_dict, kb_str_bool, kb_str_int, kb_str_str, kb_str_tuple, kb_str_list, kb_str_dict, kb_tuple_bool, kb_tuple_int, kb_tuple_str, kb_tuple_tuple, kb_tuple_list, kb_tuple_dict, kb_list_bool, kb_list_int, kb_list_str, kb_list_tuple, kb_list_list, kb_list_dict, kb_dict_bool, kb_dict_int, kb_dict_str, kb_dict_tuple, kb_dict_list, kb_dict_dict, List.map_cons, List.map_nil, List.cons_append, List.nil_append, List.length_cons, List.length_nil, Nat.reduceAdd, Nat.reduceSub, List.replicate, List.set_cons_zero, List.set_cons_succ, Bool.false_eq_true, Bool.not_true, Bool.not_false, if_true, if_false, reduceIte, decide_eq_true_eq, Bool.not_eq_true', decide_eq_false_iff_not, not_true_eq_false, not_false_eq_true, ite_not, decide_true, decide_false, eq_self_iff_true, indexSM_eq, startsM_str, endsM_str, splitM_str, iR1_eq, iR2_eq, rngK_1, rngK2_2, chr1_eq, subS_one, and_self, true_and, and_true, false_and, and_false, or_true, true_or, or_self, false_or, or_false, ne_eq, *])
theorem drawK {S : Sto} {d : Nat} {n : Int} (hd : HasD d S) (hn : 0 < n) : ∃ v S', (0 ≤ v ∧ v < n) ∧ Kp [d] S S' ∧ S'.length = S.length ∧ HasD d S' ∧ m__law_draw [.ref d, .int n] S = .ok (.int v) S' := by
  obtain ⟨zs, e⟩ := id hd
  obtain ⟨v, zs', h1, h2⟩ := draw_run S d zs n e hn
  exact ⟨v, _, h1, Kp.set (by simp), by simp, ⟨zs', set_get e⟩, h2⟩
theorem pickK {S : Sto} {d : Nat} {is : List Int} (hd : HasD d S) (h0 : 0 < is.length) : ∃ i S', i ∈ is ∧ Kp [d] S S' ∧ S'.length = S.length + 1 ∧ HasD d S' ∧ m__law_pick [.ref d, .ref S.length] (S ++ [oI is]) = .ok (.int i) S' := by
  obtain ⟨zs, e⟩ := id hd
  obtain ⟨w, zs', h1, h2⟩ := pick_list (S ++ [oI is]) d S.length zs (is.map W.int) (get_old _ e) (get_last _ _) (Nat.ne_of_lt hd.lt) (by simpa using h0)
  obtain ⟨i, hi, rfl⟩ := List.mem_map.mp h1
  exact ⟨i, _, hi, (Kp.app _).trans (Kp.set (by simp)), by simp, ⟨zs', set_get (get_old _ e)⟩, h2⟩
theorem Kp.hasD' {S S' : Sto} {d : Nat} {h : List Nat} (a : Kp h S S') (hd : d ∉ h) (e : HasD d S) : HasD d S' := let ⟨zs, e⟩ := e; ⟨zs, a.get hd e⟩
theorem ixN_in {n : Nat} {i : Int} (h : 0 ≤ i) (h1 : i < n) : L2.ixN n i = some i.toNat := by
  unfold L2.ixN
  rw [if_pos h, if_pos h1]
theorem map_erase {α β : Type} (f : α → β) : ∀ (l : List α) (n : Nat), List.map f (l.eraseIdx n) = (List.map f l).eraseIdx n
  | [], n => by simp
  | a :: l, 0 => by simp
  | a :: l, n + 1 => by simp [map_erase f l n]
theorem near_run {S : Sto} {d a b : Nat} {sizes note : List Int} (hd : HasD d S) (hA : S[a]? = some (oI sizes)) (ha : a ≠ d) (hB : S[b]? = some (oI note)) (hb : b ≠ d) (he : sizes.length = note.length) (hl : note.length ≤ 1000) :
    ∃ S' is', m__law_near [.ref d, .ref a, .ref b] S = .ok (.ref S.length) S' ∧ S'[S.length]? = some (oI is') ∧ is'.length ≤ 1001 ∧ Kp [d] S S' ∧ HasD d S' := by
  have hd1 : HasD d (S ++ [oI note]) := hd.app _
  obtain ⟨v, S2, hv, k2, l2, d2, e2⟩ := drawK hd1 (n := 5) (by decide)
  obtain ⟨t, S3, ht, k3, l3, d3, e3⟩ := drawK d2 (n := (note.length : Int) + 1) (by omega)
  have hdl := hd.lt
  have k : Kp [d] (S ++ [oI note]) S3 := k2.trans k3
  have hN2 : S2[S.length]? = some (oI note) := k2.get (by simp; omega) (get_last _ _)
  have hN : S3[S.length]? = some (oI note) := k.get (by simp; omega) (get_last _ _)
  have hA3 : S3[a]? = some (oI sizes) := k.get (by simp; exact ha) (get_old _ hA)
  have kS : Kp [d] S S3 := (Kp.app _).trans k
  have hdS : d ≠ S.length := by omega
  have hdec : (v = 0) ∨ (v ≠ 0 ∧ ¬ t < note.length) ∨ (v = 1 ∧ t < note.length) ∨ (v = 2 ∧ t < note.length) ∨ (v = 3 ∧ t < note.length) ∨ (v = 4 ∧ t < note.length) := by omega
  have hll : (List.map W.int note).length = note.length := List.length_map _
  rcases hdec with rfl | ⟨hv0, hn⟩ | ⟨rfl, hn⟩ | ⟨rfl, hn⟩ | ⟨rfl, hn⟩ | ⟨rfl, hn⟩
  · refine ⟨S3.set S.length (oI (note.take t.toNat ++ [0] ++ note.drop t.toNat)), _, ?_, set_get hN, ?_, kS.new (Nat.le_refl _), ?_⟩
    · have c1 : note.length < sizeLine := by rw [sizeLine_n]; omega
      have c2 : 0 ≤ t := ht.1
      have c3 : inR 9223372036854775807 t = true := inR_iff.mpr (by omega)
      have em : List.map W.int (note.take t.toNat ++ [0] ++ note.drop t.toNat) = (List.map W.int note).take t.toNat ++ [W.int 0] ++ (List.map W.int note).drop t.toNat := by simp
      have em' : oI (note.take t.toNat ++ [0] ++ note.drop t.toNat) = .lst ((List.map W.int note).take t.toNat ++ [W.int 0] ++ (List.map W.int note).drop t.toNat) := by rw [← em]
      rw [em']
      unfold m__law_near b__law_near
      clear hA hd hd1 d2 d3 k k2 k3 kS hA3 ha hb he hl hdl em em' hll ht l2 l3
      have hll : (List.map W.int note).length = note.length := List.length_map _
      walk_at "evh"
    · simp; omega
    · obtain ⟨zs, q⟩ := d3; exact ⟨zs, by rw [List.getElem?_set_ne (by omega)]; exact q⟩
  · refine ⟨S3, note, ?_, hN, by omega, kS, d3⟩
    unfold m__law_near b__law_near
    clear hA hd hd1 d2 d3 k k2 k3 kS hA3 ha hb he hl hdl ht l2 l3
    walk_at "evh"
  · refine ⟨S3.set S.length (oI (note.eraseIdx t.toNat)), _, ?_, set_get hN, ?_, kS.new (Nat.le_refl _), ?_⟩
    · have c2 := ixN_in ht.1 hn
      have c3 : inR 9223372036854775807 t = true := inR_iff.mpr (by omega)
      obtain ⟨y, hy⟩ : ∃ y, (List.map W.int note)[t.toNat]? = some y := ⟨_, List.getElem?_eq_getElem (by rw [hll]; omega)⟩
      have em : oI (note.eraseIdx t.toNat) = .lst ((List.map W.int note).eraseIdx t.toNat) := by unfold oI; rw [map_erase]
      rw [em]
      have z1 : ¬ (1 : Int) = 0 := by decide
      unfold m__law_near b__law_near
      clear hA hd hd1 d2 d3 k k2 k3 kS hA3 ha hb he hl hdl em ht l2 l3
      walk_at "evh"
    · rw [List.length_eraseIdx]; split <;> omega
    · obtain ⟨zs, q⟩ := d3; exact ⟨zs, by rw [List.getElem?_set_ne (by omega)]; exact q⟩
  · obtain ⟨u, S4, hu, k4, l4, d4, e4⟩ := drawK d3 (n := 2) (by decide)
    have hN4 : S4[S.length]? = some (oI note) := k4.get (by simp; omega) hN
    refine ⟨S4.set S.length (oI (note.set t.toNat (-1 - u))), _, ?_, set_get hN4, ?_, (kS.trans k4).new (Nat.le_refl _), ?_⟩
    · have c2 := ixN_in ht.1 hn
      have em : oI (note.set t.toNat (-1 - u)) = .lst ((List.map W.int note).set t.toNat (.int (-1 - u))) := by unfold oI; rw [List.map_set]
      rw [em]
      have z1 : ¬ (2 : Int) = 0 := by decide
      have z2 : ¬ (2 : Int) = 1 := by decide
      unfold m__law_near b__law_near
      clear hA hd hd1 d2 d3 d4 k k2 k3 k4 kS hA3 ha hb he hl hdl em ht l2 l3 l4
      walk_at "evh"
    · simp; omega
    · obtain ⟨zs, q⟩ := d4; exact ⟨zs, by rw [List.getElem?_set_ne (by omega)]; exact q⟩
  · obtain ⟨u, S4, hu, k4, l4, d4, e4⟩ := drawK d3 (n := 2) (by decide)
    have hN4 : S4[S.length]? = some (oI note) := k4.get (by simp; omega) hN
    obtain ⟨y, hy⟩ : ∃ y, sizes[t.toNat]? = some y := ⟨_, List.getElem?_eq_getElem (by omega)⟩
    have ha1 : L2.atI (List.map W.int sizes) t = some (.int y) := by
      have := at_map hy
      rwa [Int.toNat_of_nonneg ht.1] at this
    refine ⟨S4.set S.length (oI (note.set t.toNat (y + u))), _, ?_, set_get hN4, ?_, (kS.trans k4).new (Nat.le_refl _), ?_⟩
    · have c2 := ixN_in ht.1 hn
      have em : oI (note.set t.toNat (y + u)) = .lst ((List.map W.int note).set t.toNat (.int (y + u))) := by unfold oI; rw [List.map_set]
      rw [em]
      have z1 : ¬ (3 : Int) = 0 := by decide
      have z2 : ¬ (3 : Int) = 1 := by decide
      have z3 : ¬ (3 : Int) = 2 := by decide
      unfold m__law_near b__law_near
      clear hA hd hd1 d2 d3 d4 k k2 k3 k4 kS ha hb he hl hdl em ht l2 l3 l4 hy
      walk_at "evh"
    · simp; omega
    · obtain ⟨zs, q⟩ := d4; exact ⟨zs, by rw [List.getElem?_set_ne (by omega)]; exact q⟩
  · obtain ⟨y, hy⟩ : ∃ y, sizes[t.toNat]? = some y := ⟨_, List.getElem?_eq_getElem (by omega)⟩
    have ha1 : L2.atI (List.map W.int sizes) t = some (.int y) := by
      have := at_map hy
      rwa [Int.toNat_of_nonneg ht.1] at this
    refine ⟨S3.set S.length (oI (note.set t.toNat (y - 1))), _, ?_, set_get hN, ?_, kS.new (Nat.le_refl _), ?_⟩
    · have c2 := ixN_in ht.1 hn
      have em : oI (note.set t.toNat (y - 1)) = .lst ((List.map W.int note).set t.toNat (.int (y - 1))) := by unfold oI; rw [List.map_set]
      rw [em]
      have z1 : ¬ (4 : Int) = 0 := by decide
      have z2 : ¬ (4 : Int) = 1 := by decide
      have z3 : ¬ (4 : Int) = 2 := by decide
      have z4 : ¬ (4 : Int) = 3 := by decide
      unfold m__law_near b__law_near
      clear hA hd hd1 d2 d3 k k2 k3 kS ha hb he hl hdl em ht l2 l3 hy
      walk_at "evh"
    · simp; omega
    · obtain ⟨zs, q⟩ := d3; exact ⟨zs, by rw [List.getElem?_set_ne (by omega)]; exact q⟩

end Lw_k16

namespace Lw_k16
open PySem Fr
local macro_rules | `(tactic| walk_at "ev") => `(tactic| simp only [Bool.or_true, Bool.true_or, Bool.and_self, Bool.or_self, Bool.and_true, Bool.true_and, Bool.false_or, Bool.or_false, Bool.false_and, Bool.and_false, ltG_int, ltG_str, ltG_ref, ltG_tup, memM_eq, notMemM_eq, memB_str, blK_some, nblK_some, eqM_ref, eqM_tup, neM_ref, neM_tup, isM_fl, isNotM_non, isNotM_int, isNotM_str, isNotM_bl, isNotM_tup, isNotM_ref, listM_ref, listM_tup, listM_fl, listK_lst, listK_dK, tupleM_ref, tupleM_tup, tupleM_fl, divmodM_int, strM_int, min2M_int, max2M_int, intsOf_map, sumM_ref, sortedM_ref, insertM_eq, extendM_eq, popAtM_eq, clearM_eq, indexLM_eq, tyM_list_fl, tV_eq, truK_bl, truK_non, truK_int, truK_tup, truK_ref, obB_lst, obB_dK, sAsgT_eq, tgK_some, gN_eq, gT_eq, gsCons_eq, gK_some, gsNil_eq, sSetIx_eq, setK_eq, sAug_eq, augK_some, iaddM_int, isubM_int, eListR_eq, rg1_eq, rg2_eq, rg1K_int, rg2K_int, iZip_eq, zipM_tup, zipM_ref, iRev_eq, revM_tup, revM_ref, eLc_eq, lcK_vals, lcK_live, lcK_gen, optS_some, wipeW_nil, wipeW_cons, tYs_eq, lcT_gN, turnK_ite, putK_ok, putL_lst, lcV_nil, andThen_some, srcK_gen, bd_eq, bdK_ok, bdK_ex, bdK_bad, bdK_ite, rt_eq, bad_eq, app_ite, onE_ok, onE_ex, onE_bad, onE_ite, seq_eq, seqK_nx, seqK_rt, seqK_bk, seqK_ct, seqK_ex, seqK_bad, seqK_ite, loopK_nx, loopK_ct, loopK_bk, loopK_rt, loopK_ex, loopK_bad, loopK_ite, fn_eq, fnK_rt, fnK_nx, fnK_ex, fnK_ite, eVar_0, eVar_s, eC_eq, eOp_eq, eUn_eq, eAnd_eq, eOr_eq, eNot_eq, boK_bl, eIf_eq, eChain_eq, tB_eq, tbK_bl, tAnd_eq, tOr_eq, tNot_eq, aNil_eq, aCons_eq, eTup_eq, eLst_eq, new_eq, eB_eq, eCall_eq, eM_eq, eSl_eq, oNone_eq, oSome_eq, intK_int, sNil_eq, sExpr_eq, sRet_eq, sRetN_eq, sIf_eq, sAsg_eq, sRaise_eq, sBreak_eq, sCont_eq, sFor_eq, srcK_vals, iE_eq, srcOf_tup, srcOf_fl, srcOf_str, forV_nil, addM_int, addM_str, addM_tup, subM_int, mulM_int, mulM_str, modM_int, fdivM_int, powM_int, negM_int, ltM_int, leM_int, gtM_int, geM_int, eqM_int, eqM_str, eqM_bl, neM_int, neM_str, neM_bl, isM_non, isM_int, isM_str, isM_bl, isM_tup, isM_ref, inM_str, notInM_str, lenM_str, lenM_tup, lenM_fl, intM_int, tyM_str, slM_str, isiM_non, isiM_bl, isiM_int, isiM_str, isiM_tup, resK_some, obL_lst, obS_lst, optK_some, isLst_lst, appendM_eq, popM_eq, reverseM_eq, lenM_refE, ixM_refE, ixM_tupE, ixM_flE, ixM_strE, srcOf_refE, srcK_liveE, tyM_refE, get_last, set_last, sTry_eq, tryK_nx, tryK_rt, noEx_nx, noEx_rt, sTryAs_eq, tryAsK_nx, tryAsK_rt, dropS_nx, dropS_rt, onNone_none, kb_NoneType_bool, kb_NoneType_int, kb_NoneType_str, kb_NoneType_tuple, kb_NoneType_list, kb_NoneType_dict, kb_bool_bool, kb_bool_int, kb_bool_str, kb_bool_tuple, kb_bool_list, kb_bool_dict, kb_int_bool, kb_int_int, kb_int_str, kb_int_tuple, kb_int_list, kb_int_dict, kb_str_bool, kb_str_int, kb_str_str, kb_str_tuple, kb_str_list, kb_str_dict, kb_tuple_bool, kb_tuple_int, kb_tuple_str, kb_tuple_tuple, kb_tuple_list, kb_tuple_dict, kb_list_bool, kb_list_int, kb_list_str, kb_list_tuple, kb_list_list, kb_list_dict, kb_dict_bool, kb_dict_int, kb_dict_str, kb_dict_tuple, kb_dict_list, kb_dict_dict, List.map_cons, List.map_nil, List.cons_append, List.nil_append, List.length_cons, List.length_nil, Nat.reduceAdd, Nat.reduceSub, List.replicate, List.set_cons_zero, List.set_cons_succ, Bool.false_eq_true, Bool.not_true, Bool.not_false, if_true, if_false, reduceIte, decide_eq_true_eq, Bool.not_eq_true', decide_eq_false_iff_not, not_true_eq_false, not_false_eq_true, ite_not, decide_true, decide_false, eq_self_iff_true, indexSM_eq, startsM_str, endsM_str, splitM_str, iR1_eq, iR2_eq, rngK_1, rngK2_2, chr1_eq, subS_one, and_self, true_and, and_true, false_and, and_false, or_true, true_or, or_self, false_or, or_false, ne_eq])
local macro_rules | `(tactic| walk_at "evh") => `(tactic| simp only [Bool.or_true, Bool.true_or, Bool.and_self, Bool.or_self, Bool.and_true, Bool.true_and, Bool.false_or, Bool.or_false, Bool.false_and, Bool.and_false, ltG_int, ltG_str, ltG_ref, ltG_tup, memM_eq, notMemM_eq, memB_str, blK_some, nblK_some, eqM_ref, eqM_tup, neM_ref, neM_tup, isM_fl, isNotM_non, isNotM_int, isNotM_str, isNotM_bl, isNotM_tup, isNotM_ref, listM_ref, listM_tup, listM_fl, listK_lst, listK_dK, tupleM_ref, tupleM_tup, tupleM_fl, divmodM_int, strM_int, min2M_int, max2M_int, intsOf_map, sumM_ref, sortedM_ref, insertM_eq, extendM_eq, popAtM_eq, clearM_eq, indexLM_eq, tyM_list_fl, tV_eq, truK_bl, truK_non, truK_int, truK_tup, truK_ref, obB_lst, obB_dK, sAsgT_eq, tgK_some, gN_eq, gT_eq, gsCons_eq, gK_some, gsNil_eq, sSetIx_eq, setK_eq, sAug_eq, augK_some, iaddM_int, isubM_int, eListR_eq, rg1_eq, rg2_eq, rg1K_int, rg2K_int, iZip_eq, zipM_tup, zipM_ref, iRev_eq, revM_tup, revM_ref, eLc_eq, lcK_vals, lcK_live, lcK_gen, optS_some, wipeW_nil, wipeW_cons, tYs_eq, lcT_gN, turnK_ite, putK_ok, putL_lst, lcV_nil, andThen_some, srcK_gen, bd_eq, bdK_ok, bdK_ex, bdK_bad, bdK_ite, rt_eq, bad_eq, app_ite, onE_ok, onE_ex, onE_bad, onE_ite, seq_eq, seqK_nx, seqK_rt, seqK_bk, seqK_ct, seqK_ex, seqK_bad, seqK_ite, loopK_nx, loopK_ct, loopK_bk, loopK_rt, loopK_ex, loopK_bad, loopK_ite, fn_eq, fnK_rt, fnK_nx, fnK_ex, fnK_ite, eVar_0, eVar_s, eC_eq, eOp_eq, eUn_eq, eAnd_eq, eOr_eq, eNot_eq, boK_bl, eIf_eq, eChain_eq, tB_eq, tbK_bl, tAnd_eq, tOr_eq, tNot_eq, aNil_eq, aCons_eq, eTup_eq, eLst_eq, new_eq, eB_eq, eCall_eq, eM_eq, eSl_eq, oNone_eq, oSome_eq, intK_int, sNil_eq, sExpr_eq, sRet_eq, sRetN_eq, sIf_eq, sAsg_eq, sRaise_eq, sBreak_eq, sCont_eq, sFor_eq, srcK_vals, iE_eq, srcOf_tup, srcOf_fl, srcOf_str, forV_nil, addM_int, addM_str, addM_tup, subM_int, mulM_int, mulM_str, modM_int, fdivM_int, powM_int, negM_int, ltM_int, leM_int, gtM_int, geM_int, eqM_int, eqM_str, eqM_bl, neM_int, neM_str, neM_bl, isM_non, isM_int, isM_str, isM_bl, isM_tup, isM_ref, inM_str, notInM_str, lenM_str, lenM_tup, lenM_fl, intM_int, tyM_str, slM_str, isiM_non, isiM_bl, isiM_int, isiM_str, isiM_tup, resK_some, obL_lst, obS_lst, optK_some, isLst_lst, appendM_eq, popM_eq, reverseM_eq, lenM_refE, ixM_refE, ixM_tupE, ixM_flE, ixM_strE, srcOf_refE, srcK_liveE, tyM_refE, get_last, set_last, sTry_eq, tryK_nx, tryK_rt, noEx_nx, noEx_rt, sTryAs_eq, tryAsK_nx, tryAsK_rt, dropS_nx, dropS_rt, onNone_none, kb_NoneType_bool, kb_NoneType_int, kb_NoneType_str, kb_NoneType_tuple, kb_NoneType_list, kb_NoneType_dict, kb_bool_bool, kb_bool_int, kb_bool_str, kb_bool_tuple, kb_bool_list, kb_bool_dict, kb_int_bool, kb_int_int, kb_int_str, kb_int_tuple, kb_int_list, kb_int_dict, kb_str_bool, kb_str_int, kb_str_str, kb_str_tuple, kb_str_list, kb_str_dict, kb_tuple_bool, kb_tuple_int, kb_tuple_str, kb_tuple_tuple, kb_tuple_list, kb_tuple_dict, kb_list_bool, kb_list_int, kb_list_str, kb_list_tuple, kb_list_list, kb_list_dict, kb_dict_bool, kb_dict_int, kb_dict_str, kb_dict_tuple, kb_dict_list, kb_dict_dict, List.map_cons, List.map_nil, List.cons_append, List.nil_append, List.length_cons, List.length_nil, Nat.reduceAdd, Nat.reduceSub, List.replicate, List.set_cons_zero, List.set_cons_succ, Bool.false_eq_true, Bool.not_true, Bool.not_false, if_true, if_false, reduceIte, decide_eq_true_eq, Bool.not_eq_true', decide_eq_false_iff_not, not_true_eq_false, not_false_eq_true, ite_not, decide_true, decide_false, eq_self_iff_true, indexSM_eq, startsM_str, endsM_str, splitM_str, iR1_eq, iR2_eq, rngK_1, rngK2_2, chr1_eq, subS_one, and_self, true_and, and_true, false_and, and_false, or_true, true_or, or_self, false_or, or_false, ne_eq, *])
/-! ### the lists that are drawn -/
theorem findD_at {α : Type} {f : α → PyData} [DecidableEq α] : ∀ {is : List α} {j k : Nat} {x : α}, is.Nodup → (∀ a ∈ is, ∀ b ∈ is, PyData.eqv (f a) (f b) = decide (a = b)) → is[j]? = some x → findD (f x) (is.map f) k = some (k + j)
  | [], _, _, _, _, _, h => by simp at h
  | a :: is, 0, k, x, hn, he, h => by
    simp at h
    subst h
    unfold findD
    rw [List.map_cons]
    simp only
    rw [he a (by simp) a (by simp), decide_eq_true rfl, if_pos rfl]
    rfl
  | a :: is, j + 1, k, x, hn, he, h => by
    have hx : x ∈ is := List.mem_of_getElem? (by simpa using h)
    have hne : a ≠ x := fun e => (List.nodup_cons.mp hn).1 (e ▸ hx)
    have ih := findD_at (k := k + 1) (List.nodup_cons.mp hn).2 (fun p hp q hq => he p (List.mem_cons_of_mem _ hp) q (List.mem_cons_of_mem _ hq)) (show is[j]? = some x by simpa using h)
    rw [List.map_cons]
    unfold findD
    rw [he a (by simp) x (List.mem_cons_of_mem _ hx), decide_eq_false hne, if_neg Bool.false_ne_true, ih]
    congr 1
    omega
theorem lay_map {f : Int → PyData} : ∀ {is : List Int}, (∀ a ∈ is, (f a).canLay0 = true) → PyData.canLayAll0 (is.map f) = true
  | [], _ => rfl
  | a :: is, h => by
    rw [List.map_cons]
    unfold PyData.canLayAll0
    rw [h a (by simp), lay_map fun b hb => h b (List.mem_cons_of_mem _ hb)]
    rfl
theorem good_map {f : Int → PyData} {is : List Int} (h1 : 1 ≤ is.length) (h2 : is.length ≤ 1000) (hn : is.Nodup) (hc : ∀ a ∈ is, (f a).canLay0 = true) (he : ∀ a ∈ is, ∀ b ∈ is, PyData.eqv (f a) (f b) = decide (a = b)) (hsm : ∀ a n, smD n (f a)) : GoodL (is.map f) := by
  refine ⟨by simpa using h1, by simpa using h2, lay_map hc, fun j x hx => ?_, fun x hx n => by obtain ⟨a, _, rfl⟩ := List.mem_map.mp hx; exact hsm a n⟩
  rw [List.getElem?_map] at hx
  cases hi : is[j]? with
  | none => rw [hi] at hx; cases hx
  | some a =>
    rw [hi] at hx
    cases hx
    have := findD_at (k := 0) hn he hi
    rwa [Nat.zero_add] at this
def tupA (i : Int) : PyData := .tuple [.str (Str.ofString "a"), .int i]
def strA (i : Int) : PyData := .str (toString i)
theorem eqv_int (a b : Int) : PyData.eqv (.int a) (.int b) = decide (a = b) := by
  unfold PyData.eqv
  by_cases h : a = b
  · subst h; simp
  · simp [h]
theorem eqv_tupA (a b : Int) : PyData.eqv (tupA a) (tupA b) = decide (a = b) := by
  unfold tupA
  have e : PyData.eqv (.tuple [.str (Str.ofString "a"), .int a]) (.tuple [.str (Str.ofString "a"), .int b]) = (PyData.eqv (.str (Str.ofString "a")) (.str (Str.ofString "a")) && (PyData.eqv (.int a) (.int b) && true)) := by
    simp only [PyData.eqv, PyData.eqvAll]
  rw [e, eqv_int, show PyData.eqv (.str (Str.ofString "a")) (.str (Str.ofString "a")) = true by decide +kernel]
  simp
theorem text_all : ∀ n : Fin 200, PySem.intText? (toString (n.val : Int)) = some (n.val : Int) ∧ (PyData.str (toString (n.val : Int))).canLay0 = true := by decide +kernel
theorem text_inv {i : Int} (h0 : 0 ≤ i) (h1 : i < 200) : PySem.intText? (toString i) = some i ∧ (strA i).canLay0 = true := by
  obtain ⟨n, rfl⟩ := Int.eq_ofNat_of_zero_le h0
  exact text_all ⟨n, by omega⟩
theorem eqv_strA {a b : Int} (ha : 0 ≤ a ∧ a < 200) (hb : 0 ≤ b ∧ b < 200) : PyData.eqv (strA a) (strA b) = decide (a = b) := by
  have e1 := (text_inv ha.1 ha.2).1
  have e2 := (text_inv hb.1 hb.2).1
  unfold strA
  show ((toString a : Str) == (toString b : Str)) = _
  by_cases h : a = b
  · subst h; simp
  · rw [decide_eq_false h]
    apply Bool.eq_false_iff.mpr
    intro q
    have q' := beq_iff_eq.mp q
    rw [q'] at e1
    rw [e1] at e2
    cases e2
    exact h rfl
theorem lay_tupA (a : Int) : (tupA a).canLay0 = true := by
  show (PyData.canLay0 (.str (Str.ofString "a")) && (true && true)) = true
  rw [show PyData.canLay0 (.str (Str.ofString "a")) = true by decide +kernel]
  rfl
theorem sm_int (a : Int) (n : Nat) : smD n (.int a) := by cases n <;> trivial
theorem sm_strA (a : Int) (n : Nat) : smD n (strA a) := by cases n <;> trivial
theorem sm_tupA (a : Int) (n : Nat) : smD n (tupA a) := by
  cases n with
  | zero => trivial
  | succ n =>
    refine ⟨by simp, fun y hy => ?_⟩
    simp at hy
    rcases hy with rfl | rfl <;> (cases n <;> trivial)
def isOf (base step : Int) (n : Nat) : List Int := (List.range n).map fun (k : Nat) => base + step * (k : Int)
theorem isOf_succ (base step : Int) (n : Nat) : isOf base step (n + 1) = isOf base step n ++ [base + step * (n : Int)] := by
  unfold isOf
  rw [List.range_succ, List.map_append]
  rfl
theorem isOf_nodup {base step : Int} (h : 1 ≤ step) (n : Nat) : (isOf base step n).Nodup := by
  unfold isOf
  rw [List.nodup_iff_pairwise_ne, List.pairwise_map]
  refine List.Pairwise.imp ?_ List.pairwise_lt_range
  intro a b hab e
  have e1 : step * (a : Int) = step * (b : Int) := by omega
  have := Int.eq_of_mul_eq_mul_left (by omega : step ≠ 0) e1
  omega
theorem isOf_mem {base step : Int} {n : Nat} (hb : 0 ≤ base ∧ base < 100) (hs : 1 ≤ step ∧ step ≤ 9) (hn : n ≤ 5) : ∀ i ∈ isOf base step n, 0 ≤ i ∧ i < 200 := by
  intro i hi
  unfold isOf at hi
  obtain ⟨k, hk, rfl⟩ := List.mem_map.mp hi
  have hk' := List.mem_range.mp hk
  have h1 : 0 ≤ step * (k : Int) := Int.mul_nonneg (by omega) (by omega)
  have h2 : step * (k : Int) ≤ 9 * 4 := Int.mul_le_mul (by omega) (by omega) (by omega) (by omega)
  omega
theorem list_run {h : List Nat} {S : Sto} {d : Nat} (hd : HasD d S) (hh : ∀ i ∈ h, i < S.length) : ∃ S' k xs, m__law_list [.ref d] S = .ok (.ref k) S' ∧ Vw h S' 3 (.ref k) (.list xs) ∧ GoodL xs ∧ Kp [d] S S' ∧ HasD d S' ∧ S.length ≤ k ∧ k < S'.length := by
  obtain ⟨sz, S1, hsz, k1, l1, d1, e1⟩ := pickK hd (is := [2, 1, 3, 4, 5]) (by decide)
  obtain ⟨ba, S2, hba, k2, l2, d2, e2⟩ := drawK d1 (n := 100) (by decide)
  obtain ⟨st, S3, hst, k3, l3, d3, e3⟩ := drawK d2 (n := 9) (by decide)
  obtain ⟨wy, S4, hwy, k4, l4, d4, e4⟩ := drawK d3 (n := 4) (by decide)
  have kk : Kp [d] S S4 := ((k1.trans k2).trans k3).trans k4
  have hl4 : S4.length = S.length + 1 := by omega
  have hsz' : 1 ≤ sz ∧ sz ≤ 5 := by simp at hsz; omega
  obtain ⟨n, rfl⟩ := Int.eq_ofNat_of_zero_le (show 0 ≤ sz by omega)
  have hn : 1 ≤ n ∧ n ≤ 5 := by omega
  have hdl := hd.lt
  -- the first list
  obtain ⟨T, eT, hT⟩ := lcV_all (g := gN 6) (tt := tYs) (e := eOp addM (eVar 2) (eOp mulM (eVar 3) (eVar 6))) (s0 := [some (.ref d), some (.int (n : Int)), some (.int ba), some (.int (1 + st)), some (.int wy), none, none, none]) (D := S4.length) (rng 0 n)
    (fun pre T => T = S4 ++ [oI (isOf ba (1 + st) pre.length)])
    (fun pre x suf T e hI => by
      subst hI
      obtain ⟨rfl, hlt⟩ := rng_at e
      refine ⟨_, ?_, rfl⟩
      rw [List.length_append, List.length_singleton, isOf_succ, Int.zero_add]
      have hm : inR 18446744073709551615 (1 + st) = true := inR_iff.mpr (by omega)
      have hz : (List.map W.int (isOf ba (1 + st) pre.length)).length < sizeLine := by
        rw [List.length_map, sizeLine_n]; unfold isOf; simp; omega
      clear e1 e2 e3 e4 e k1 k2 k3 k4 kk hh d1 d2 d3 d4 hd l1 l2 l3 l4 hl4 hdl hba hst hwy hn hsz hsz'
      rw [lcT_gN]
      show turnK (tYs [some (.ref d), some (.int (n : Int)), some (.int ba), some (.int (1 + st)), some (.int wy), none, some (.int (pre.length : Int)), none] _) [some (.ref d), some (.int (n : Int)), some (.int ba), some (.int (1 + st)), some (.int wy), none, some (.int (pre.length : Int)), none] _ _ = _
      walk_at "evh"
      simp)
    (S := S4 ++ [.lst []]) rfl
  rw [rng_len] at hT
  subst hT
  obtain ⟨is, his⟩ : ∃ is, isOf ba (1 + st) n = is := ⟨_, rfl⟩
  have hil : is.length = n := by rw [← his]; simp [isOf]
  have hnd : is.Nodup := by rw [← his]; exact isOf_nodup (by omega) n
  have hmem := isOf_mem (base := ba) (step := 1 + st) (n := n) hba (by omega) hn.2
  rw [his] at eT hmem
  clear his
  have hin : inR 4611686018427387903 (n : Int) = true := inR_iff.mpr (by omega)
  have htn : ((n : Int)).toNat = n := by omega
  have h5 : 5 ≤ sizeLine := by rw [sizeLine_n]; decide
  have hnoth : ∀ (j : Nat), S4.length ≤ j → j ∉ h := fun j hj q => by have := hh j q; omega
  have hwd : wy = 0 ∨ wy = 1 ∨ wy = 2 ∨ wy = 3 := by omega
  have e1' : m__law_pick [.ref d, .ref S.length] (S ++ [.lst [.int 2, .int 1, .int 3, .int 4, .int 5]]) = .ok (.int (n : Int)) S1 := e1
  have hd4 : HasD d (S4 ++ [oI is]) := d4.app _
  rcases hwd with rfl | rfl | rfl | rfl
  · refine ⟨S4 ++ [oI is], S4.length, is.map .int, ?_, Vw.ints (n := 1) (get_last _ _) (hnoth _ (Nat.le_refl _)), good_map (by omega) (by omega) hnd (fun _ _ => rfl) (fun a _ b _ => eqv_int a b) sm_int, kk.trans (Kp.app _), hd4, by omega, by simp⟩
    unfold m__law_list b__law_list
    have z1 : ¬ (0 : Int) = 1 := by decide
    have z2 : ¬ (0 : Int) = 2 := by decide
    have z3 : ¬ (0 : Int) = 3 := by decide
    clear k1 k2 k3 k4 kk hh d1 d2 d3 d4 hd hnd hmem hnoth hba hst hwy hn hsz hsz' e1 hd4 l1 l2 l3 l4 hl4 hil hdl
    walk_at "evh"
  · refine ⟨S4 ++ [oI is.reverse], S4.length, is.reverse.map .int, ?_, Vw.ints (n := 1) (get_last _ _) (hnoth _ (Nat.le_refl _)), good_map (by simp; omega) (by simp; omega) (by rw [List.nodup_iff_pairwise_ne, List.pairwise_reverse]; exact List.Pairwise.imp Ne.symm (List.nodup_iff_pairwise_ne.mp hnd)) (fun _ _ => rfl) (fun a _ b _ => eqv_int a b) sm_int, kk.trans (Kp.app _), d4.app _, by omega, by simp⟩
    unfold m__law_list b__law_list
    have z2 : ¬ (1 : Int) = 2 := by decide
    have z3 : ¬ (1 : Int) = 3 := by decide
    have er : (List.map W.int is).reverse = List.map W.int is.reverse := List.map_reverse.symm
    clear k1 k2 k3 k4 kk hh d1 d2 d3 d4 hd hnd hmem hnoth hba hst hwy hn hsz hsz' e1 hd4 l1 l2 l3 l4 hl4 hil hdl
    walk_at "evh"
  · obtain ⟨T, eT2, hT2⟩ := lcL_all (g := gN 7) (tt := tYs) (e := eTup (aCons (eC (.str (Str.ofString "a"))) (aCons (eVar 7) aNil))) (s0 := [some (.ref d), some (.int (n : Int)), some (.int ba), some (.int (1 + st)), some (.int 2), some (.ref S4.length), none, none]) (D := S4.length + 1) (a := S4.length) (is.map W.int)
      (fun pre T => T = S4 ++ [oI is] ++ [.lst ((is.take pre.length).map fun i => W.tup [.str (Str.ofString "a"), .int i])]) (fun pre T h => by rw [h]; exact get_old _ (get_last _ _))
      (fun pre x suf T e hI => by
        subst hI
        obtain ⟨t, h1, rfl, h2, h3⟩ := map_at e
        refine ⟨_, ?_, rfl⟩
        rw [List.length_append, List.length_singleton, h3]
        have hz : (List.map (fun i => W.tup [W.str (Str.ofString "a"), W.int i]) (is.take pre.length)).length < sizeLine := by
          rw [List.length_map, sizeLine_n, List.length_take]; omega
        have hz2 : 2 ≤ sizeLine := by rw [sizeLine_n]; decide
        have eD : S4.length + 1 = (S4 ++ [oI is]).length := by simp
        rw [eD]
        clear e1 e2 e3 e4 e k1 k2 k3 k4 kk hh d1 d2 d3 d4 hd eT h1 h2 h3 hd4 hmem hnoth hnd e1' l1 l2 l3 l4 hl4 hil hdl hba hst hwy hn hsz hsz' eD
        rw [lcT_gN]
        show turnK (tYs [some (.ref d), some (.int (n : Int)), some (.int ba), some (.int (1 + st)), some (.int 2), some (.ref S4.length), none, some (.int t)] _) [some (.ref d), some (.int (n : Int)), some (.int ba), some (.int (1 + st)), some (.int 2), some (.ref S4.length), none, some (.int t)] _ _ = _
        walk_at "evh"
        simp)
      (S := S4 ++ [oI is] ++ [.lst []]) rfl
    rw [List.length_map, List.take_length] at hT2
    subst hT2
    refine ⟨S4 ++ [oI is] ++ [.lst (is.map fun i => W.tup [.str (Str.ofString "a"), .int i])], S4.length + 1, is.map tupA, ?_, ?_, good_map (by omega) (by omega) hnd (fun a _ => lay_tupA a) (fun a _ b _ => eqv_tupA a b) sm_tupA, (kk.trans (Kp.app _)).trans (Kp.app _), hd4.app _, by omega, by simp⟩
    · unfold m__law_list b__law_list
      have z1 : ¬ (2 : Int) = 1 := by decide
      have z3 : ¬ (2 : Int) = 3 := by decide
      have el : (S4 ++ [oI is]).length = S4.length + 1 := by simp
      clear k1 k2 k3 k4 kk hh d1 d2 d3 d4 hd hnd hmem hnoth hba hst hwy hn hsz hsz' e1 hd4 l1 l2 l3 l4 hl4 hil hdl
      walk_at "evh"
    · refine Vw.lst (by rw [show S4.length + 1 = (S4 ++ [oI is]).length by simp]; exact get_last _ _) (hnoth _ (by omega)) (Al.map fun i _ => ?_)
      exact Vw.tup (.cons Vw.str (.cons Vw.int .nil))
  · obtain ⟨T, eT2, hT2⟩ := lcL_all (g := gN 7) (tt := tYs) (e := eB strM (aCons (eVar 7) aNil)) (s0 := [some (.ref d), some (.int (n : Int)), some (.int ba), some (.int (1 + st)), some (.int 3), some (.ref S4.length), none, none]) (D := S4.length + 1) (a := S4.length) (is.map W.int)
      (fun pre T => T = S4 ++ [oI is] ++ [.lst ((is.take pre.length).map fun i => W.str (toString i))]) (fun pre T h => by rw [h]; exact get_old _ (get_last _ _))
      (fun pre x suf T e hI => by
        subst hI
        obtain ⟨t, h1, rfl, h2, h3⟩ := map_at e
        refine ⟨_, ?_, rfl⟩
        rw [List.length_append, List.length_singleton, h3]
        have hz : (List.map (fun i : Int => W.str (toString i)) (is.take pre.length)).length < sizeLine := by
          rw [List.length_map, sizeLine_n, List.length_take]; omega
        have hlog : t.natAbs.log2 < 1920 := by
          have := hmem t (List.mem_of_getElem? h1)
          have h9 : t.natAbs.log2 ≤ t.natAbs := Nat.log2_le_self _
          omega
        have eD : S4.length + 1 = (S4 ++ [oI is]).length := by simp
        rw [eD]
        clear e1 e2 e3 e4 e k1 k2 k3 k4 kk hh d1 d2 d3 d4 hd eT h1 h2 h3 hd4 hmem hnoth hnd e1' l1 l2 l3 l4 hl4 hil hdl hba hst hwy hn hsz hsz' eD
        rw [lcT_gN]
        show turnK (tYs [some (.ref d), some (.int (n : Int)), some (.int ba), some (.int (1 + st)), some (.int 3), some (.ref S4.length), none, some (.int t)] _) [some (.ref d), some (.int (n : Int)), some (.int ba), some (.int (1 + st)), some (.int 3), some (.ref S4.length), none, some (.int t)] _ _ = _
        walk_at "evh"
        simp)
      (S := S4 ++ [oI is] ++ [.lst []]) rfl
    rw [List.length_map, List.take_length] at hT2
    subst hT2
    refine ⟨S4 ++ [oI is] ++ [.lst (is.map fun i => W.str (toString i))], S4.length + 1, is.map strA, ?_, ?_, good_map (by omega) (by omega) hnd (fun a ha => (text_inv (hmem a ha).1 (hmem a ha).2).2) (fun a ha b hb => eqv_strA (hmem a ha) (hmem b hb)) sm_strA, (kk.trans (Kp.app _)).trans (Kp.app _), hd4.app _, by omega, by simp⟩
    · unfold m__law_list b__law_list
      have z1 : ¬ (3 : Int) = 1 := by decide
      have z3 : ¬ (3 : Int) = 2 := by decide
      have el : (S4 ++ [oI is]).length = S4.length + 1 := by simp
      clear k1 k2 k3 k4 kk hh d1 d2 d3 d4 hd hnd hmem hnoth hba hst hwy hn hsz hsz' e1 hd4 l1 l2 l3 l4 hl4 hil hdl
      walk_at "evh"
    · refine Vw.lst (by rw [show S4.length + 1 = (S4 ++ [oI is]).length by simp]; exact get_last _ _) (hnoth _ (by omega)) (Al.map fun i _ => ?_)
      exact Vw.str

end Lw_k16

namespace Lw_k16
open PySem Fr
local macro_rules | `(tactic| walk_at "ev") => `(tactic| simp only [Bool.or_true, Bool.true_or, Bool.and_self, Bool.or_self, Bool.and_true, Bool.true_and, Bool.false_or, Bool.or_false, Bool.false_and, Bool.and_false, ltG_int, ltG_str, ltG_ref, ltG_tup, memM_eq, notMemM_eq, memB_str, blK_some, nblK_some, eqM_ref, eqM_tup, neM_ref, neM_tup, isM_fl, isNotM_non, isNotM_int, isNotM_str, isNotM_bl, isNotM_tup, isNotM_ref, listM_ref, listM_tup, listM_fl, listK_lst, listK_dK, tupleM_ref, tupleM_tup, tupleM_fl, divmodM_int, strM_int, min2M_int, max2M_int, intsOf_map, sumM_ref, sortedM_ref, insertM_eq, extendM_eq, popAtM_eq, clearM_eq, indexLM_eq, tyM_list_fl, tV_eq, truK_bl, truK_non, truK_int, truK_tup, truK_ref, obB_lst, obB_dK, sAsgT_eq, tgK_some, gN_eq, gT_eq, gsCons_eq, gK_some, gsNil_eq, sSetIx_eq, setK_eq, sAug_eq, augK_some, iaddM_int, isubM_int, eListR_eq, rg1_eq, rg2_eq, rg1K_int, rg2K_int, iZip_eq, zipM_tup, zipM_ref, iRev_eq, revM_tup, revM_ref, eLc_eq, lcK_vals, lcK_live, lcK_gen, optS_some, wipeW_nil, wipeW_cons, tYs_eq, lcT_gN, turnK_ite, putK_ok, putL_lst, lcV_nil, andThen_some, srcK_gen, bd_eq, bdK_ok, bdK_ex, bdK_bad, bdK_ite, rt_eq, bad_eq, app_ite, onE_ok, onE_ex, onE_bad, onE_ite, seq_eq, seqK_nx, seqK_rt, seqK_bk, seqK_ct, seqK_ex, seqK_bad, seqK_ite, loopK_nx, loopK_ct, loopK_bk, loopK_rt, loopK_ex, loopK_bad, loopK_ite, fn_eq, fnK_rt, fnK_nx, fnK_ex, fnK_ite, eVar_0, eVar_s, eC_eq, eOp_eq, eUn_eq, eAnd_eq, eOr_eq, eNot_eq, boK_bl, eIf_eq, eChain_eq, tB_eq, tbK_bl, tAnd_eq, tOr_eq, tNot_eq, aNil_eq, aCons_eq, eTup_eq, eLst_eq, new_eq, eB_eq, eCall_eq, eM_eq, eSl_eq, oNone_eq, oSome_eq, intK_int, sNil_eq, sExpr_eq, sRet_eq, sRetN_eq, sIf_eq, sAsg_eq, sRaise_eq, sBreak_eq, sCont_eq, sFor_eq, srcK_vals, iE_eq, srcOf_tup, srcOf_fl, srcOf_str, forV_nil, addM_int, addM_str, addM_tup, subM_int, mulM_int, mulM_str, modM_int, fdivM_int, powM_int, negM_int, ltM_int, leM_int, gtM_int, geM_int, eqM_int, eqM_str, eqM_bl, neM_int, neM_str, neM_bl, isM_non, isM_int, isM_str, isM_bl, isM_tup, isM_ref, inM_str, notInM_str, lenM_str, lenM_tup, lenM_fl, intM_int, tyM_str, slM_str, isiM_non, isiM_bl, isiM_int, isiM_str, isiM_tup, resK_some, obL_lst, obS_lst, optK_some, isLst_lst, appendM_eq, popM_eq, reverseM_eq, lenM_refE, ixM_refE, ixM_tupE, ixM_flE, ixM_strE, srcOf_refE, srcK_liveE, tyM_refE, get_last, set_last, sTry_eq, tryK_nx, tryK_rt, noEx_nx, noEx_rt, sTryAs_eq, tryAsK_nx, tryAsK_rt, dropS_nx, dropS_rt, onNone_none, kb_NoneType_bool, kb_NoneType_int, kb_NoneType_str, kb_NoneType_tuple, kb_NoneType_list, kb_NoneType_dict, kb_bool_bool, kb_bool_int, kb_bool_str, kb_bool_tuple, kb_bool_list, kb_bool_dict, kb_int_bool, kb_int_int, kb_int_str, kb_int_tuple, kb_int_list, kb_int_dict, kb_str_bool, kb_str_int, kb_str_str, kb_str_tuple, kb_str_list, kb_str_dict, kb_tuple_bool, kb_tuple_int, kb_tuple_str, kb_tuple_tuple, kb_tuple_list, kb_tuple_dict, kb_list_bool, kb_list_int, kb_list_str, kb_list_tuple, kb_list_list, kb_list_dict, kb_dict_bool, kb_dict_int, kb_dict_str, kb_dict_tuple, kb_dict_list, kb_dict_dict, List.map_cons, List.map_nil, List.cons_append, List.nil_append, List.length_cons, List.length_nil, Nat.reduceAdd, Nat.reduceSub, List.replicate, List.set_cons_zero, List.set_cons_succ, Bool.false_eq_true, Bool.not_true, Bool.not_false, if_true, if_false, reduceIte, decide_eq_true_eq, Bool.not_eq_true', decide_eq_false_iff_not, not_true_eq_false, not_false_eq_true, ite_not, decide_true, decide_false, eq_self_iff_true, indexSM_eq, startsM_str, endsM_str, splitM_str, iR1_eq, iR2_eq, rngK_1, rngK2_2, chr1_eq, subS_one, and_self, true_and, and_true, false_and, and_false, or_true, true_or, or_self, false_or, or_false, ne_eq])
local macro_rules | `(tactic| walk_at "evh") => `(tactic| simp only [Bool.or_true, Bool.true_or, Bool.and_self, Bool.or_self, Bool.and_true, Bool.true_and, Bool.false_or, Bool.or_false, Bool.false_and, Bool.and_false, ltG_int, ltG_str, ltG_ref, ltG_tup, memM_eq, notMemM_eq, memB_str, blK_some, nblK_some, eqM_ref, eqM_tup, neM_ref, neM_tup, isM_fl, isNotM_non, isNotM_int, isNotM_str, isNotM_bl, isNotM_tup, isNotM_ref, listM_ref, listM_tup, listM_fl, listK_lst, listK_dK, tupleM_ref, tupleM_tup, tupleM_fl, divmodM_int, strM_int, min2M_int, max2M_int, intsOf_map, sumM_ref, sortedM_ref, insertM_eq, extendM_eq, popAtM_eq, clearM_eq, indexLM_eq, tyM_list_fl, tV_eq, truK_bl, truK_non, truK_int, truK_tup, truK_ref, obB_lst, obB_dK, sAsgT_eq, tgK_some, gN_eq, gT_eq, gsCons_eq, gK_some, gsNil_eq, sSetIx_eq, setK_eq, sAug_eq, augK_some, iaddM_int, isubM_int, eListR_eq, rg1_eq, rg2_eq, rg1K_int, rg2K_int, iZip_eq, zipM_tup, zipM_ref, iRev_eq, revM_tup, revM_ref, eLc_eq, lcK_vals, lcK_live, lcK_gen, optS_some, wipeW_nil, wipeW_cons, tYs_eq, lcT_gN, turnK_ite, putK_ok, putL_lst, lcV_nil, andThen_some, srcK_gen, bd_eq, bdK_ok, bdK_ex, bdK_bad, bdK_ite, rt_eq, bad_eq, app_ite, onE_ok, onE_ex, onE_bad, onE_ite, seq_eq, seqK_nx, seqK_rt, seqK_bk, seqK_ct, seqK_ex, seqK_bad, seqK_ite, loopK_nx, loopK_ct, loopK_bk, loopK_rt, loopK_ex, loopK_bad, loopK_ite, fn_eq, fnK_rt, fnK_nx, fnK_ex, fnK_ite, eVar_0, eVar_s, eC_eq, eOp_eq, eUn_eq, eAnd_eq, eOr_eq, eNot_eq, boK_bl, eIf_eq, eChain_eq, tB_eq, tbK_bl, tAnd_eq, tOr_eq, tNot_eq, aNil_eq, aCons_eq, eTup_eq, eLst_eq, new_eq, eB_eq, eCall_eq, eM_eq, eSl_eq, oNone_eq, oSome_eq, intK_int, sNil_eq, sExpr_eq, sRet_eq, sRetN_eq, sIf_eq, sAsg_eq, sRaise_eq, sBreak_eq, sCont_eq, sFor_eq, srcK_vals, iE_eq, srcOf_tup, srcOf_fl, srcOf_str, forV_nil, addM_int, addM_str, addM_tup, subM_int, mulM_int, mulM_str, modM_int, fdivM_int, powM_int, negM_int, ltM_int, leM_int, gtM_int, geM_int, eqM_int, eqM_str, eqM_bl, neM_int, neM_str, neM_bl, isM_non, isM_int, isM_str, isM_bl, isM_tup, isM_ref, inM_str, notInM_str, lenM_str, lenM_tup, lenM_fl, intM_int, tyM_str, slM_str, isiM_non, isiM_bl, isiM_int, isiM_str, isiM_tup, resK_some, obL_lst, obS_lst, optK_some, isLst_lst, appendM_eq, popM_eq, reverseM_eq, lenM_refE, ixM_refE, ixM_tupE, ixM_flE, ixM_strE, srcOf_refE, srcK_liveE, tyM_refE, get_last, set_last, sTry_eq, tryK_nx, tryK_rt, noEx_nx, noEx_rt, sTryAs_eq, tryAsK_nx, tryAsK_rt, dropS_nx, dropS_rt, onNone_none, kb_NoneType_bool, kb_NoneType_int, kb_NoneType_str, kb_NoneType_tuple, kb_NoneType_list, kb_NoneType_dict, kb_bool_bool, kb_bool_int, kb_bool_str, kb_bool_tuple, kb_bool_list, kb_bool_dict, kb_int_bool, kb_int_int, kb_int_str, kb_int_tuple, kb_int_list, kb_int_dict, kb_str_bool, kb_str_int, kb_str_str, kb_str_tuple, kb_str_list, kb_str_dict, kb_tuple_bool, kb_tuple_int, kb_tuple_str, kb_tuple_tuple, kb_tuple_list, kb_tuple_dict, kb_list_bool, kb_list_int, kb_list_str, kb_list_tuple, kb_list_list, kb_list_dict, kb_dict_bool, kb_dict_int, kb_dict_str, kb_dict_tuple, kb_dict_list, kb_dict_dict, List.map_cons, List.map_nil, List.cons_append, List.nil_append, List.length_cons, List.length_nil, Nat.reduceAdd, Nat.reduceSub, List.replicate, List.set_cons_zero, List.set_cons_succ, Bool.false_eq_true, Bool.not_true, Bool.not_false, if_true, if_false, reduceIte, decide_eq_true_eq, Bool.not_eq_true', decide_eq_false_iff_not, not_true_eq_false, not_false_eq_true, ite_not, decide_true, decide_false, eq_self_iff_true, indexSM_eq, startsM_str, endsM_str, splitM_str, iR1_eq, iR2_eq, rngK_1, rngK2_2, chr1_eq, subS_one, and_self, true_and, and_true, false_and, and_false, or_true, true_or, or_self, false_or, or_false, ne_eq, *])
/-! ### numbers asked -/
theorem same_int (a : Int) (S : Sto) : m__law_same 4 [.int a, .int a] S = .ok (.bl true) S := by
  rw [same_eq]; exact same_ok 1 _ _ (.int a) rfl rfl trivial 4 (by omega)
theorem same_ints {S : Sto} {i j : Nat} {is : List Int} (h1 : S[i]? = some (oI is)) (h2 : S[j]? = some (oI is)) (hl : is.length ≤ 1001) : m__law_same 4 [.ref i, .ref j] S = .ok (.bl true) S := by
  rw [same_eq]
  exact same_vw (h := []) (h' := []) (Vw.ints (n := 0) h1 (by simp)) (Vw.ints (n := 0) h2 (by simp)) (smD_ints (by omega)) 4 (by omega)
theorem alike_ints : ∀ (as bs : List Int), PySem.W.alikeAll (as.map PyData.int) (bs.map PyData.int) = true
  | [], bs => by unfold PySem.W.alikeAll; cases bs <;> rfl
  | a :: as, [] => rfl
  | a :: as, b :: bs => by
    rw [List.map_cons, List.map_cons]
    unfold PySem.W.alikeAll
    rw [alike_ints as bs]
    rfl
theorem lay_ints : ∀ is : List Int, PyData.canLayAll0 (is.map PyData.int) = true
  | [] => rfl
  | i :: is => by rw [List.map_cons]; unfold PyData.canLayAll0; rw [lay_ints is]; rfl
theorem lex_ints : ∀ {as bs : List Int}, as.length = bs.length → PyProof.Rows.lexLt PyProof.Rows.itemOrd (PySem.W.keyToksAll (as.map PyData.int)) (PySem.W.keyToksAll (bs.map PyData.int)) = lexI as bs
  | [], [], _ => PyProof.Rows.lex_irrefl _
  | a :: as, b :: bs, h => by
    rw [List.map_cons, List.map_cons]
    unfold lexI
    by_cases e : a = b
    · subst e
      rw [if_pos rfl, PySem.W.dataLt_all_yes rfl (by rw [eqv_int, decide_eq_true rfl])]
      exact lex_ints (by simpa using h)
    · rw [if_neg e, PySem.W.dataLt_all_no rfl (by rw [eqv_int, decide_eq_false e]), PySem.W.dataLt_int]
  | [], _ :: _, h => by simp at h
  | _ :: _, [], h => by simp at h
theorem lt_ints {S : Sto} {i j : Nat} {as bs : List Int} (h1 : S[i]? = some (oI as)) (h2 : S[j]? = some (oI bs)) (hl : as.length = bs.length) : ltG (.ref i) (.ref j) S = .ok (.bl (lexI as bs)) S := by
  have t1 : toD S 40 (.ref i) = some (.list (as.map .int)) := toD_le (by omega) (Vw.ints (h := []) (n := 0) h1 (by simp)).toD
  have t2 : toD S 40 (.ref j) = some (.list (bs.map .int)) := toD_le (by omega) (Vw.ints (h := []) (n := 0) h2 (by simp)).toD
  have sh : SeqAt.shaped (.list (as.map .int)) = true := shaped_toD t1 (by omega) (by unfold PyData.canLay0; exact lay_ints as)
  rw [ltG_ref, t1, t2, ltK_list, alike_ints, sh, Bool.and_self, if_pos rfl, PySem.W.dataLt_list, lex_ints hl]
def na0 : Stm := (sAsg 2 (eC (.int 1)))
def na1 : Stm := (sFor (iE (eVar 1)) (gN 3) (sAsg 2 (eOp mulM (eVar 2) (eVar 3))))
def na2 : Stm := (sAsg 4 (eC (.int 0)))
def na3 : Stm := (sFor (iR1 (aCons (eC (.int 7)) aNil)) (gN 5) (sAsg 4 (eOp addM (eOp mulM (eVar 4) (eC (.int 1000))) (eCall m__law_draw (aCons (eVar 0) (aCons (eC (.int 1000)) aNil))))))
def na4 : Stm := (sAsg 4 (eOp modM (eB intM (aCons (eVar 4) aNil)) (eVar 2)))
def na5 : Stm := (sAsg 6 (eCall m_numbered_note (aCons (eVar 1) (aCons (eVar 4) aNil))))
def na6 : Stm := (sIf (tOr (tNot (tB (eCall m__law_digits (aCons (eVar 1) (aCons (eVar 6) aNil))))) (tB (eOp neM (eCall m__law_number (aCons (eVar 1) (aCons (eVar 6) aNil))) (eVar 4)))) (sRet (eC (.bl false))) sNil)
def na7 : Stm := (sIf (tNot (tB (eCall (m__law_same 4) (aCons (eCall m_note_number (aCons (eVar 1) (aCons (eB listM (aCons (eVar 6) aNil)) aNil))) (aCons (eVar 4) aNil))))) (sRet (eC (.bl false))) sNil)
def na8 : Stm := (sIf (tB (eOp ltG (eOp addM (eVar 4) (eC (.int 1))) (eVar 2))) (sSeq (sAsg 11 (eCall m_numbered_note (aCons (eVar 1) (aCons (eOp addM (eVar 4) (eC (.int 1))) aNil))))
  (sIf (tOr (tNot (tB (eCall m__law_digits (aCons (eVar 1) (aCons (eVar 11) aNil))))) (tNot (tB (eOp ltG (eVar 6) (eVar 11))))) (sRet (eC (.bl false))) sNil)) sNil)
def na9 : Stm := (sAsg 7 (eLc (iE (eVar 1)) (gN 3) tYs (eCall m__law_draw (aCons (eVar 0) (aCons (eVar 3) aNil))) [3]))
def na10 : Stm := (sAsg 8 (eCall m_note_number (aCons (eVar 1) (aCons (eB listM (aCons (eVar 7) aNil)) aNil))))
def na11 : Stm := (sIf (tOr (tNot (tB (eCall (m__law_same 4) (aCons (eVar 8) (aCons (eCall m__law_number (aCons (eVar 1) (aCons (eVar 7) aNil))) aNil))))) (tB (eOp neM (eOp ltG (eVar 7) (eVar 6)) (eOp ltG (eVar 8) (eVar 4))))) (sRet (eC (.bl false))) sNil)
def na12 : Stm := (sAsg 9 (eCall m__law_near (aCons (eVar 0) (aCons (eVar 1) (aCons (eVar 7) aNil)))))
def na13 : Stm := (sIf (tNot (tB (eCall m__law_digits (aCons (eVar 1) (aCons (eVar 9) aNil))))) (sIf (tNot (tB (eCall m__law_number_refused (aCons (eVar 1) (aCons (eB listM (aCons (eVar 9) aNil)) aNil))))) (sRet (eC (.bl false))) sNil) (sIf (tNot (tB (eCall (m__law_same 4) (aCons (eCall m_numbered_note (aCons (eVar 1) (aCons (eCall m_note_number (aCons (eVar 1) (aCons (eB listM (aCons (eVar 9) aNil)) aNil))) aNil))) (aCons (eVar 9) aNil))))) (sRet (eC (.bl false))) sNil))
def na14 : Stm := (sFor (iE (eLst (aCons (eVar 2) (aCons (eOp addM (eVar 2) (eVar 4)) (aCons (eUn negM (eC (.int 1))) (aCons (eOp subM (eUn negM (eC (.int 1))) (eVar 4)) aNil)))))) (gN 10) (sIf (tNot (tB (eCall m__law_numbered_refused (aCons (eVar 1) (aCons (eVar 10) aNil))))) (sRet (eC (.bl false))) sNil))
def na15 : Stm := (sIf (tNot (tB (eCall (m__law_same 4) (aCons (eCall m_numbered_note (aCons (eVar 1) (aCons (eC (.int 0)) aNil))) (aCons (eLc (iE (eVar 1)) (gN 3) tYs (eC (.int 0)) [3]) aNil))))) (sRet (eC (.bl false))) sNil)
def na16 : Stm := (sRet (eCall (m__law_same 4) (aCons (eCall m_numbered_note (aCons (eVar 1) (aCons (eOp subM (eVar 2) (eC (.int 1))) aNil))) (aCons (eLc (iE (eVar 1)) (gN 3) tYs (eOp subM (eVar 3) (eC (.int 1))) [3]) aNil))))
theorem naeq : b__law_numbers_asked = (sSeq na0 (sSeq na1 (sSeq na2 (sSeq na3 (sSeq na4 (sSeq na5 (sSeq na6 (sSeq na7 (sSeq na8 (sSeq na9 (sSeq na10 (sSeq na11 (sSeq na12 (sSeq na13 (sSeq na14 (sSeq na15 na16)))))))))))))))) := rfl

theorem na1_run {S : Sto} {a : Nat} {sizes : List Int} (hA : S[a]? = some (oI sizes)) (hs : SzOk sizes) (d0 : Option W) (r : Sl) : ∃ c, na1 (d0 :: some (.ref a) :: some (.int 1) :: none :: r) S = .nx (d0 :: some (.ref a) :: some (.int (prodL sizes)) :: c :: r) S := by
  obtain ⟨s', S', e, hS, c, hc⟩ := forL_all (g := gN 3) (b := (sAsg 2 (eOp mulM (eVar 2) (eVar 3)))) (a := a) (sizes.map W.int) (fun pre s S' => S' = S ∧ ∃ c, s = d0 :: some (.ref a) :: some (.int (prodL (sizes.take pre.length))) :: c :: r) (fun pre s S' h => by rw [h.1]; exact hA)
    (fun pre x suf s S' e h => by
      obtain ⟨rfl, c, rfl⟩ := h
      obtain ⟨t, h1, rfl, h2, h3⟩ := map_at e
      refine ⟨_, _, _, rfl, .inl ?_, rfl, some (.int t), rfl⟩
      have hm := inR_small (hs t (List.mem_of_getElem? h1))
      rw [List.length_append, List.length_singleton, h3, prodL_snoc]
      show sAsg 2 (eOp mulM (eVar 2) (eVar 3)) (d0 :: some (.ref a) :: some (.int (prodL (sizes.take pre.length))) :: some (.int t) :: r) S' = _
      clear hA hs e h1 h2 h3
      walk_at "evh")
    (s := d0 :: some (.ref a) :: some (.int 1) :: none :: r) (S := S) ⟨rfl, none, rfl⟩
  subst hS
  rw [List.length_map, List.take_length] at hc
  subst hc
  refine ⟨c, ?_⟩
  rw [List.length_map] at e
  unfold na1
  clear hs
  walk_at "evh"
  simp only [List.length_map]
  walk_at "evh"
theorem na3_run {S : Sto} {d : Nat} (hd : HasD d S) (a0 p0 c0 : Option W) (r : Sl) : ∃ N c T, na3 (some (.ref d) :: a0 :: p0 :: c0 :: some (.int 0) :: none :: r) S = .nx (some (.ref d) :: a0 :: p0 :: c0 :: some (.int N) :: c :: r) T ∧ Kp [d] S T ∧ T.length = S.length ∧ HasD d T := by
  obtain ⟨s', T, e, k1, k2, k3, N, c, rfl⟩ := forV_all (g := gN 5) (b := (sAsg 4 (eOp addM (eOp mulM (eVar 4) (eC (.int 1000))) (eCall m__law_draw (aCons (eVar 0) (aCons (eC (.int 1000)) aNil)))))) (fun pre s T => Kp [d] S T ∧ T.length = S.length ∧ HasD d T ∧ ∃ N c, s = some (.ref d) :: a0 :: p0 :: c0 :: some (.int N) :: c :: r) (rng 0 7)
    (fun pre x suf s T e h => by
      obtain ⟨k1, k2, k3, N, c, rfl⟩ := h
      obtain ⟨v, T2, hv, q1, q2, q3, q4⟩ := drawK k3 (n := 1000) (by decide)
      refine ⟨_, some (.ref d) :: a0 :: p0 :: c0 :: some (.int (N * 1000 + v)) :: some x :: r, T2, rfl, .inl ?_, k1.trans q1, by omega, q3, N * 1000 + v, some x, rfl⟩
      have hm : inR 18446744073709551615 1000 = true := rfl
      show sAsg 4 _ (some (.ref d) :: a0 :: p0 :: c0 :: some (.int N) :: some x :: r) T = _
      clear k1 k2 k3 q1 q2 q3 hd e hv
      walk_at "evh")
    (s := some (.ref d) :: a0 :: p0 :: c0 :: some (.int 0) :: none :: r) (S := S) ⟨.refl, rfl, hd, 0, none, rfl⟩
  refine ⟨N, c, T, ?_, k1, k2, k3⟩
  have hi : inR 4611686018427387903 7 = true := rfl
  have h7 : (7 : Int).toNat = 7 := rfl
  unfold na3
  clear k1 k2 k3 hd
  walk_at "evh"

end Lw_k16

namespace Lw_k16
open PySem Fr
local macro_rules | `(tactic| walk_at "ev") => `(tactic| simp only [Bool.or_true, Bool.true_or, Bool.and_self, Bool.or_self, Bool.and_true, Bool.true_and, Bool.false_or, Bool.or_false, Bool.false_and, Bool.and_false, ltG_int, ltG_str, ltG_ref, ltG_tup, memM_eq, notMemM_eq, memB_str, blK_some, nblK_some, eqM_ref, eqM_tup, neM_ref, neM_tup, isM_fl, isNotM_non, isNotM_int, isNotM_str, isNotM_bl, isNotM_tup, isNotM_ref, listM_ref, listM_tup, listM_fl, listK_lst, listK_dK, tupleM_ref, tupleM_tup, tupleM_fl, divmodM_int, strM_int, min2M_int, max2M_int, intsOf_map, sumM_ref, sortedM_ref, insertM_eq, extendM_eq, popAtM_eq, clearM_eq, indexLM_eq, tyM_list_fl, tV_eq, truK_bl, truK_non, truK_int, truK_tup, truK_ref, obB_lst, obB_dK, sAsgT_eq, tgK_some, gN_eq, gT_eq, gsCons_eq, gK_some, gsNil_eq, sSetIx_eq, setK_eq, sAug_eq, augK_some, iaddM_int, isubM_int, eListR_eq, rg1_eq, rg2_eq, rg1K_int, rg2K_int, iZip_eq, zipM_tup, zipM_ref, iRev_eq, revM_tup, revM_ref, eLc_eq, lcK_vals, lcK_live, lcK_gen, optS_some, wipeW_nil, wipeW_cons, tYs_eq, lcT_gN, turnK_ite, putK_ok, putL_lst, lcV_nil, andThen_some, srcK_gen, bd_eq, bdK_ok, bdK_ex, bdK_bad, bdK_ite, rt_eq, bad_eq, app_ite, onE_ok, onE_ex, onE_bad, onE_ite, seq_eq, seqK_nx, seqK_rt, seqK_bk, seqK_ct, seqK_ex, seqK_bad, seqK_ite, loopK_nx, loopK_ct, loopK_bk, loopK_rt, loopK_ex, loopK_bad, loopK_ite, fn_eq, fnK_rt, fnK_nx, fnK_ex, fnK_ite, eVar_0, eVar_s, eC_eq, eOp_eq, eUn_eq, eAnd_eq, eOr_eq, eNot_eq, boK_bl, eIf_eq, eChain_eq, tB_eq, tbK_bl, tAnd_eq, tOr_eq, tNot_eq, aNil_eq, aCons_eq, eTup_eq, eLst_eq, new_eq, eB_eq, eCall_eq, eM_eq, eSl_eq, oNone_eq, oSome_eq, intK_int, sNil_eq, sExpr_eq, sRet_eq, sRetN_eq, sIf_eq, sAsg_eq, sRaise_eq, sBreak_eq, sCont_eq, sFor_eq, srcK_vals, iE_eq, srcOf_tup, srcOf_fl, srcOf_str, forV_nil, addM_int, addM_str, addM_tup, subM_int, mulM_int, mulM_str, modM_int, fdivM_int, powM_int, negM_int, ltM_int, leM_int, gtM_int, geM_int, eqM_int, eqM_str, eqM_bl, neM_int, neM_str, neM_bl, isM_non, isM_int, isM_str, isM_bl, isM_tup, isM_ref, inM_str, notInM_str, lenM_str, lenM_tup, lenM_fl, intM_int, tyM_str, slM_str, isiM_non, isiM_bl, isiM_int, isiM_str, isiM_tup, resK_some, obL_lst, obS_lst, optK_some, isLst_lst, appendM_eq, popM_eq, reverseM_eq, lenM_refE, ixM_refE, ixM_tupE, ixM_flE, ixM_strE, srcOf_refE, srcK_liveE, tyM_refE, get_last, set_last, sTry_eq, tryK_nx, tryK_rt, noEx_nx, noEx_rt, sTryAs_eq, tryAsK_nx, tryAsK_rt, dropS_nx, dropS_rt, onNone_none, kb_NoneType_bool, kb_NoneType_int, kb_NoneType_str, kb_NoneType_tuple, kb_NoneType_list, kb_NoneType_dict, kb_bool_bool, kb_bool_int, kb_bool_str, kb_bool_tuple, kb_bool_list, kb_bool_dict, kb_int_bool, kb_int_int, kb_int_str, kb_int_tuple, kb_int_list, kb_int_dict, kb_str_bool, kb_str_int, kb_str_str, kb_str_tuple, kb_str_list, kb_str_dict, kb_tuple_bool, kb_tuple_int, kb_tuple_str, kb_tuple_tuple, kb_tuple_list, kb_tuple_dict, kb_list_bool, kb_list_int, kb_list_str, kb_list_tuple, kb_list_list, kb_list_dict, kb_dict_bool, kb_dict_int, kb_dict_str, kb_dict_tuple, kb_dict_list, kb_dict_dict, List.map_cons, List.map_nil, List.cons_append, List.nil_append, List.length_cons, List.length_nil, Nat.reduceAdd, Nat.reduceSub, List.replicate, List.set_cons_zero, List.set_cons_succ, Bool.false_eq_true, Bool.not_true, Bool.not_false, if_true, if_false, reduceIte, decide_eq_true_eq, Bool.not_eq_true', decide_eq_false_iff_not, not_true_eq_false, not_false_eq_true, ite_not, decide_true, decide_false, eq_self_iff_true, indexSM_eq, startsM_str, endsM_str, splitM_str, iR1_eq, iR2_eq, rngK_1, rngK2_2, chr1_eq, subS_one, and_self, true_and, and_true, false_and, and_false, or_true, true_or, or_self, false_or, or_false, ne_eq])
local macro_rules | `(tactic| walk_at "evh") => `(tactic| simp only [Bool.or_true, Bool.true_or, Bool.and_self, Bool.or_self, Bool.and_true, Bool.true_and, Bool.false_or, Bool.or_false, Bool.false_and, Bool.and_false, ltG_int, ltG_str, ltG_ref, ltG_tup, memM_eq, notMemM_eq, memB_str, blK_some, nblK_some, eqM_ref, eqM_tup, neM_ref, neM_tup, isM_fl, isNotM_non, isNotM_int, isNotM_str, isNotM_bl, isNotM_tup, isNotM_ref, listM_ref, listM_tup, listM_fl, listK_lst, listK_dK, tupleM_ref, tupleM_tup, tupleM_fl, divmodM_int, strM_int, min2M_int, max2M_int, intsOf_map, sumM_ref, sortedM_ref, insertM_eq, extendM_eq, popAtM_eq, clearM_eq, indexLM_eq, tyM_list_fl, tV_eq, truK_bl, truK_non, truK_int, truK_tup, truK_ref, obB_lst, obB_dK, sAsgT_eq, tgK_some, gN_eq, gT_eq, gsCons_eq, gK_some, gsNil_eq, sSetIx_eq, setK_eq, sAug_eq, augK_some, iaddM_int, isubM_int, eListR_eq, rg1_eq, rg2_eq, rg1K_int, rg2K_int, iZip_eq, zipM_tup, zipM_ref, iRev_eq, revM_tup, revM_ref, eLc_eq, lcK_vals, lcK_live, lcK_gen, optS_some, wipeW_nil, wipeW_cons, tYs_eq, lcT_gN, turnK_ite, putK_ok, putL_lst, lcV_nil, andThen_some, srcK_gen, bd_eq, bdK_ok, bdK_ex, bdK_bad, bdK_ite, rt_eq, bad_eq, app_ite, onE_ok, onE_ex, onE_bad, onE_ite, seq_eq, seqK_nx, seqK_rt, seqK_bk, seqK_ct, seqK_ex, seqK_bad, seqK_ite, loopK_nx, loopK_ct, loopK_bk, loopK_rt, loopK_ex, loopK_bad, loopK_ite, fn_eq, fnK_rt, fnK_nx, fnK_ex, fnK_ite, eVar_0, eVar_s, eC_eq, eOp_eq, eUn_eq, eAnd_eq, eOr_eq, eNot_eq, boK_bl, eIf_eq, eChain_eq, tB_eq, tbK_bl, tAnd_eq, tOr_eq, tNot_eq, aNil_eq, aCons_eq, eTup_eq, eLst_eq, new_eq, eB_eq, eCall_eq, eM_eq, eSl_eq, oNone_eq, oSome_eq, intK_int, sNil_eq, sExpr_eq, sRet_eq, sRetN_eq, sIf_eq, sAsg_eq, sRaise_eq, sBreak_eq, sCont_eq, sFor_eq, srcK_vals, iE_eq, srcOf_tup, srcOf_fl, srcOf_str, forV_nil, addM_int, addM_str, addM_tup, subM_int, mulM_int, mulM_str, modM_int, fdivM_int, powM_int, negM_int, ltM_int, leM_int, gtM_int, geM_int, eqM_int, eqM_str, eqM_bl, neM_int, neM_str, neM_bl, isM_non, isM_int, isM_str, isM_bl, isM_tup, isM_ref, inM_str, notInM_str, lenM_str, lenM_tup, lenM_fl, intM_int, tyM_str, slM_str, isiM_non, isiM_bl, isiM_int, isiM_str, isiM_tup, resK_some, obL_lst, obS_lst, optK_some, isLst_lst, appendM_eq, popM_eq, reverseM_eq, lenM_refE, ixM_refE, ixM_tupE, ixM_flE, ixM_strE, srcOf_refE, srcK_liveE, tyM_refE, get_last, set_last, sTry_eq, tryK_nx, tryK_rt, noEx_nx, noEx_rt, sTryAs_eq, tryAsK_nx, tryAsK_rt, dropS_nx, dropS_rt, onNone_none, kb_NoneType_bool, kb_NoneType_int, kb_NoneType_str, kb_NoneType_tuple, kb_NoneType_list, kb_NoneType_dict, kb_bool_bool, kb_bool_int, kb_bool_str, kb_bool_tuple, kb_bool_list, kb_bool_dict, kb_int_bool, kb_int_int, kb_int_str, kb_int_tuple, kb_int_list, kb_int_dict, kb_str_bool, kb_str_int, kb_str_str, kb_str_tuple, kb_str_list, kb_str_dict, kb_tuple_bool, kb_tuple_int, kb_tuple_str, kb_tuple_tuple, kb_tuple_list, kb_tuple_dict, kb_list_bool, kb_list_int, kb_list_str, kb_list_tuple, kb_list_list, kb_list_dict, kb_dict_bool, kb_dict_int, kb_dict_str, kb_dict_tuple, kb_dict_list, kb_dict_dict, List.map_cons, List.map_nil, List.cons_append, List.nil_append, List.length_cons, List.length_nil, Nat.reduceAdd, Nat.reduceSub, List.replicate, List.set_cons_zero, List.set_cons_succ, Bool.false_eq_true, Bool.not_true, Bool.not_false, if_true, if_false, reduceIte, decide_eq_true_eq, Bool.not_eq_true', decide_eq_false_iff_not, not_true_eq_false, not_false_eq_true, ite_not, decide_true, decide_false, eq_self_iff_true, indexSM_eq, startsM_str, endsM_str, splitM_str, iR1_eq, iR2_eq, rngK_1, rngK2_2, chr1_eq, subS_one, and_self, true_and, and_true, false_and, and_false, or_true, true_or, or_self, false_or, or_false, ne_eq, *])
section
variable {T : Sto} {d a k : Nat} {sizes note : List Int} {N P : Int} {c2 c3 c5 c6 c7 c8 c9 c10 c11 d0 : Option W}
theorem na6_run (hA : T[a]? = some (oI sizes)) (hN : T[k]? = some (oI note)) (hs : SzOk sizes) (hl : sizes.length ≤ 1000) (ho : okN sizes note = true) (hv : val sizes note = N) :
    na6 [d0, some (.ref a), c2, c3, some (.int N), c5, some (.ref k), c7, c8, c9, c10, c11] T = .nx [d0, some (.ref a), c2, c3, some (.int N), c5, some (.ref k), c7, c8, c9, c10, c11] T := by
  have h1 := digits_run hA hN (by omega)
  have h2 := lnumber_run hA hN (by omega) (okN_len ho) hs
  rw [ho] at h1
  rw [hv] at h2
  unfold na6
  clear hA hN hs hl ho hv
  walk_at "evh"
theorem na7_run (hA : T[a]? = some (oI sizes)) (hN : T[k]? = some (oI note)) (hs : SzOk sizes) (ho : okN sizes note = true) (hv : val sizes note = N) :
    na7 [d0, some (.ref a), c2, c3, some (.int N), c5, some (.ref k), c7, c8, c9, c10, c11] T = .nx [d0, some (.ref a), c2, c3, some (.int N), c5, some (.ref k), c7, c8, c9, c10, c11] (T ++ [oI note]) := by
  have h1 := number_ok (S := T ++ [oI note]) (a := a) (b := T.length) (get_old _ hA) (get_last _ _) ho hs
  rw [hv] at h1
  have h2 := same_int N
  unfold na7
  clear hA hs ho hv
  walk_at "evh"
theorem na8_run (hA : T[a]? = some (oI sizes)) (hN : T[k]? = some (oI note)) (hs : SzOk sizes) (hl : sizes.length ≤ 1000) (ho : okN sizes note = true) (hv : val sizes note = N) (h0 : 0 ≤ N) :
    ∃ c T', na8 [d0, some (.ref a), some (.int (prodL sizes)), c3, some (.int N), c5, some (.ref k), c7, c8, c9, c10, c11] T = .nx [d0, some (.ref a), some (.int (prodL sizes)), c3, some (.int N), c5, some (.ref k), c7, c8, c9, c10, c] T' ∧ Kp [] T T' := by
  by_cases g : N + 1 < prodL sizes
  · obtain ⟨T', e, h1, h2⟩ := numbered_ok (n := N + 1) hA hs hl ⟨by omega, g⟩
    obtain ⟨o1, o2⟩ := digs_ok (fun s q => (hs s q).1) (show 0 ≤ N + 1 by omega) g
    have h3 := digits_run (h2.get (by simp) hA) h1 (by omega)
    rw [o1] at h3
    have h4 := lt_ints (h2.get (by simp) hN) h1 ((okN_len ho).symm.trans (okN_len o1))
    rw [val_lex ho o1, o2, hv, decide_eq_true (by omega)] at h4
    refine ⟨some (.ref T.length), T', ?_, h2⟩
    unfold na8
    clear hA hN hs hl ho hv h0 h1 h2 o1 o2
    walk_at "evh"
  · refine ⟨c11, T, ?_, .refl⟩
    unfold na8
    clear hA hN hs hl ho hv h0
    walk_at "evh"
theorem na9_run (hd : HasD d T) (hA : T[a]? = some (oI sizes)) (ha : a ≠ d) (hs : SzOk sizes) (hl : sizes.length ≤ 1000) :
    ∃ os T', na9 [some (.ref d), some (.ref a), c2, c3, some (.int N), c5, c6, c7, c8, c9, c10, c11] T = .nx [some (.ref d), some (.ref a), c2, c3, some (.int N), c5, c6, some (.ref T.length), c8, c9, c10, c11] T' ∧ T'[T.length]? = some (oI os) ∧ okN sizes os = true ∧ Kp [d] T T' ∧ HasD d T' := by
  have hdl := hd.lt
  obtain ⟨T', e, k1, k2, k3, os, k4, k5, k6⟩ := lcL_all (g := gN 3) (tt := tYs) (e := eCall m__law_draw (aCons (eVar 0) (aCons (eVar 3) aNil))) (s0 := [some (.ref d), some (.ref a), c2, none, some (.int N), c5, c6, c7, c8, c9, c10, c11]) (D := T.length) (a := a) (sizes.map W.int)
    (fun pre T' => Kp [d] T T' ∧ T'.length = T.length + 1 ∧ HasD d T' ∧ ∃ os, T'[T.length]? = some (oI os) ∧ os.length = pre.length ∧ okN (sizes.take pre.length) os = true) (fun pre T' h => h.1.get (by simp; exact ha) hA)
    (fun pre x suf T' e h => by
      obtain ⟨k1, k2, k3, os, k4, k5, k6⟩ := h
      obtain ⟨t, h1, rfl, h2, h3⟩ := map_at e
      have ht := hs t (List.mem_of_getElem? h1)
      obtain ⟨v, T2, hv, q1, q2, q3, q4⟩ := drawK k3 (n := t) (by omega)
      have hD : T2[T.length]? = some (oI os) := q1.get (by simp; omega) k4
      refine ⟨T2.set T.length (oI (os ++ [v])), ?_, (k1.trans q1).new (Nat.le_refl _), by simp; omega, ?_, os ++ [v], set_get hD, by simp; exact k5, ?_⟩
      · rw [lcT_gN]
        show turnK (tYs [some (.ref d), some (.ref a), c2, some (.int t), some (.int N), c5, c6, c7, c8, c9, c10, c11] T') [some (.ref d), some (.ref a), c2, some (.int t), some (.int N), c5, c6, c7, c8, c9, c10, c11] _ _ = _
        have hz : (List.map W.int os).length < sizeLine := by rw [List.length_map, sizeLine_n]; omega
        have eo : List.map W.int os ++ [W.int v] = List.map W.int (os ++ [v]) := by simp
        clear hd hA hs e h1 h2 h3 ht hv q1 q2 q3 k1 k2 k3 k4 k5 k6 hl hdl
        walk_at "evh"
      · obtain ⟨zs, q⟩ := q3; exact ⟨zs, by rw [List.getElem?_set_ne (by omega)]; exact q⟩
      · rw [List.length_append, List.length_singleton, h3, okN_snoc _ _ (okN_len k6), k6, decide_eq_true hv]
        rfl)
    (S := T ++ [.lst []]) ⟨Kp.app _, by simp, hd.app _, [], get_last _ _, rfl, rfl⟩
  rw [List.length_map, List.take_length] at k6
  refine ⟨os, T', ?_, k4, k6, k1, k3⟩
  unfold na9
  clear hd hs hl k1 k2 k3 k4 k5 k6 hdl
  walk_at "evh"
theorem na10_run {os : List Int} (hA : T[a]? = some (oI sizes)) (hO : T[k]? = some (oI os)) (hs : SzOk sizes) (ho : okN sizes os = true) :
    na10 [d0, some (.ref a), c2, c3, some (.int N), c5, c6, some (.ref k), c8, c9, c10, c11] T = .nx [d0, some (.ref a), c2, c3, some (.int N), c5, c6, some (.ref k), some (.int (val sizes os)), c9, c10, c11] (T ++ [oI os]) := by
  have h1 := number_ok (S := T ++ [oI os]) (a := a) (b := T.length) (get_old _ hA) (get_last _ _) ho hs
  unfold na10
  clear hA hs ho
  walk_at "evh"
theorem na11_run {os : List Int} {j : Nat} (hA : T[a]? = some (oI sizes)) (hO : T[k]? = some (oI os)) (hN : T[j]? = some (oI note)) (hs : SzOk sizes) (hl : sizes.length ≤ 1000) (ho : okN sizes os = true) (hn : okN sizes note = true) (hv : val sizes note = N) :
    na11 [d0, some (.ref a), c2, c3, some (.int N), c5, some (.ref j), some (.ref k), some (.int (val sizes os)), c9, c10, c11] T = .nx [d0, some (.ref a), c2, c3, some (.int N), c5, some (.ref j), some (.ref k), some (.int (val sizes os)), c9, c10, c11] T := by
  have h2 := lnumber_run hA hO (by omega) (okN_len ho) hs
  have h3 := same_int (val sizes os)
  have h4 := lt_ints hO hN ((okN_len ho).symm.trans (okN_len hn))
  rw [val_lex ho hn, hv] at h4
  unfold na11
  clear hA hN hO hs hl ho hn hv
  have h5 := ltG_int (val sizes os) N
  cases hb : decide (val sizes os < N) with
  | true => rw [hb] at h4 h5; walk_at "evh"
  | false => rw [hb] at h4 h5; walk_at "evh"
theorem na12_run {os : List Int} (hd : HasD d T) (hA : T[a]? = some (oI sizes)) (ha : a ≠ d) (hO : T[k]? = some (oI os)) (hk : k ≠ d) (hl : sizes.length ≤ 1000) (ho : okN sizes os = true) :
    ∃ ns T', na12 [some (.ref d), some (.ref a), c2, c3, some (.int N), c5, c6, some (.ref k), c8, c9, c10, c11] T = .nx [some (.ref d), some (.ref a), c2, c3, some (.int N), c5, c6, some (.ref k), c8, some (.ref T.length), c10, c11] T' ∧ T'[T.length]? = some (oI ns) ∧ ns.length ≤ 1001 ∧ Kp [d] T T' ∧ HasD d T' := by
  obtain ⟨T', ns, e, h1, h2, h3, h4⟩ := near_run hd hA ha hO hk (okN_len ho) (by rw [← okN_len ho]; exact hl)
  refine ⟨ns, T', ?_, h1, h2, h3, h4⟩
  unfold na12
  clear hd hA hO hl ho h1 h2 h3 h4
  walk_at "evh"
theorem na13_run {ns : List Int} (hA : T[a]? = some (oI sizes)) (hO : T[k]? = some (oI ns)) (hn : ns.length ≤ 1001) (hs : SzOk sizes) (hl : sizes.length ≤ 1000) :
    ∃ T', na13 [d0, some (.ref a), c2, c3, some (.int N), c5, c6, c7, c8, some (.ref k), c10, c11] T = .nx [d0, some (.ref a), c2, c3, some (.int N), c5, c6, c7, c8, some (.ref k), c10, c11] T' ∧ Kp [] T T' := by
  have h1 := digits_run hA hO (by omega)
  cases ho : okN sizes ns with
  | false =>
    rw [ho] at h1
    have h2 := numRef_run (S := T ++ [oI ns]) (a := a) (b := T.length) (get_old _ hA) (get_last _ _) ho
    refine ⟨T ++ [oI ns], ?_, Kp.app _⟩
    unfold na13
    clear hA hs hl hn ho
    walk_at "evh"
  | true =>
    rw [ho] at h1
    have h2 := number_ok (S := T ++ [oI ns]) (a := a) (b := T.length) (get_old _ hA) (get_last _ _) ho hs
    obtain ⟨T', e, h3, h4⟩ := numbered_ok (S := T ++ [oI ns]) (n := val sizes ns) (get_old _ hA) hs hl (val_lt ho)
    rw [digs_val (fun s q => (hs s q).1) ho] at h3
    have h5 := same_ints h3 (h4.get (by simp) (get_old _ hO)) hn
    refine ⟨T', ?_, (Kp.app _).trans h4⟩
    unfold na13
    clear hA hs hl hn ho h3 h4
    walk_at "evh"
theorem na14_run (hA : T[a]? = some (oI sizes)) (hs : SzOk sizes) (h0 : 0 ≤ N) :
    ∃ c T', na14 [d0, some (.ref a), some (.int (prodL sizes)), c3, some (.int N), c5, c6, c7, c8, c9, c10, c11] T = .nx [d0, some (.ref a), some (.int (prodL sizes)), c3, some (.int N), c5, c6, c7, c8, c9, c, c11] T' ∧ Kp [] T T' := by
  let ys : List Int := [prodL sizes, prodL sizes + N, -1, -1 - N]
  have hp := prodL_pos (fun s q => (hs s q).1)
  have hr : ∀ y ∈ ys, ¬ (0 ≤ y ∧ y < prodL sizes) := by
    intro y hy
    simp [ys] at hy
    omega
  obtain ⟨s', T', e, rfl, c, rfl⟩ := forL_all (g := gN 10) (b := (sIf (tNot (tB (eCall m__law_numbered_refused (aCons (eVar 1) (aCons (eVar 10) aNil))))) (sRet (eC (.bl false))) sNil)) (a := T.length) (ys.map W.int)
    (fun pre s T' => T' = T ++ [oI ys] ∧ ∃ c, s = [d0, some (.ref a), some (.int (prodL sizes)), c3, some (.int N), c5, c6, c7, c8, c9, c, c11]) (fun pre s T' h => by rw [h.1]; exact get_last _ _)
    (fun pre x suf s T' e h => by
      obtain ⟨rfl, c, rfl⟩ := h
      obtain ⟨t, h1, rfl, h2, h3⟩ := map_at e
      have hn := numdRef_run (S := T ++ [oI ys]) (get_old _ hA) hs (hr t (List.mem_of_getElem? h1))
      refine ⟨_, [d0, some (.ref a), some (.int (prodL sizes)), c3, some (.int N), c5, c6, c7, c8, c9, some (.int t), c11], _, rfl, .inl ?_, rfl, some (.int t), rfl⟩
      show sIf _ _ _ [d0, some (.ref a), some (.int (prodL sizes)), c3, some (.int N), c5, c6, c7, c8, c9, some (.int t), c11] _ = _
      clear hA hs h0 hr hp e h1 h2 h3
      walk_at "evh")
    (s := [d0, some (.ref a), some (.int (prodL sizes)), c3, some (.int N), c5, c6, c7, c8, c9, c10, c11]) (S := T ++ [oI ys]) ⟨rfl, c10, rfl⟩
  refine ⟨c, T ++ [oI ys], ?_, Kp.app _⟩
  have h4 : 4 ≤ sizeLine := by rw [sizeLine_n]; decide
  have e' : forL (gN 10) (sIf (tNot (tB (eCall m__law_numbered_refused (aCons (eVar 1) (aCons (eVar 10) aNil))))) (sRet (eC (.bl false))) sNil) T.length 4 4 [d0, some (.ref a), some (.int (prodL sizes)), c3, some (.int N), c5, c6, c7, c8, c9, c10, c11] (T ++ [.lst [.int (prodL sizes), .int (prodL sizes + N), .int (-1), .int (-1 - N)]]) = .nx [d0, some (.ref a), some (.int (prodL sizes)), c3, some (.int N), c5, c6, c7, c8, c9, c, c11] (T ++ [oI ys]) := e
  unfold na14
  clear hA hs h0 hr hp e
  walk_at "evh"
theorem lcmap_run {f : Int → Int} {e : Exp} {s0 : Sl} (hA : T[a]? = some (oI sizes)) (hl : sizes.length ≤ 1000) (he : ∀ (t : Int) (S : Sto), t ∈ sizes → e (s0.set 3 (some (.int t))) S = .ok (.int (f t)) S) :
    lcN (gN 3) tYs e s0 T.length (sizes.map W.int).length (liveF a (sizes.map W.int).length) (liveC a (sizes.map W.int).length) (sizes.map W.int).length (T ++ [.lst []]) = some (T ++ [oI (sizes.map f)]) := by
  obtain ⟨T', e1, h1⟩ := lcL_all (g := gN 3) (tt := tYs) (e := e) (s0 := s0) (D := T.length) (a := a) (sizes.map W.int) (fun pre T' => T' = T ++ [oI ((sizes.take pre.length).map f)]) (fun pre T' h => by rw [h]; exact get_old _ hA)
    (fun pre x suf T' e1 h => by
      subst h
      obtain ⟨t, h1, rfl, h2, h3⟩ := map_at e1
      refine ⟨_, ?_, rfl⟩
      rw [List.length_append, List.length_singleton, h3, lcT_gN, tYs_eq, turnK_yes, he t _ (List.mem_of_getElem? h1), putK_ok, get_last, putL_lst, if_pos (by rw [List.length_map, List.length_map, sizeLine_n, List.length_take]; omega), set_last]
      simp)
    (S := T ++ [.lst []]) rfl
  rw [e1, h1, List.length_map, List.take_length]
theorem na15_run (hA : T[a]? = some (oI sizes)) (hs : SzOk sizes) (hl : sizes.length ≤ 1000) :
    ∃ T', na15 [d0, some (.ref a), c2, c3, some (.int N), c5, c6, c7, c8, c9, c10, c11] T = .nx [d0, some (.ref a), c2, c3, some (.int N), c5, c6, c7, c8, c9, c10, c11] T' ∧ Kp [] T T' := by
  have hp := prodL_pos (fun s q => (hs s q).1)
  obtain ⟨T1, e, h3, h4⟩ := numbered_ok (n := 0) hA hs hl ⟨by omega, by omega⟩
  obtain ⟨z1, z2⟩ := zeros_ok (fun s q => (hs s q).1)
  have hz := digs_val (fun s q => (hs s q).1) z1
  rw [z2] at hz
  rw [hz] at h3
  have h5 := lcmap_run (T := T1) (f := fun _ => 0) (e := eC (.int 0)) (s0 := [d0, some (.ref a), c2, none, some (.int N), c5, c6, c7, c8, c9, c10, c11]) (h4.get (by simp) hA) hl (fun t S _ => rfl)
  have h6 := same_ints (S := T1 ++ [oI (sizes.map fun _ => 0)]) (i := T.length) (j := T1.length) (get_old _ h3) (get_last _ _) (by simp; omega)
  have hA1 := h4.get (by simp) hA
  refine ⟨_, ?_, h4.trans (Kp.app [oI (sizes.map fun _ => 0)])⟩
  unfold na15
  clear hA hs hl hp h3 h4 z1 z2 hz
  walk_at "evh"
theorem na16_run (hA : T[a]? = some (oI sizes)) (hs : SzOk sizes) (hl : sizes.length ≤ 1000) :
    ∃ T', na16 [d0, some (.ref a), some (.int (prodL sizes)), c3, some (.int N), c5, c6, c7, c8, c9, c10, c11] T = .rt (.bl true) T' ∧ Kp [] T T' := by
  have hp := prodL_pos (fun s q => (hs s q).1)
  obtain ⟨T1, e, h3, h4⟩ := numbered_ok (n := prodL sizes - 1) hA hs hl ⟨by omega, by omega⟩
  obtain ⟨z1, z2⟩ := tops_ok (fun s q => (hs s q).1)
  have hz := digs_val (fun s q => (hs s q).1) z1
  rw [z2] at hz
  rw [hz] at h3
  have h5 := lcmap_run (T := T1) (f := fun s => s - 1) (e := eOp subM (eVar 3) (eC (.int 1))) (s0 := [d0, some (.ref a), some (.int (prodL sizes)), none, some (.int N), c5, c6, c7, c8, c9, c10, c11]) (h4.get (by simp) hA) hl (fun t S _ => rfl)
  have h6 := same_ints (S := T1 ++ [oI (sizes.map fun s => s - 1)]) (i := T.length) (j := T1.length) (get_old _ h3) (get_last _ _) (by simp; omega)
  have hA1 := h4.get (by simp) hA
  refine ⟨_, ?_, h4.trans (Kp.app [oI (sizes.map fun s => s - 1)])⟩
  unfold na16
  clear hA hs hl hp h3 h4 z1 z2 hz
  walk_at "evh"
end

end Lw_k16

namespace Lw_k16
open PySem Fr
local macro_rules | `(tactic| walk_at "ev") => `(tactic| simp only [Bool.or_true, Bool.true_or, Bool.and_self, Bool.or_self, Bool.and_true, Bool.true_and, Bool.false_or, Bool.or_false, Bool.false_and, Bool.and_false, ltG_int, ltG_str, ltG_ref, ltG_tup, memM_eq, notMemM_eq, memB_str, blK_some, nblK_some, eqM_ref, eqM_tup, neM_ref, neM_tup, isM_fl, isNotM_non, isNotM_int, isNotM_str, isNotM_bl, isNotM_tup, isNotM_ref, listM_ref, listM_tup, listM_fl, listK_lst, listK_dK, tupleM_ref, tupleM_tup, tupleM_fl, divmodM_int, strM_int, min2M_int, max2M_int, intsOf_map, sumM_ref, sortedM_ref, insertM_eq, extendM_eq, popAtM_eq, clearM_eq, indexLM_eq, tyM_list_fl, tV_eq, truK_bl, truK_non, truK_int, truK_tup, truK_ref, obB_lst, obB_dK, sAsgT_eq, tgK_some, gN_eq, gT_eq, gsCons_eq, gK_some, gsNil_eq, sSetIx_eq, setK_eq, sAug_eq, augK_some, iaddM_int, isubM_int, eListR_eq, rg1_eq, rg2_eq, rg1K_int, rg2K_int, iZip_eq, zipM_tup, zipM_ref, iRev_eq, revM_tup, revM_ref, eLc_eq, lcK_vals, lcK_live, lcK_gen, optS_some, wipeW_nil, wipeW_cons, tYs_eq, lcT_gN, turnK_ite, putK_ok, putL_lst, lcV_nil, andThen_some, srcK_gen, bd_eq, bdK_ok, bdK_ex, bdK_bad, bdK_ite, rt_eq, bad_eq, app_ite, onE_ok, onE_ex, onE_bad, onE_ite, seq_eq, seqK_nx, seqK_rt, seqK_bk, seqK_ct, seqK_ex, seqK_bad, seqK_ite, loopK_nx, loopK_ct, loopK_bk, loopK_rt, loopK_ex, loopK_bad, loopK_ite, fn_eq, fnK_rt, fnK_nx, fnK_ex, fnK_ite, eVar_0, eVar_s, eC_eq, eOp_eq, eUn_eq, eAnd_eq, eOr_eq, eNot_eq, boK_bl, eIf_eq, eChain_eq, tB_eq, tbK_bl, tAnd_eq, tOr_eq, tNot_eq, aNil_eq, aCons_eq, eTup_eq, eLst_eq, new_eq, eB_eq, eCall_eq, eM_eq, eSl_eq, oNone_eq, oSome_eq, intK_int, sNil_eq, sExpr_eq, sRet_eq, sRetN_eq, sIf_eq, sAsg_eq, sRaise_eq, sBreak_eq, sCont_eq, sFor_eq, srcK_vals, iE_eq, srcOf_tup, srcOf_fl, srcOf_str, forV_nil, addM_int, addM_str, addM_tup, subM_int, mulM_int, mulM_str, modM_int, fdivM_int, powM_int, negM_int, ltM_int, leM_int, gtM_int, geM_int, eqM_int, eqM_str, eqM_bl, neM_int, neM_str, neM_bl, isM_non, isM_int, isM_str, isM_bl, isM_tup, isM_ref, inM_str, notInM_str, lenM_str, lenM_tup, lenM_fl, intM_int, tyM_str, slM_str, isiM_non, isiM_bl, isiM_int, isiM_str, isiM_tup, resK_some, obL_lst, obS_lst, optK_some, isLst_lst, appendM_eq, popM_eq, reverseM_eq, lenM_refE, ixM_refE, ixM_tupE, ixM_flE, ixM_strE, srcOf_refE, srcK_liveE, tyM_refE, get_last, set_last, sTry_eq, tryK_nx, tryK_rt, noEx_nx, noEx_rt, sTryAs_eq, tryAsK_nx, tryAsK_rt, dropS_nx, dropS_rt, onNone_none, kb_NoneType_bool, kb_NoneType_int, kb_NoneType_str, kb_NoneType_tuple, kb_NoneType_list, kb_NoneType_dict, kb_bool_bool, kb_bool_int, kb_bool_str, kb_bool_tuple, kb_bool_list, kb_bool_dict, kb_int_bool, kb_int_int, kb_int_str, kb_int_tuple, kb_int_list, kb_int_dict, kb_str_bool, kb_str_int, kb_str_str, kb_str_tuple, kb_str_list, kb_str_dict, kb_tuple_bool, kb_tuple_int, kb_tuple_str, kb_tuple_tuple, kb_tuple_list, kb_tuple_dict, kb_list_bool, kb_list_int, kb_list_str, kb_list_tuple, kb_list_list, kb_list_dict, kb_dict_bool, kb_dict_int, kb_dict_str, kb_dict_tuple, kb_dict_list, kb_dict_dict, List.map_cons, List.map_nil, List.cons_append, List.nil_append, List.length_cons, List.length_nil, Nat.reduceAdd, Nat.reduceSub, List.replicate, List.set_cons_zero, List.set_cons_succ, Bool.false_eq_true, Bool.not_true, Bool.not_false, if_true, if_false, reduceIte, decide_eq_true_eq, Bool.not_eq_true', decide_eq_false_iff_not, not_true_eq_false, not_false_eq_true, ite_not, decide_true, decide_false, eq_self_iff_true, indexSM_eq, startsM_str, endsM_str, splitM_str, iR1_eq, iR2_eq, rngK_1, rngK2_2, chr1_eq, subS_one, and_self, true_and, and_true, false_and, and_false, or_true, true_or, or_self, false_or, or_false, ne_eq])
local macro_rules | `(tactic| walk_at "evh") => `(tactic| simp only [Bool.or_true, Bool.true_or, Bool.and_self, Bool.or_self, Bool.and_true, Bool.true_and, Bool.false_or, Bool.or_false, Bool.false_and, Bool.and_false, ltG_int, ltG_str, ltG_ref, ltG_tup, memM_eq, notMemM_eq, memB_str, blK_some, nblK_some, eqM_ref, eqM_tup, neM_ref, neM_tup, isM_fl, isNotM_non, isNotM_int, isNotM_str, isNotM_bl, isNotM_tup, isNotM_ref, listM_ref, listM_tup, listM_fl, listK_lst, listK_dK, tupleM_ref, tupleM_tup, tupleM_fl, divmodM_int, strM_int, min2M_int, max2M_int, intsOf_map, sumM_ref, sortedM_ref, insertM_eq, extendM_eq, popAtM_eq, clearM_eq, indexLM_eq, tyM_list_fl, tV_eq, truK_bl, truK_non, truK_int, truK_tup, truK_ref, obB_lst, obB_dK, sAsgT_eq, tgK_some, gN_eq, gT_eq, gsCons_eq, gK_some, gsNil_eq, sSetIx_eq, setK_eq, sAug_eq, augK_some, iaddM_int, isubM_int, eListR_eq, rg1_eq, rg2_eq, rg1K_int, rg2K_int, iZip_eq, zipM_tup, zipM_ref, iRev_eq, revM_tup, revM_ref, eLc_eq, lcK_vals, lcK_live, lcK_gen, optS_some, wipeW_nil, wipeW_cons, tYs_eq, lcT_gN, turnK_ite, putK_ok, putL_lst, lcV_nil, andThen_some, srcK_gen, bd_eq, bdK_ok, bdK_ex, bdK_bad, bdK_ite, rt_eq, bad_eq, app_ite, onE_ok, onE_ex, onE_bad, onE_ite, seq_eq, seqK_nx, seqK_rt, seqK_bk, seqK_ct, seqK_ex, seqK_bad, seqK_ite, loopK_nx, loopK_ct, loopK_bk, loopK_rt, loopK_ex, loopK_bad, loopK_ite, fn_eq, fnK_rt, fnK_nx, fnK_ex, fnK_ite, eVar_0, eVar_s, eC_eq, eOp_eq, eUn_eq, eAnd_eq, eOr_eq, eNot_eq, boK_bl, eIf_eq, eChain_eq, tB_eq, tbK_bl, tAnd_eq, tOr_eq, tNot_eq, aNil_eq, aCons_eq, eTup_eq, eLst_eq, new_eq, eB_eq, eCall_eq, eM_eq, eSl_eq, oNone_eq, oSome_eq, intK_int, sNil_eq, sExpr_eq, sRet_eq, sRetN_eq, sIf_eq, sAsg_eq, sRaise_eq, sBreak_eq, sCont_eq, sFor_eq, srcK_vals, iE_eq, srcOf_tup, srcOf_fl, srcOf_str, forV_nil, addM_int, addM_str, addM_tup, subM_int, mulM_int, mulM_str, modM_int, fdivM_int, powM_int, negM_int, ltM_int, leM_int, gtM_int, geM_int, eqM_int, eqM_str, eqM_bl, neM_int, neM_str, neM_bl, isM_non, isM_int, isM_str, isM_bl, isM_tup, isM_ref, inM_str, notInM_str, lenM_str, lenM_tup, lenM_fl, intM_int, tyM_str, slM_str, isiM_non, isiM_bl, isiM_int, isiM_str, isiM_tup, resK_some, obL_lst, obS_lst, optK_some, isLst_lst, appendM_eq, popM_eq, reverseM_eq, lenM_refE, ixM_refE, ixM_tupE, ixM_flE, ixM_strE, srcOf_refE, srcK_liveE, tyM_refE, get_last, set_last, sTry_eq, tryK_nx, tryK_rt, noEx_nx, noEx_rt, sTryAs_eq, tryAsK_nx, tryAsK_rt, dropS_nx, dropS_rt, onNone_none, kb_NoneType_bool, kb_NoneType_int, kb_NoneType_str, kb_NoneType_tuple, kb_NoneType_list, kb_NoneType_dict, kb_bool_bool, kb_bool_int, kb_bool_str, kb_bool_tuple, kb_bool_list, kb_bool_dict, kb_int_bool, kb_int_int, kb_int_str, kb_int_tuple, kb_int_list, kb_int_dict, kb_str_bool, kb_str_int, kb_str_str, kb_str_tuple, kb_str_list, kb_str_dict, kb_tuple_bool, kb_tuple_int, kb_tuple_str, kb_tuple_tuple, kb_tuple_list, kb_tuple_dict, kb_list_bool, kb_list_int, kb_list_str, kb_list_tuple, kb_list_list, kb_list_dict, kb_dict_bool, kb_dict_int, kb_dict_str, kb_dict_tuple, kb_dict_list, kb_dict_dict, List.map_cons, List.map_nil, List.cons_append, List.nil_append, List.length_cons, List.length_nil, Nat.reduceAdd, Nat.reduceSub, List.replicate, List.set_cons_zero, List.set_cons_succ, Bool.false_eq_true, Bool.not_true, Bool.not_false, if_true, if_false, reduceIte, decide_eq_true_eq, Bool.not_eq_true', decide_eq_false_iff_not, not_true_eq_false, not_false_eq_true, ite_not, decide_true, decide_false, eq_self_iff_true, indexSM_eq, startsM_str, endsM_str, splitM_str, iR1_eq, iR2_eq, rngK_1, rngK2_2, chr1_eq, subS_one, and_self, true_and, and_true, false_and, and_false, or_true, true_or, or_self, false_or, or_false, ne_eq, *])
theorem asked_run {S : Sto} {d a : Nat} {sizes : List Int} (hd : HasD d S) (hA : S[a]? = some (oI sizes)) (ha : a ≠ d) (hs : SzOk sizes) (hl : sizes.length ≤ 1000) :
    ∃ T, m__law_numbers_asked [.ref d, .ref a] S = .ok (.bl true) T ∧ Kp [d] S T ∧ HasD d T := by
  have hp := prodL_pos (fun s q => (hs s q).1)
  have hdl := hd.lt
  obtain ⟨c3, e1⟩ := na1_run hA hs (some (.ref d)) [none, none, none, none, none, none, none, none]
  obtain ⟨N0, c5, S1, e3, k1, l1, d1⟩ := na3_run hd (some (.ref a)) (some (.int (prodL sizes))) c3 [none, none, none, none, none, none]
  have hA1 : S1[a]? = some (oI sizes) := k1.get (by simp; exact ha) hA
  obtain ⟨N, hN⟩ : ∃ N, N0.fmod (prodL sizes) = N := ⟨_, rfl⟩
  have hN0 : 0 ≤ N := by rw [← hN]; exact Int.fmod_nonneg_of_pos _ (by omega)
  have hN1 : N < prodL sizes := by rw [← hN]; exact Int.fmod_lt_of_pos _ (by omega)
  obtain ⟨T1, f1, g1, m1⟩ := numbered_ok hA1 hs hl ⟨hN0, hN1⟩
  obtain ⟨o1, o2⟩ := digs_ok (fun s q => (hs s q).1) hN0 hN1
  have hA2 : T1[a]? = some (oI sizes) := m1.get (by simp) hA1
  have e6 := na6_run (d0 := some (.ref d)) (c2 := some (.int (prodL sizes))) (c3 := c3) (c5 := c5) (c7 := none) (c8 := none) (c9 := none) (c10 := none) (c11 := none) hA2 g1 hs hl o1 o2
  have e7 := na7_run (d0 := some (.ref d)) (c2 := some (.int (prodL sizes))) (c3 := c3) (c5 := c5) (c7 := none) (c8 := none) (c9 := none) (c10 := none) (c11 := none) hA2 g1 hs o1 o2
  obtain ⟨c11, T2, e8, m2⟩ := na8_run (T := T1 ++ [oI (digs sizes N)]) (d0 := some (.ref d)) (c3 := c3) (c5 := c5) (c7 := none) (c8 := none) (c9 := none) (c10 := none) (c11 := none) (get_old _ hA2) (get_old _ g1) hs hl o1 o2 hN0
  have m2' : Kp [] T1 T2 := (Kp.app _).trans m2
  have d2 : HasD d T2 := m2'.hasD (m1.hasD d1)
  have hA3 : T2[a]? = some (oI sizes) := m2'.get (by simp) hA2
  have g2 : T2[S1.length]? = some (oI (digs sizes N)) := m2'.get (by simp) g1
  obtain ⟨os, T3, e9, g3, o3, m3, d3⟩ := na9_run (N := N) (c2 := some (.int (prodL sizes))) (c3 := c3) (c5 := c5) (c6 := some (.ref S1.length)) (c7 := none) (c8 := none) (c9 := none) (c10 := none) (c11 := c11) d2 hA3 ha hs hl
  have hd2 := d2.lt
  have hdS : S1.length ≠ d := by omega
  have hA4 : T3[a]? = some (oI sizes) := m3.get (by simp; exact ha) hA3
  have g4 : T3[S1.length]? = some (oI (digs sizes N)) := m3.get (by simp; exact hdS) g2
  have e10 := na10_run (N := N) (d0 := some (.ref d)) (c2 := some (.int (prodL sizes))) (c3 := c3) (c5 := c5) (c6 := some (.ref S1.length)) (c8 := none) (c9 := none) (c10 := none) (c11 := c11) hA4 g3 hs o3
  have e11 := na11_run (T := T3 ++ [oI os]) (N := N) (d0 := some (.ref d)) (c2 := some (.int (prodL sizes))) (c3 := c3) (c5 := c5) (c9 := none) (c10 := none) (c11 := c11) (get_old _ hA4) (get_old _ g3) (get_old _ g4) hs hl o3 o1 o2
  obtain ⟨ns, T4, e12, g5, ln, m4, d4⟩ := na12_run (T := T3 ++ [oI os]) (N := N) (c2 := some (.int (prodL sizes))) (c3 := c3) (c5 := c5) (c6 := some (.ref S1.length)) (c8 := some (.int (val sizes os))) (c9 := none) (c10 := none) (c11 := c11) (d3.app _) (get_old _ hA4) ha (get_old _ g3) (by omega) hl o3
  have hA5 : T4[a]? = some (oI sizes) := m4.get (by simp; exact ha) (get_old _ hA4)
  obtain ⟨T5, e13, m5⟩ := na13_run (N := N) (d0 := some (.ref d)) (c2 := some (.int (prodL sizes))) (c3 := c3) (c5 := c5) (c6 := some (.ref S1.length)) (c7 := some (.ref T2.length)) (c8 := some (.int (val sizes os))) (c10 := none) (c11 := c11) hA5 g5 ln hs hl
  have hA6 : T5[a]? = some (oI sizes) := m5.get (by simp) hA5
  obtain ⟨c10, T6, e14, m6⟩ := na14_run (N := N) (d0 := some (.ref d)) (c3 := c3) (c5 := c5) (c6 := some (.ref S1.length)) (c7 := some (.ref T2.length)) (c8 := some (.int (val sizes os))) (c9 := some (.ref (T3 ++ [oI os]).length)) (c10 := none) (c11 := c11) hA6 hs hN0
  have hA7 : T6[a]? = some (oI sizes) := m6.get (by simp) hA6
  obtain ⟨T7, e15, m7⟩ := na15_run (N := N) (d0 := some (.ref d)) (c2 := some (.int (prodL sizes))) (c3 := c3) (c5 := c5) (c6 := some (.ref S1.length)) (c7 := some (.ref T2.length)) (c8 := some (.int (val sizes os))) (c9 := some (.ref (T3 ++ [oI os]).length)) (c10 := c10) (c11 := c11) hA7 hs hl
  have hA8 : T7[a]? = some (oI sizes) := m7.get (by simp) hA7
  obtain ⟨T8, e16, m8⟩ := na16_run (N := N) (d0 := some (.ref d)) (c3 := c3) (c5 := c5) (c6 := some (.ref S1.length)) (c7 := some (.ref T2.length)) (c8 := some (.int (val sizes os))) (c9 := some (.ref (T3 ++ [oI os]).length)) (c10 := c10) (c11 := c11) hA8 hs hl
  have m58 : Kp [] T4 T8 := ((m5.trans m6).trans m7).trans m8
  refine ⟨T8, ?_, ((((k1.trans (m1.all)).trans (m2'.all)).trans m3).trans (Kp.app _)).trans (m4.trans m58.all), m58.hasD d4⟩
  have e0 : na0 [some (.ref d), some (.ref a), none, none, none, none, none, none, none, none, none, none] S = .nx [some (.ref d), some (.ref a), some (.int 1), none, none, none, none, none, none, none, none, none] S := rfl
  have e2 : na2 [some (.ref d), some (.ref a), some (.int (prodL sizes)), c3, none, none, none, none, none, none, none, none] S = .nx [some (.ref d), some (.ref a), some (.int (prodL sizes)), c3, some (.int 0), none, none, none, none, none, none, none] S := rfl
  have e4 : na4 [some (.ref d), some (.ref a), some (.int (prodL sizes)), c3, some (.int N0), c5, none, none, none, none, none, none] S1 = .nx [some (.ref d), some (.ref a), some (.int (prodL sizes)), c3, some (.int N), c5, none, none, none, none, none, none] S1 := by
    have hp0 : ¬ prodL sizes = 0 := by omega
    unfold na4
    clear e0 e1 e2 e3 e6 e7 e8 e9 e10 e11 e12 e13 e14 e15 e16 k1 l1 d1 hA hA1 hA2 hA3 hA4 hA5 hA6 hA7 hA8 hd hs hl ha f1 g1 m1 m2 m2' d2 g2 g3 g4 g5 m3 d3 m4 d4 m5 m6 m7 m8 m58 hN0 hN1 o1 o2 o3 ln hp hdl hd2 hdS
    walk_at "evh"
  have e5 : na5 [some (.ref d), some (.ref a), some (.int (prodL sizes)), c3, some (.int N), c5, none, none, none, none, none, none] S1 = .nx [some (.ref d), some (.ref a), some (.int (prodL sizes)), c3, some (.int N), c5, some (.ref S1.length), none, none, none, none, none] T1 := by
    unfold na5
    clear e0 e1 e2 e3 e4 e6 e7 e8 e9 e10 e11 e12 e13 e14 e15 e16 k1 l1 d1 hA hA1 hA2 hA3 hA4 hA5 hA6 hA7 hA8 hd hs hl ha g1 m1 m2 m2' d2 g2 g3 g4 g5 m3 d3 m4 d4 m5 m6 m7 m8 m58 hN0 hN1 o1 o2 o3 ln hp hdl hd2 hdS hN
    walk_at "evh"
  unfold m__law_numbers_asked
  rw [naeq, fn_eq]
  show fnK (sSeq na0 _ [some (.ref d), some (.ref a), none, none, none, none, none, none, none, none, none, none] S) = _
  rw [seq_eq, e0, seqK_nx, seq_eq, e1, seqK_nx, seq_eq, e2, seqK_nx, seq_eq, e3, seqK_nx, seq_eq, e4, seqK_nx, seq_eq, e5, seqK_nx, seq_eq, e6, seqK_nx, seq_eq, e7, seqK_nx, seq_eq, e8, seqK_nx, seq_eq, e9, seqK_nx, seq_eq, e10, seqK_nx, seq_eq, e11, seqK_nx, seq_eq, e12, seqK_nx, seq_eq, e13, seqK_nx, seq_eq, e14, seqK_nx, seq_eq, e15, seqK_nx, e16]
  rfl

end Lw_k16

namespace Lw_k16
open PySem Fr
local macro_rules | `(tactic| walk_at "ev") => `(tactic| simp only [Bool.or_true, Bool.true_or, Bool.and_self, Bool.or_self, Bool.and_true, Bool.true_and, Bool.false_or, Bool.or_false, Bool.false_and, Bool.and_false, ltG_int, ltG_str, ltG_ref, ltG_tup, memM_eq, notMemM_eq, memB_str, blK_some, nblK_some, eqM_ref, eqM_tup, neM_ref, neM_tup, isM_fl, isNotM_non, isNotM_int, isNotM_str, isNotM_bl, isNotM_tup, isNotM_ref, listM_ref, listM_tup, listM_fl, listK_lst, listK_dK, tupleM_ref, tupleM_tup, tupleM_fl, divmodM_int, strM_int, min2M_int, max2M_int, intsOf_map, sumM_ref, sortedM_ref, insertM_eq, extendM_eq, popAtM_eq, clearM_eq, indexLM_eq, tyM_list_fl, tV_eq, truK_bl, truK_non, truK_int, truK_tup, truK_ref, obB_lst, obB_dK, sAsgT_eq, tgK_some, gN_eq, gT_eq, gsCons_eq, gK_some, gsNil_eq, sSetIx_eq, setK_eq, sAug_eq, augK_some, iaddM_int, isubM_int, eListR_eq, rg1_eq, rg2_eq, rg1K_int, rg2K_int, iZip_eq, zipM_tup, zipM_ref, iRev_eq, revM_tup, revM_ref, eLc_eq, lcK_vals, lcK_live, lcK_gen, optS_some, wipeW_nil, wipeW_cons, tYs_eq, lcT_gN, turnK_ite, putK_ok, putL_lst, lcV_nil, andThen_some, srcK_gen, bd_eq, bdK_ok, bdK_ex, bdK_bad, bdK_ite, rt_eq, bad_eq, app_ite, onE_ok, onE_ex, onE_bad, onE_ite, seq_eq, seqK_nx, seqK_rt, seqK_bk, seqK_ct, seqK_ex, seqK_bad, seqK_ite, loopK_nx, loopK_ct, loopK_bk, loopK_rt, loopK_ex, loopK_bad, loopK_ite, fn_eq, fnK_rt, fnK_nx, fnK_ex, fnK_ite, eVar_0, eVar_s, eC_eq, eOp_eq, eUn_eq, eAnd_eq, eOr_eq, eNot_eq, boK_bl, eIf_eq, eChain_eq, tB_eq, tbK_bl, tAnd_eq, tOr_eq, tNot_eq, aNil_eq, aCons_eq, eTup_eq, eLst_eq, new_eq, eB_eq, eCall_eq, eM_eq, eSl_eq, oNone_eq, oSome_eq, intK_int, sNil_eq, sExpr_eq, sRet_eq, sRetN_eq, sIf_eq, sAsg_eq, sRaise_eq, sBreak_eq, sCont_eq, sFor_eq, srcK_vals, iE_eq, srcOf_tup, srcOf_fl, srcOf_str, forV_nil, addM_int, addM_str, addM_tup, subM_int, mulM_int, mulM_str, modM_int, fdivM_int, powM_int, negM_int, ltM_int, leM_int, gtM_int, geM_int, eqM_int, eqM_str, eqM_bl, neM_int, neM_str, neM_bl, isM_non, isM_int, isM_str, isM_bl, isM_tup, isM_ref, inM_str, notInM_str, lenM_str, lenM_tup, lenM_fl, intM_int, tyM_str, slM_str, isiM_non, isiM_bl, isiM_int, isiM_str, isiM_tup, resK_some, obL_lst, obS_lst, optK_some, isLst_lst, appendM_eq, popM_eq, reverseM_eq, lenM_refE, ixM_refE, ixM_tupE, ixM_flE, ixM_strE, srcOf_refE, srcK_liveE, tyM_refE, get_last, set_last, sTry_eq, tryK_nx, tryK_rt, noEx_nx, noEx_rt, sTryAs_eq, tryAsK_nx, tryAsK_rt, dropS_nx, dropS_rt, onNone_none, kb_NoneType_bool, kb_NoneType_int, kb_NoneType_str, kb_NoneType_tuple, kb_NoneType_list, kb_NoneType_dict, kb_bool_bool, kb_bool_int, kb_bool_str, kb_bool_tuple, kb_bool_list, kb_bool_dict, kb_int_bool, kb_int_int, kb_int_str, kb_int_tuple, kb_int_list, kb_int_dict, kb_str_bool, kb_str_int, kb_str_str, kb_str_tuple, kb_str_list, kb_str_dict, kb_tuple_bool, kb_tuple_int, kb_tuple_str, kb_tuple_tuple, kb_tuple_list, kb_tuple_dict, kb_list_bool, kb_list_int, kb_list_str, kb_list_tuple, kb_list_list, kb_list_dict, kb_dict_bool, kb_dict_int, kb_dict_str, kb_dict_tuple, kb_dict_list, kb_dict_dict, List.map_cons, List.map_nil, List.cons_append, List.nil_append, List.length_cons, List.length_nil, Nat.reduceAdd, Nat.reduceSub, List.replicate, List.set_cons_zero, List.set_cons_succ, Bool.false_eq_true, Bool.not_true, Bool.not_false, if_true, if_false, reduceIte, decide_eq_true_eq, Bool.not_eq_true', decide_eq_false_iff_not, not_true_eq_false, not_false_eq_true, ite_not, decide_true, decide_false, eq_self_iff_true, indexSM_eq, startsM_str, endsM_str, splitM_str, iR1_eq, iR2_eq, rngK_1, rngK2_2, chr1_eq, subS_one, and_self, true_and, and_true, false_and, and_false, or_true, true_or, or_self, false_or, or_false, ne_eq])
local macro_rules | `(tactic| walk_at "evh") => `(tactic| simp only [Bool.or_true, Bool.true_or, Bool.and_self, Bool.or_self, Bool.and_true, Bool.true_and, Bool.false_or, Bool.or_false, Bool.false_and, Bool.and_false, ltG_int, ltG_str, ltG_ref, ltG_tup, memM_eq, notMemM_eq, memB_str, blK_some, nblK_some, eqM_ref, eqM_tup, neM_ref, neM_tup, isM_fl, isNotM_non, isNotM_int, isNotM_str, isNotM_bl, isNotM_tup, isNotM_ref, listM_ref, listM_tup, listM_fl, listK_lst, listK_dK, tupleM_ref, tupleM_tup, tupleM_fl, divmodM_int, strM_int, min2M_int, max2M_int, intsOf_map, sumM_ref, sortedM_ref, insertM_eq, extendM_eq, popAtM_eq, clearM_eq, indexLM_eq, tyM_list_fl, tV_eq, truK_bl, truK_non, truK_int, truK_tup, truK_ref, obB_lst, obB_dK, sAsgT_eq, tgK_some, gN_eq, gT_eq, gsCons_eq, gK_some, gsNil_eq, sSetIx_eq, setK_eq, sAug_eq, augK_some, iaddM_int, isubM_int, eListR_eq, rg1_eq, rg2_eq, rg1K_int, rg2K_int, iZip_eq, zipM_tup, zipM_ref, iRev_eq, revM_tup, revM_ref, eLc_eq, lcK_vals, lcK_live, lcK_gen, optS_some, wipeW_nil, wipeW_cons, tYs_eq, lcT_gN, turnK_ite, putK_ok, putL_lst, lcV_nil, andThen_some, srcK_gen, bd_eq, bdK_ok, bdK_ex, bdK_bad, bdK_ite, rt_eq, bad_eq, app_ite, onE_ok, onE_ex, onE_bad, onE_ite, seq_eq, seqK_nx, seqK_rt, seqK_bk, seqK_ct, seqK_ex, seqK_bad, seqK_ite, loopK_nx, loopK_ct, loopK_bk, loopK_rt, loopK_ex, loopK_bad, loopK_ite, fn_eq, fnK_rt, fnK_nx, fnK_ex, fnK_ite, eVar_0, eVar_s, eC_eq, eOp_eq, eUn_eq, eAnd_eq, eOr_eq, eNot_eq, boK_bl, eIf_eq, eChain_eq, tB_eq, tbK_bl, tAnd_eq, tOr_eq, tNot_eq, aNil_eq, aCons_eq, eTup_eq, eLst_eq, new_eq, eB_eq, eCall_eq, eM_eq, eSl_eq, oNone_eq, oSome_eq, intK_int, sNil_eq, sExpr_eq, sRet_eq, sRetN_eq, sIf_eq, sAsg_eq, sRaise_eq, sBreak_eq, sCont_eq, sFor_eq, srcK_vals, iE_eq, srcOf_tup, srcOf_fl, srcOf_str, forV_nil, addM_int, addM_str, addM_tup, subM_int, mulM_int, mulM_str, modM_int, fdivM_int, powM_int, negM_int, ltM_int, leM_int, gtM_int, geM_int, eqM_int, eqM_str, eqM_bl, neM_int, neM_str, neM_bl, isM_non, isM_int, isM_str, isM_bl, isM_tup, isM_ref, inM_str, notInM_str, lenM_str, lenM_tup, lenM_fl, intM_int, tyM_str, slM_str, isiM_non, isiM_bl, isiM_int, isiM_str, isiM_tup, resK_some, obL_lst, obS_lst, optK_some, isLst_lst, appendM_eq, popM_eq, reverseM_eq, lenM_refE, ixM_refE, ixM_tupE, ixM_flE, ixM_strE, srcOf_refE, srcK_liveE, tyM_refE, get_last, set_last, sTry_eq, tryK_nx, tryK_rt, noEx_nx, noEx_rt, sTryAs_eq, tryAsK_nx, tryAsK_rt, dropS_nx, dropS_rt, onNone_none, kb_NoneType_bool, kb_NoneType_int, kb_NoneType_str, kb_NoneType_tuple, kb_NoneType_list, kb_NoneType_dict, kb_bool_bool, kb_bool_int, kb_bool_str, kb_bool_tuple, kb_bool_list, kb_bool_dict, kb_int_bool, kb_int_int, kb_int_str, kb_int_tuple, kb_int_list, kb_int_dict, kb_str_bool, kb_str_int, kb_str_str, kb_str_tuple, kb_str_list, kb_str_dict, kb_tuple_bool, kb_tuple_int, kb_tuple_str, kb_tuple_tuple, kb_tuple_list, kb_tuple_dict, kb_list_bool, kb_list_int, kb_list_str, kb_list_tuple, kb_list_list, kb_list_dict, kb_dict_bool, kb_dict_int, kb_dict_str, kb_dict_tuple, kb_dict_list, kb_dict_dict, List.map_cons, List.map_nil, List.cons_append, List.nil_append, List.length_cons, List.length_nil, Nat.reduceAdd, Nat.reduceSub, List.replicate, List.set_cons_zero, List.set_cons_succ, Bool.false_eq_true, Bool.not_true, Bool.not_false, if_true, if_false, reduceIte, decide_eq_true_eq, Bool.not_eq_true', decide_eq_false_iff_not, not_true_eq_false, not_false_eq_true, ite_not, decide_true, decide_false, eq_self_iff_true, indexSM_eq, startsM_str, endsM_str, splitM_str, iR1_eq, iR2_eq, rngK_1, rngK2_2, chr1_eq, subS_one, and_self, true_and, and_true, false_and, and_false, or_true, true_or, or_self, false_or, or_false, ne_eq, *])
def lw0 : Stm := (sAsg 1 (eCall m__law_draws (aCons (eVar 0) aNil)))
def lw1 : Stm := (sAsg 2 (eLc (iR1 (aCons (eCall m__law_pick (aCons (eVar 1) (aCons (eLst (aCons (eC (.int 2)) (aCons (eC (.int 0)) (aCons (eC (.int 1)) (aCons (eC (.int 3)) (aCons (eC (.int 4)) (aCons (eC (.int 5)) (aCons (eC (.int 6)) aNil)))))))) aNil))) aNil)) (gN 13) tYs (eCall m__law_list (aCons (eVar 1) aNil)) [13]))
def lw2 : Stm := (sAsg 3 (eLc (iE (eVar 2)) (gN 8) tYs (eCall m__law_draw (aCons (eVar 1) (aCons (eB lenM (aCons (eVar 8) aNil)) aNil))) [8]))
def lw3 : Stm := (sAsg 4 (eLc (iR1 (aCons (eB lenM (aCons (eVar 2) aNil)) aNil)) (gN 13) tYs (eOp ixM (eOp ixM (eVar 2) (eVar 13)) (eOp ixM (eVar 3) (eVar 13))) [13]))
def lw4 : Stm := (sAsg 5 (eLc (iE (eVar 2)) (gN 8) (tB (eOp gtM (eB lenM (aCons (eVar 8) aNil)) (eC (.int 1)))) (eB lenM (aCons (eVar 8) aNil)) [8]))
def lw5 : Stm := (sAsg 6 (eLc (iR1 (aCons (eB lenM (aCons (eVar 2) aNil)) aNil)) (gN 13) (tB (eOp gtM (eB lenM (aCons (eOp ixM (eVar 2) (eVar 13)) aNil)) (eC (.int 1)))) (eOp ixM (eVar 3) (eVar 13)) [13]))
def lw6 : Stm := (sAsg 7 (eLc (iE (eVar 2)) (gN 8) tYs (eB listM (aCons (eVar 8) aNil)) [8]))
def lw7 : Stm := (sAsg 8 (eB listM (aCons (eVar 4) aNil)))
def lw8 : Stm := (sAsg 9 (eB listM (aCons (eVar 6) aNil)))
def lw9 : Stm := (sFor (iR1 (aCons (eC (.int 2)) aNil)) (gN 10) (sSeq (sAsg 15 (eCall m_sizes_of (aCons (eVar 7) aNil)))
  (sSeq (sAsg 16 (eCall m_note_of (aCons (eVar 7) (aCons (eVar 8) aNil))))
  (sSeq (sAsg 17 (eCall m_chosen_by (aCons (eVar 7) (aCons (eVar 9) aNil))))
  (sSeq (sIf (tOr (tNot (tB (eCall (m__law_same 4) (aCons (eVar 15) (aCons (eVar 5) aNil))))) (tOr (tNot (tB (eCall (m__law_same 4) (aCons (eVar 16) (aCons (eVar 6) aNil))))) (tNot (tB (eCall (m__law_same 4) (aCons (eVar 17) (aCons (eVar 4) aNil))))))) (sRet (eC (.bl false))) sNil)
  (sSeq (sExpr (eM "list" appendM (eVar 15) (aCons (eC (.int 2)) aNil)))
  (sSeq (sExpr (eM "list" appendM (eVar 16) (aCons (eC (.int 0)) aNil)))
  (sExpr (eM "list" appendM (eVar 17) (aCons (eC (.int 0)) aNil))))))))))
def lw10 : Stm := (sAsg 11 (eCall m__law_near (aCons (eVar 1) (aCons (eVar 5) (aCons (eVar 6) aNil)))))
def lw11 : Stm := (sIf (tNot (tB (eCall m__law_digits (aCons (eVar 5) (aCons (eVar 11) aNil))))) (sIf (tNot (tB (eCall m__law_chosen_refused (aCons (eVar 7) (aCons (eB listM (aCons (eVar 11) aNil)) aNil))))) (sRet (eC (.bl false))) sNil) (sIf (tNot (tB (eCall (m__law_same 4) (aCons (eCall m_note_of (aCons (eVar 7) (aCons (eCall m_chosen_by (aCons (eVar 7) (aCons (eB listM (aCons (eVar 11) aNil)) aNil))) aNil))) (aCons (eVar 11) aNil))))) (sRet (eC (.bl false))) sNil))
def lw12 : Stm := (sFor (iR1 (aCons (eC (.int 2)) aNil)) (gN 10) (sSeq (sAsg 15 (eCall m_numbered_note (aCons (eB listM (aCons (eVar 5) aNil)) (aCons (eCall m__law_number (aCons (eVar 5) (aCons (eVar 6) aNil))) aNil))))
  (sSeq (sIf (tNot (tB (eCall (m__law_same 4) (aCons (eVar 15) (aCons (eVar 6) aNil))))) (sRet (eC (.bl false))) sNil)
  (sExpr (eM "list" appendM (eVar 15) (aCons (eC (.int 0)) aNil))))))
def lw13 : Stm := (sAsg 12 (eLst aNil))
def lw14 : Stm := (sFor (iR1 (aCons (eCall m__law_pick (aCons (eVar 1) (aCons (eLst (aCons (eC (.int 3)) (aCons (eC (.int 0)) (aCons (eC (.int 1)) (aCons (eC (.int 2)) (aCons (eC (.int 4)) (aCons (eC (.int 5)) (aCons (eC (.int 6)) aNil)))))))) aNil))) aNil)) (gN 13) (sExpr (eM "list" appendM (eVar 12) (aCons (eOp addM (eC (.int 1)) (eCall m__law_draw (aCons (eVar 1) (aCons (eCall m__law_pick (aCons (eVar 1) (aCons (eLst (aCons (eC (.int 4)) (aCons (eC (.int 1000)) (aCons (eC (.int 1)) aNil)))) aNil))) aNil)))) aNil))))
def lw15 : Stm := (sAsg 14 (eB listM (aCons (eVar 12) aNil)))
def lw16 : Stm := (sIf (tOr (tNot (tB (eCall m__law_numbers_asked (aCons (eVar 1) (aCons (eVar 5) aNil))))) (tNot (tB (eCall m__law_numbers_asked (aCons (eVar 1) (aCons (eVar 14) aNil)))))) (sRet (eC (.bl false))) sNil)
def lw17 : Stm := (sIf (tOr (tNot (tB (eCall (m__law_same 4) (aCons (eVar 14) (aCons (eVar 12) aNil))))) (tNot (tB (eCall (m__law_same 4) (aCons (eVar 7) (aCons (eVar 2) aNil)))))) (sRet (eC (.bl false))) sNil)
def lw18 : Stm := (sRet (eAnd (eCall (m__law_same 4) (aCons (eVar 8) (aCons (eVar 4) aNil))) (eCall (m__law_same 4) (aCons (eVar 9) (aCons (eVar 6) aNil)))))
theorem lweq : b_law = (sSeq lw0 (sSeq lw1 (sSeq lw2 (sSeq lw3 (sSeq lw4 (sSeq lw5 (sSeq lw6 (sSeq lw7 (sSeq lw8 (sSeq lw9 (sSeq lw10 (sSeq lw11 (sSeq lw12 (sSeq lw13 (sSeq lw14 (sSeq lw15 (sSeq lw16 (sSeq lw17 lw18)))))))))))))))))) := rfl
/-! ### the law: what is drawn -/
structure Drawn (d : Nat) (T : Sto) (L : Nat) (ws : List W) (xss : List (List PyData)) : Prop where
  at_ : T[L]? = some (.lst ws)
  vw : Vws [d] T 3 ws (xss.map PyData.list)
  ne : L ≠ d
theorem Drawn.kp {d L : Nat} {T T' : Sto} {ws : List W} {xss : List (List PyData)} (a : Drawn d T L ws xss) (k : Kp [d] T T') : Drawn d T' L ws xss := ⟨k.get (by simp; exact a.ne) a.at_, a.vw.kp k, a.ne⟩
theorem Drawn.lsts {d L : Nat} {T : Sto} {ws : List W} {xss : List (List PyData)} (a : Drawn d T L ws xss) : Lsts [d] T L ws xss := ⟨a.at_, a.vw.le (by omega)⟩
theorem Drawn.len {d L : Nat} {T : Sto} {ws : List W} {xss : List (List PyData)} (a : Drawn d T L ws xss) : ws.length = xss.length := by rw [a.vw.length]; simp
theorem Drawn.turn {d L : Nat} {T : Sto} {ws : List W} {xss : List (List PyData)} (a : Drawn d T L ws xss) {i : Nat} {x : W} (h1 : ws[i]? = some x) :
    ∃ xs items, xss[i]? = some xs ∧ xss.take (i + 1) = xss.take i ++ [xs] ∧ Vw [d] T 3 x (.list xs) ∧ Seen T false x items ∧ Vws [d] T 2 items xs ∧ getL T x = some items := by
  obtain ⟨y, h2, h3⟩ := a.vw.get h1
  rw [List.getElem?_map] at h2
  cases hx : xss[i]? with
  | none => rw [hx] at h2; cases h2
  | some xs =>
    rw [hx] at h2
    cases h2
    obtain ⟨items, m, em, s1, s2, g⟩ := h3.seen
    cases em
    have hl := (List.getElem?_eq_some_iff.mp hx).1
    refine ⟨xs, items, rfl, ?_, h3, s1, s2, g⟩
    rw [List.take_succ_eq_append_getElem hl]
    congr 2
    exact Option.some.inj ((List.getElem?_eq_getElem hl).symm.trans hx)
theorem lw1_run {S : Sto} {d : Nat} (hd : HasD d S) (c0 c2 c3 c4 c5 c6 c7 c8 c9 c10 c11 c12 c13 c14 c15 c16 c17 : Option W) :
    ∃ L ws xss T, lw1 [c0, some (.ref d), c2, c3, c4, c5, c6, c7, c8, c9, c10, c11, c12, c13, c14, c15, c16, c17] S = .nx [c0, some (.ref d), some (.ref L), c3, c4, c5, c6, c7, c8, c9, c10, c11, c12, c13, c14, c15, c16, c17] T ∧ Drawn d T L ws xss ∧ (∀ xs ∈ xss, GoodL xs) ∧ xss.length ≤ 6 ∧ Kp [d] S T ∧ HasD d T := by
  obtain ⟨n, S1, hn, k1, l1, d1, e1⟩ := pickK hd (is := [2, 0, 1, 3, 4, 5, 6]) (by decide)
  have hn' : 0 ≤ n ∧ n ≤ 6 := by simp at hn; omega
  have hdl := hd.lt
  obtain ⟨T, eT, ws, xss, q1, q2, q3, q4, q5, q6, q7⟩ := lcV_all (g := gN 13) (tt := tYs) (e := eCall m__law_list (aCons (eVar 1) aNil)) (s0 := [c0, some (.ref d), c2, c3, c4, c5, c6, c7, c8, c9, c10, c11, c12, none, c14, c15, c16, c17]) (D := S1.length) (rng 0 n.toNat)
    (fun pre T => ∃ ws xss, T[S1.length]? = some (.lst ws) ∧ ws.length = pre.length ∧ Vws [S1.length, d] T 3 ws (xss.map PyData.list) ∧ (∀ xs ∈ xss, GoodL xs) ∧ Kp [d] S1 T ∧ HasD d T ∧ S1.length < T.length)
    (fun pre x suf T e hI => by
      obtain ⟨ws, xss, q1, q2, q3, q4, q5, q6, q7⟩ := hI
      obtain ⟨rfl, hlt⟩ := rng_at e
      obtain ⟨T2, k, xs, f1, f2, f3, f4, f5, f6, f7⟩ := list_run (h := [S1.length, d]) q6 (fun i hi => by simp at hi; rcases hi with rfl | rfl; exact q7; exact q6.lt)
      have hD : T2[S1.length]? = some (.lst ws) := f4.get (by simp; omega) q1
      refine ⟨T2.set S1.length (.lst (ws ++ [.ref k])), ?_, ws ++ [.ref k], xss ++ [xs], set_get hD, by simp; exact q2, ?_, ?_, (q5.trans f4).new (Nat.le_refl _), ?_, by simp; have := f4.le; omega⟩
      · have hz : ws.length < sizeLine := by rw [sizeLine_n]; omega
        rw [lcT_gN]
        show turnK (tYs [c0, some (.ref d), c2, c3, c4, c5, c6, c7, c8, c9, c10, c11, c12, some (.int (0 + pre.length)), c14, c15, c16, c17] T) [c0, some (.ref d), c2, c3, c4, c5, c6, c7, c8, c9, c10, c11, c12, some (.int (0 + pre.length)), c14, c15, c16, c17] _ _ = _
        clear q1 q2 q3 q4 q5 q6 q7 f2 f3 f4 f5 f6 f7 k1 l1 d1 e1 hd e hlt hn hn' hdl
        walk_at "evh"
      · rw [List.map_append]
        have kk : Kp [S1.length, d] T2 (T2.set S1.length (.lst (ws ++ [.ref k]))) := Kp.set (by simp)
        exact ((q3.kp (f4.mono (by intro i hi; simp at hi ⊢; exact .inr hi))).kp kk).append (.cons (f2.kp kk) .nil)
      · intro ys hy
        rcases List.mem_append.mp hy with hy | hy
        · exact q4 ys hy
        · simp at hy; subst hy; exact f3
      · obtain ⟨zs, q⟩ := f5; exact ⟨zs, by rw [List.getElem?_set_ne (by omega)]; exact q⟩)
    (S := S1 ++ [.lst []]) ⟨[], [], get_last _ _, rfl, .nil, by simp, Kp.app _, d1.app _, by simp⟩
  have hlen : ws.length = n.toNat := by rw [q2, rng_len]
  refine ⟨S1.length, ws, xss, T, ?_, ⟨q1, q3.tail, by omega⟩, q4, ?_, k1.trans q5, q6⟩
  · have hin : inR 4611686018427387903 n = true := inR_iff.mpr (by omega)
    have h7 : 7 ≤ sizeLine := by rw [sizeLine_n]; decide
    have e1' : m__law_pick [.ref d, .ref S.length] (S ++ [.lst [.int 2, .int 0, .int 1, .int 3, .int 4, .int 5, .int 6]]) = .ok (.int n) S1 := e1
    unfold lw1
    clear q1 q2 q3 q4 q5 q6 q7 k1 l1 d1 e1 hd hn hn' hdl hlen
    walk_at "evh"
  · have := q3.length
    simp at this
    omega
theorem InJ.snoc : ∀ {xss : List (List PyData)} {js : List Nat} {xs : List PyData} {j : Nat}, InJ xss js → j < xs.length → InJ (xss ++ [xs]) (js ++ [j])
  | [], [], _, _, _, h => ⟨h, trivial⟩
  | _ :: _, _ :: _, _, _, a, h => ⟨a.1, InJ.snoc a.2 h⟩
  | [], _ :: _, _, _, a, _ => False.elim a
  | _ :: _, [], _, _, a, _ => False.elim a
theorem lw2_run {T : Sto} {d L : Nat} {ws : List W} {xss : List (List PyData)} (hd : HasD d T) (a : Drawn d T L ws xss) (hg : ∀ xs ∈ xss, GoodL xs) (hl : xss.length ≤ 6) (c0 c3 c4 c5 c6 c7 c8 c9 c10 c11 c12 c13 c14 c15 c16 c17 : Option W) :
    ∃ js T', lw2 [c0, some (.ref d), some (.ref L), c3, c4, c5, c6, c7, c8, c9, c10, c11, c12, c13, c14, c15, c16, c17] T = .nx [c0, some (.ref d), some (.ref L), some (.ref T.length), c4, c5, c6, c7, c8, c9, c10, c11, c12, c13, c14, c15, c16, c17] T' ∧ T'[T.length]? = some (oI (js.map Int.ofNat)) ∧ InJ xss js ∧ Kp [d] T T' ∧ HasD d T' := by
  have hdl := hd.lt
  obtain ⟨T', e, k1, k2, k3, js, k4, k5⟩ := lcL_all (g := gN 8) (tt := tYs) (e := eCall m__law_draw (aCons (eVar 1) (aCons (eB lenM (aCons (eVar 8) aNil)) aNil))) (s0 := [c0, some (.ref d), some (.ref L), c3, c4, c5, c6, c7, none, c9, c10, c11, c12, c13, c14, c15, c16, c17]) (D := T.length) (a := L) ws
    (fun pre T' => Kp [d] T T' ∧ T.length < T'.length ∧ HasD d T' ∧ ∃ js, T'[T.length]? = some (oI (js.map Int.ofNat)) ∧ InJ (xss.take pre.length) js) (fun pre T' h => h.1.get (by simp; exact a.ne) a.at_)
    (fun pre x suf T' e h => by
      obtain ⟨k1, k2, k3, js, k4, k5⟩ := h
      obtain ⟨xs, items, h1, h2, h3, h4, h5, _⟩ := (a.kp k1).turn (i := pre.length) (x := x) (by rw [e]; simp)
      have hG := hg xs (List.mem_of_getElem? h1)
      have hlen := h4.len
      rw [h5.length] at hlen
      obtain ⟨v, T2, hv, q1, q2, q3, q4⟩ := drawK k3 (n := (xs.length : Int)) (by have := hG.ne; omega)
      obtain ⟨j, rfl⟩ := Int.eq_ofNat_of_zero_le hv.1
      have hD : T2[T.length]? = some (oI (js.map Int.ofNat)) := q1.get (by simp; omega) k4
      refine ⟨T2.set T.length (oI ((js ++ [j]).map Int.ofNat)), ?_, (k1.trans q1).new (Nat.le_refl _), by simp; omega, ?_, js ++ [j], set_get hD, ?_⟩
      · rw [lcT_gN]
        show turnK (tYs [c0, some (.ref d), some (.ref L), c3, c4, c5, c6, c7, some x, c9, c10, c11, c12, c13, c14, c15, c16, c17] T') [c0, some (.ref d), some (.ref L), c3, c4, c5, c6, c7, some x, c9, c10, c11, c12, c13, c14, c15, c16, c17] _ _ = _
        have hz : (List.map W.int (js.map Int.ofNat)).length < sizeLine := by
          rw [List.length_map, List.length_map, sizeLine_n, k5.len, List.length_take]; omega
        have eo : List.map W.int (js.map Int.ofNat) ++ [W.int (j : Int)] = List.map W.int ((js ++ [j]).map Int.ofNat) := by simp
        clear hd a e h1 h2 h3 h4 h5 hv q1 q2 q3 k1 k2 k3 k4 k5 hl hdl hG hg
        walk_at "evh"
      · obtain ⟨zs, q⟩ := q3; exact ⟨zs, by rw [List.getElem?_set_ne (by omega)]; exact q⟩
      · rw [List.length_append, List.length_singleton, h2]
        exact k5.snoc (by omega))
    (S := T ++ [.lst []]) ⟨Kp.app _, by simp, hd.app _, [], get_last _ _, trivial⟩
  have hA := a.at_
  rw [a.len, List.take_length] at k5
  refine ⟨js, T', ?_, k4, k5, k1, k3⟩
  unfold lw2
  clear hd a hl hg k1 k2 k3 k4 k5 hdl
  walk_at "evh"

end Lw_k16

namespace Lw_k16
open PySem Fr
local macro_rules | `(tactic| walk_at "ev") => `(tactic| simp only [Bool.or_true, Bool.true_or, Bool.and_self, Bool.or_self, Bool.and_true, Bool.true_and, Bool.false_or, Bool.or_false, Bool.false_and, Bool.and_false, ltG_int, ltG_str, ltG_ref, ltG_tup, memM_eq, notMemM_eq, memB_str, blK_some, nblK_some, eqM_ref, eqM_tup, neM_ref, neM_tup, isM_fl, isNotM_non, isNotM_int, isNotM_str, isNotM_bl, isNotM_tup, isNotM_ref, listM_ref, listM_tup, listM_fl, listK_lst, listK_dK, tupleM_ref, tupleM_tup, tupleM_fl, divmodM_int, strM_int, min2M_int, max2M_int, intsOf_map, sumM_ref, sortedM_ref, insertM_eq, extendM_eq, popAtM_eq, clearM_eq, indexLM_eq, tyM_list_fl, tV_eq, truK_bl, truK_non, truK_int, truK_tup, truK_ref, obB_lst, obB_dK, sAsgT_eq, tgK_some, gN_eq, gT_eq, gsCons_eq, gK_some, gsNil_eq, sSetIx_eq, setK_eq, sAug_eq, augK_some, iaddM_int, isubM_int, eListR_eq, rg1_eq, rg2_eq, rg1K_int, rg2K_int, iZip_eq, zipM_tup, zipM_ref, iRev_eq, revM_tup, revM_ref, eLc_eq, lcK_vals, lcK_live, lcK_gen, optS_some, wipeW_nil, wipeW_cons, tYs_eq, lcT_gN, turnK_ite, putK_ok, putL_lst, lcV_nil, andThen_some, srcK_gen, bd_eq, bdK_ok, bdK_ex, bdK_bad, bdK_ite, rt_eq, bad_eq, app_ite, onE_ok, onE_ex, onE_bad, onE_ite, seq_eq, seqK_nx, seqK_rt, seqK_bk, seqK_ct, seqK_ex, seqK_bad, seqK_ite, loopK_nx, loopK_ct, loopK_bk, loopK_rt, loopK_ex, loopK_bad, loopK_ite, fn_eq, fnK_rt, fnK_nx, fnK_ex, fnK_ite, eVar_0, eVar_s, eC_eq, eOp_eq, eUn_eq, eAnd_eq, eOr_eq, eNot_eq, boK_bl, eIf_eq, eChain_eq, tB_eq, tbK_bl, tAnd_eq, tOr_eq, tNot_eq, aNil_eq, aCons_eq, eTup_eq, eLst_eq, new_eq, eB_eq, eCall_eq, eM_eq, eSl_eq, oNone_eq, oSome_eq, intK_int, sNil_eq, sExpr_eq, sRet_eq, sRetN_eq, sIf_eq, sAsg_eq, sRaise_eq, sBreak_eq, sCont_eq, sFor_eq, srcK_vals, iE_eq, srcOf_tup, srcOf_fl, srcOf_str, forV_nil, addM_int, addM_str, addM_tup, subM_int, mulM_int, mulM_str, modM_int, fdivM_int, powM_int, negM_int, ltM_int, leM_int, gtM_int, geM_int, eqM_int, eqM_str, eqM_bl, neM_int, neM_str, neM_bl, isM_non, isM_int, isM_str, isM_bl, isM_tup, isM_ref, inM_str, notInM_str, lenM_str, lenM_tup, lenM_fl, intM_int, tyM_str, slM_str, isiM_non, isiM_bl, isiM_int, isiM_str, isiM_tup, resK_some, obL_lst, obS_lst, optK_some, isLst_lst, appendM_eq, popM_eq, reverseM_eq, lenM_refE, ixM_refE, ixM_tupE, ixM_flE, ixM_strE, srcOf_refE, srcK_liveE, tyM_refE, get_last, set_last, sTry_eq, tryK_nx, tryK_rt, noEx_nx, noEx_rt, sTryAs_eq, tryAsK_nx, tryAsK_rt, dropS_nx, dropS_rt, onNone_none, kb_NoneType_bool, kb_NoneType_int, kb_NoneType_str, kb_NoneType_tuple, kb_NoneType_list, kb_NoneType_dict, kb_bool_bool, kb_bool_int, kb_bool_str, kb_bool_tuple, kb_bool_list, kb_bool_dict, kb_int_bool, kb_int_int, kb_int_str, kb_int_tuple, kb_int_list, kb_int_dict, kb_str_bool, kb_str_int, kb_str_str, kb_str_tuple, kb_str_list, kb_str_dict, kb_tuple_bool, kb_tuple_int, kb_tuple_str, kb_tuple_tuple, kb_tuple_list, kb_tuple_dict, kb_list_bool, kb_list_int, kb_list_str, kb_list_tuple, kb_list_list, kb_list_dict, kb_dict_bool, kb_dict_int, kb_dict_str, kb_dict_tuple, kb_dict_list, kb_dict_dict, List.map_cons, List.map_nil, List.cons_append, List.nil_append, List.length_cons, List.length_nil, Nat.reduceAdd, Nat.reduceSub, List.replicate, List.set_cons_zero, List.set_cons_succ, Bool.false_eq_true, Bool.not_true, Bool.not_false, if_true, if_false, reduceIte, decide_eq_true_eq, Bool.not_eq_true', decide_eq_false_iff_not, not_true_eq_false, not_false_eq_true, ite_not, decide_true, decide_false, eq_self_iff_true, indexSM_eq, startsM_str, endsM_str, splitM_str, iR1_eq, iR2_eq, rngK_1, rngK2_2, chr1_eq, subS_one, and_self, true_and, and_true, false_and, and_false, or_true, true_or, or_self, false_or, or_false, ne_eq])
local macro_rules | `(tactic| walk_at "evh") => `(tactic| simp only [Bool.or_true, Bool.true_or, Bool.and_self, Bool.or_self, Bool.and_true, Bool.true_and, Bool.false_or, Bool.or_false, Bool.false_and, Bool.and_false, ltG_int, ltG_str, ltG_ref, ltG_tup, memM_eq, notMemM_eq, memB_str, blK_some, nblK_some, eqM_ref, eqM_tup, neM_ref, neM_tup, isM_fl, isNotM_non, isNotM_int, isNotM_str, isNotM_bl, isNotM_tup, isNotM_ref, listM_ref, listM_tup, listM_fl, listK_lst, listK_dK, tupleM_ref, tupleM_tup, tupleM_fl, divmodM_int, strM_int, min2M_int, max2M_int, intsOf_map, sumM_ref, sortedM_ref, insertM_eq, extendM_eq, popAtM_eq, clearM_eq, indexLM_eq, tyM_list_fl, tV_eq, truK_bl, truK_non, truK_int, truK_tup, truK_ref, obB_lst, obB_dK, sAsgT_eq, tgK_some, gN_eq, gT_eq, gsCons_eq, gK_some, gsNil_eq, sSetIx_eq, setK_eq, sAug_eq, augK_some, iaddM_int, isubM_int, eListR_eq, rg1_eq, rg2_eq, rg1K_int, rg2K_int, iZip_eq, zipM_tup, zipM_ref, iRev_eq, revM_tup, revM_ref, eLc_eq, lcK_vals, lcK_live, lcK_gen, optS_some, wipeW_nil, wipeW_cons, tYs_eq, lcT_gN, turnK_ite, putK_ok, putL_lst, lcV_nil, andThen_some, srcK_gen, bd_eq, bdK_ok, bdK_ex, bdK_bad, bdK_ite, rt_eq, bad_eq, app_ite, onE_ok, onE_ex, onE_bad, onE_ite, seq_eq, seqK_nx, seqK_rt, seqK_bk, seqK_ct, seqK_ex, seqK_bad, seqK_ite, loopK_nx, loopK_ct, loopK_bk, loopK_rt, loopK_ex, loopK_bad, loopK_ite, fn_eq, fnK_rt, fnK_nx, fnK_ex, fnK_ite, eVar_0, eVar_s, eC_eq, eOp_eq, eUn_eq, eAnd_eq, eOr_eq, eNot_eq, boK_bl, eIf_eq, eChain_eq, tB_eq, tbK_bl, tAnd_eq, tOr_eq, tNot_eq, aNil_eq, aCons_eq, eTup_eq, eLst_eq, new_eq, eB_eq, eCall_eq, eM_eq, eSl_eq, oNone_eq, oSome_eq, intK_int, sNil_eq, sExpr_eq, sRet_eq, sRetN_eq, sIf_eq, sAsg_eq, sRaise_eq, sBreak_eq, sCont_eq, sFor_eq, srcK_vals, iE_eq, srcOf_tup, srcOf_fl, srcOf_str, forV_nil, addM_int, addM_str, addM_tup, subM_int, mulM_int, mulM_str, modM_int, fdivM_int, powM_int, negM_int, ltM_int, leM_int, gtM_int, geM_int, eqM_int, eqM_str, eqM_bl, neM_int, neM_str, neM_bl, isM_non, isM_int, isM_str, isM_bl, isM_tup, isM_ref, inM_str, notInM_str, lenM_str, lenM_tup, lenM_fl, intM_int, tyM_str, slM_str, isiM_non, isiM_bl, isiM_int, isiM_str, isiM_tup, resK_some, obL_lst, obS_lst, optK_some, isLst_lst, appendM_eq, popM_eq, reverseM_eq, lenM_refE, ixM_refE, ixM_tupE, ixM_flE, ixM_strE, srcOf_refE, srcK_liveE, tyM_refE, get_last, set_last, sTry_eq, tryK_nx, tryK_rt, noEx_nx, noEx_rt, sTryAs_eq, tryAsK_nx, tryAsK_rt, dropS_nx, dropS_rt, onNone_none, kb_NoneType_bool, kb_NoneType_int, kb_NoneType_str, kb_NoneType_tuple, kb_NoneType_list, kb_NoneType_dict, kb_bool_bool, kb_bool_int, kb_bool_str, kb_bool_tuple, kb_bool_list, kb_bool_dict, kb_int_bool, kb_int_int, kb_int_str, kb_int_tuple, kb_int_list, kb_int_dict, kb_str_bool, kb_str_int, kb_str_str, kb_str_tuple, kb_str_list, kb_str_dict, kb_tuple_bool, kb_tuple_int, kb_tuple_str, kb_tuple_tuple, kb_tuple_list, kb_tuple_dict, kb_list_bool, kb_list_int, kb_list_str, kb_list_tuple, kb_list_list, kb_list_dict, kb_dict_bool, kb_dict_int, kb_dict_str, kb_dict_tuple, kb_dict_list, kb_dict_dict, List.map_cons, List.map_nil, List.cons_append, List.nil_append, List.length_cons, List.length_nil, Nat.reduceAdd, Nat.reduceSub, List.replicate, List.set_cons_zero, List.set_cons_succ, Bool.false_eq_true, Bool.not_true, Bool.not_false, if_true, if_false, reduceIte, decide_eq_true_eq, Bool.not_eq_true', decide_eq_false_iff_not, not_true_eq_false, not_false_eq_true, ite_not, decide_true, decide_false, eq_self_iff_true, indexSM_eq, startsM_str, endsM_str, splitM_str, iR1_eq, iR2_eq, rngK_1, rngK2_2, chr1_eq, subS_one, and_self, true_and, and_true, false_and, and_false, or_true, true_or, or_self, false_or, or_false, ne_eq, *])
theorem chJ_snoc : ∀ {xss : List (List PyData)} {js : List Nat} (xs : List PyData) (j : Nat), xss.length = js.length → chJ (xss ++ [xs]) (js ++ [j]) = chJ xss js ++ [xs.getD j .none]
  | [], [], _, _, _ => rfl
  | _ :: xss, _ :: js, xs, j, h => by
    simp only [List.cons_append, chJ, chJ_snoc (xss := xss) (js := js) xs j (by simpa using h)]
  | [], _ :: _, _, _, h => by simp at h
  | _ :: _, [], _, _, h => by simp at h
theorem noteOf_snoc : ∀ {xss : List (List PyData)} {js : List Nat} (xs : List PyData) (j : Nat), xss.length = js.length → noteOf (xss ++ [xs]) (js ++ [j]) = noteOf xss js ++ if 1 < (xs.length : Int) then [(j : Int)] else []
  | [], [], _, _, _ => by simp [noteOf]
  | _ :: xss, _ :: js, xs, j, h => by
    simp only [List.cons_append, noteOf, noteOf_snoc (xss := xss) (js := js) xs j (by simpa using h), List.append_assoc]
  | [], _ :: _, _, _, h => by simp at h
  | _ :: _, [], _, _, h => by simp at h
theorem getL_old {T r : Sto} {x : W} {items : List W} (h : getL T x = some items) : getL (T ++ r) x = some items := by
  cases x with
  | fl q => exact h
  | ref k =>
    unfold getL at h ⊢
    simp only at h ⊢
    split at h
    · rename_i xs hk
      rw [get_old r hk]
      exact h
    · cases h
  | _ => cases h
section
variable {T : Sto} {d L J : Nat} {ws : List W} {xss : List (List PyData)} {js : List Nat} {c0 c2 c3 c4 c5 c6 c7 c8 c9 c10 c11 c12 c13 c14 c15 c16 c17 : Option W}
theorem at_turn {pre : List W} (a : Drawn d T L ws xss) (hJ : T[J]? = some (oI (js.map Int.ofNat))) (hj : InJ xss js) (hlt : pre.length < ws.length) :
    ∃ x xs items j u, L2.atI ws (pre.length : Int) = some x ∧ xss[pre.length]? = some xs ∧ js[pre.length]? = some j ∧ xss.take (pre.length + 1) = xss.take pre.length ++ [xs] ∧ js.take (pre.length + 1) = js.take pre.length ++ [j] ∧ Seen T false x items ∧ Vws [d] T 2 items xs ∧ L2.atI (List.map W.int (js.map Int.ofNat)) (pre.length : Int) = some (.int (j : Int)) ∧ L2.atI items (j : Int) = some u ∧ Vw [d] T 2 u (xs.getD j .none) ∧ xss.length = js.length ∧ getL T x = some items := by
  obtain ⟨x, hx⟩ : ∃ x, ws[pre.length]? = some x := ⟨_, List.getElem?_eq_getElem hlt⟩
  obtain ⟨xs, items, h1, h2, h3, h4, h5, gl⟩ := a.turn hx
  have hjl := hj.len
  have hl2 : pre.length < js.length := by rw [hjl, ← a.len]; exact hlt
  obtain ⟨j, hjj⟩ : ∃ j, js[pre.length]? = some j := ⟨_, List.getElem?_eq_getElem hl2⟩
  obtain ⟨y, q1, q2⟩ := chJ_at hj pre.length xs j h1 hjj
  obtain ⟨u, q3, q4⟩ := h5.get' q2
  refine ⟨x, xs, items, j, u, by rw [atI_nat]; exact hx, h1, hjj, h2, ?_, h4, h5, ?_, by rw [atI_nat]; exact q3, ?_, hjl.symm, gl⟩
  · rw [List.take_succ_eq_append_getElem hl2]
    congr 2
    exact Option.some.inj ((List.getElem?_eq_getElem hl2).symm.trans hjj)
  · rw [atI_nat, List.getElem?_map, List.getElem?_map, hjj]; rfl
  · rw [List.getD_eq_getElem?_getD, q2]; exact q4
theorem lw3_run (a : Drawn d T L ws xss) (hJ : T[J]? = some (oI (js.map Int.ofNat))) (hj : InJ xss js) (hl : xss.length ≤ 6) :
    ∃ cw, lw3 [c0, some (.ref d), some (.ref L), some (.ref J), c4, c5, c6, c7, c8, c9, c10, c11, c12, c13, c14, c15, c16, c17] T = .nx [c0, some (.ref d), some (.ref L), some (.ref J), some (.ref T.length), c5, c6, c7, c8, c9, c10, c11, c12, c13, c14, c15, c16, c17] (T ++ [.lst cw]) ∧ Vws [d] T 2 cw (chJ xss js) := by
  have hal := a.len
  obtain ⟨T', e, cw, rfl, h2⟩ := lcV_all (g := gN 13) (tt := tYs) (e := eOp ixM (eOp ixM (eVar 2) (eVar 13)) (eOp ixM (eVar 3) (eVar 13))) (s0 := [c0, some (.ref d), some (.ref L), some (.ref J), c4, c5, c6, c7, c8, c9, c10, c11, c12, none, c14, c15, c16, c17]) (D := T.length) (rng 0 ws.length)
    (fun pre T' => ∃ cw, T' = T ++ [.lst cw] ∧ Vws [d] T 2 cw (chJ (xss.take pre.length) (js.take pre.length)))
    (fun pre x suf T' e h => by
      obtain ⟨cw, rfl, hv⟩ := h
      obtain ⟨rfl, hlt⟩ := rng_at e
      have kp : Kp [d] T (T ++ [.lst cw]) := Kp.app _
      have hdne : J < T.length := (List.getElem?_eq_some_iff.mp hJ).1
      obtain ⟨x, xs, items, j, u, f1, f2, f3, f4, f5, f6, f7, f8, f9, f10, f11, gl⟩ := at_turn (pre := pre) a hJ hj hlt
      have g6 := seen_getL (T ++ [.lst cw]) x items (getL_old gl)
      refine ⟨_, ?_, cw ++ [u], rfl, ?_⟩
      · have hA := (a.kp kp).at_
        have hJ2 : (T ++ [Ob.lst cw])[J]? = some (oI (js.map Int.ofNat)) := get_old _ hJ
        have hix := g6.ix (j : Int)
        rw [f9] at hix
        have hz : cw.length < sizeLine := by
          rw [hv.length, sizeLine_n]
          have : (chJ (xss.take pre.length) (js.take pre.length)).length ≤ (xss.take pre.length).length := by
            have key : ∀ (p : List (List PyData)) (q : List Nat), (chJ p q).length ≤ p.length := by
              intro p
              induction p with
              | nil => intro q; simp [chJ]
              | cons a p ih => intro q; cases q with
                | nil => simp [chJ]
                | cons b q => simp [chJ, ih q]
            exact key _ _
          rw [List.length_take] at this
          omega
        rw [Int.zero_add, lcT_gN]
        show turnK (tYs [c0, some (.ref d), some (.ref L), some (.ref J), c4, c5, c6, c7, c8, c9, c10, c11, c12, some (.int (pre.length : Int)), c14, c15, c16, c17] (T ++ [.lst cw])) [c0, some (.ref d), some (.ref L), some (.ref J), c4, c5, c6, c7, c8, c9, c10, c11, c12, some (.int (pre.length : Int)), c14, c15, c16, c17] _ _ = _
        clear a hJ hj hl hal hv e hlt kp hdne g6 f2 f3 f4 f5 f6 f7 f9 f10 f11 gl
        walk_at "evh"
      · rw [List.length_append, List.length_singleton, f4, f5, chJ_snoc _ _ (by simp [List.length_take]; omega)]
        exact hv.append (.cons f10 .nil))
    (S := T ++ [.lst []]) ⟨[], rfl, by simp [chJ]; exact .nil⟩
  rw [rng_len, hal, List.take_length, ← hj.len, List.take_length] at h2
  refine ⟨cw, ?_, h2⟩
  have hA := a.at_
  have i0 := small62 ws.length (by omega)
  have e3 : ((ws.length : Int)).toNat = ws.length := by omega
  unfold lw3
  clear a hJ hj hl hal h2
  walk_at "evh"
end

end Lw_k16

namespace Lw_k16
open PySem Fr
local macro_rules | `(tactic| walk_at "ev") => `(tactic| simp only [Bool.or_true, Bool.true_or, Bool.and_self, Bool.or_self, Bool.and_true, Bool.true_and, Bool.false_or, Bool.or_false, Bool.false_and, Bool.and_false, ltG_int, ltG_str, ltG_ref, ltG_tup, memM_eq, notMemM_eq, memB_str, blK_some, nblK_some, eqM_ref, eqM_tup, neM_ref, neM_tup, isM_fl, isNotM_non, isNotM_int, isNotM_str, isNotM_bl, isNotM_tup, isNotM_ref, listM_ref, listM_tup, listM_fl, listK_lst, listK_dK, tupleM_ref, tupleM_tup, tupleM_fl, divmodM_int, strM_int, min2M_int, max2M_int, intsOf_map, sumM_ref, sortedM_ref, insertM_eq, extendM_eq, popAtM_eq, clearM_eq, indexLM_eq, tyM_list_fl, tV_eq, truK_bl, truK_non, truK_int, truK_tup, truK_ref, obB_lst, obB_dK, sAsgT_eq, tgK_some, gN_eq, gT_eq, gsCons_eq, gK_some, gsNil_eq, sSetIx_eq, setK_eq, sAug_eq, augK_some, iaddM_int, isubM_int, eListR_eq, rg1_eq, rg2_eq, rg1K_int, rg2K_int, iZip_eq, zipM_tup, zipM_ref, iRev_eq, revM_tup, revM_ref, eLc_eq, lcK_vals, lcK_live, lcK_gen, optS_some, wipeW_nil, wipeW_cons, tYs_eq, lcT_gN, turnK_ite, putK_ok, putL_lst, lcV_nil, andThen_some, srcK_gen, bd_eq, bdK_ok, bdK_ex, bdK_bad, bdK_ite, rt_eq, bad_eq, app_ite, onE_ok, onE_ex, onE_bad, onE_ite, seq_eq, seqK_nx, seqK_rt, seqK_bk, seqK_ct, seqK_ex, seqK_bad, seqK_ite, loopK_nx, loopK_ct, loopK_bk, loopK_rt, loopK_ex, loopK_bad, loopK_ite, fn_eq, fnK_rt, fnK_nx, fnK_ex, fnK_ite, eVar_0, eVar_s, eC_eq, eOp_eq, eUn_eq, eAnd_eq, eOr_eq, eNot_eq, boK_bl, eIf_eq, eChain_eq, tB_eq, tbK_bl, tAnd_eq, tOr_eq, tNot_eq, aNil_eq, aCons_eq, eTup_eq, eLst_eq, new_eq, eB_eq, eCall_eq, eM_eq, eSl_eq, oNone_eq, oSome_eq, intK_int, sNil_eq, sExpr_eq, sRet_eq, sRetN_eq, sIf_eq, sAsg_eq, sRaise_eq, sBreak_eq, sCont_eq, sFor_eq, srcK_vals, iE_eq, srcOf_tup, srcOf_fl, srcOf_str, forV_nil, addM_int, addM_str, addM_tup, subM_int, mulM_int, mulM_str, modM_int, fdivM_int, powM_int, negM_int, ltM_int, leM_int, gtM_int, geM_int, eqM_int, eqM_str, eqM_bl, neM_int, neM_str, neM_bl, isM_non, isM_int, isM_str, isM_bl, isM_tup, isM_ref, inM_str, notInM_str, lenM_str, lenM_tup, lenM_fl, intM_int, tyM_str, slM_str, isiM_non, isiM_bl, isiM_int, isiM_str, isiM_tup, resK_some, obL_lst, obS_lst, optK_some, isLst_lst, appendM_eq, popM_eq, reverseM_eq, lenM_refE, ixM_refE, ixM_tupE, ixM_flE, ixM_strE, srcOf_refE, srcK_liveE, tyM_refE, get_last, set_last, sTry_eq, tryK_nx, tryK_rt, noEx_nx, noEx_rt, sTryAs_eq, tryAsK_nx, tryAsK_rt, dropS_nx, dropS_rt, onNone_none, kb_NoneType_bool, kb_NoneType_int, kb_NoneType_str, kb_NoneType_tuple, kb_NoneType_list, kb_NoneType_dict, kb_bool_bool, kb_bool_int, kb_bool_str, kb_bool_tuple, kb_bool_list, kb_bool_dict, kb_int_bool, kb_int_int, kb_int_str, kb_int_tuple, kb_int_list, kb_int_dict, kb_str_bool, kb_str_int, kb_str_str, kb_str_tuple, kb_str_list, kb_str_dict, kb_tuple_bool, kb_tuple_int, kb_tuple_str, kb_tuple_tuple, kb_tuple_list, kb_tuple_dict, kb_list_bool, kb_list_int, kb_list_str, kb_list_tuple, kb_list_list, kb_list_dict, kb_dict_bool, kb_dict_int, kb_dict_str, kb_dict_tuple, kb_dict_list, kb_dict_dict, List.map_cons, List.map_nil, List.cons_append, List.nil_append, List.length_cons, List.length_nil, Nat.reduceAdd, Nat.reduceSub, List.replicate, List.set_cons_zero, List.set_cons_succ, Bool.false_eq_true, Bool.not_true, Bool.not_false, if_true, if_false, reduceIte, decide_eq_true_eq, Bool.not_eq_true', decide_eq_false_iff_not, not_true_eq_false, not_false_eq_true, ite_not, decide_true, decide_false, eq_self_iff_true, indexSM_eq, startsM_str, endsM_str, splitM_str, iR1_eq, iR2_eq, rngK_1, rngK2_2, chr1_eq, subS_one, and_self, true_and, and_true, false_and, and_false, or_true, true_or, or_self, false_or, or_false, ne_eq])
local macro_rules | `(tactic| walk_at "evh") => `(tactic| simp only [Bool.or_true, Bool.true_or, Bool.and_self, Bool.or_self, Bool.and_true, Bool.true_and, Bool.false_or, Bool.or_false, Bool.false_and, Bool.and_false, ltG_int, ltG_str, ltG_ref, ltG_tup, memM_eq, notMemM_eq, memB_str, blK_some, nblK_some, eqM_ref, eqM_tup, neM_ref, neM_tup, isM_fl, isNotM_non, isNotM_int, isNotM_str, isNotM_bl, isNotM_tup, isNotM_ref, listM_ref, listM_tup, listM_fl, listK_lst, listK_dK, tupleM_ref, tupleM_tup, tupleM_fl, divmodM_int, strM_int, min2M_int, max2M_int, intsOf_map, sumM_ref, sortedM_ref, insertM_eq, extendM_eq, popAtM_eq, clearM_eq, indexLM_eq, tyM_list_fl, tV_eq, truK_bl, truK_non, truK_int, truK_tup, truK_ref, obB_lst, obB_dK, sAsgT_eq, tgK_some, gN_eq, gT_eq, gsCons_eq, gK_some, gsNil_eq, sSetIx_eq, setK_eq, sAug_eq, augK_some, iaddM_int, isubM_int, eListR_eq, rg1_eq, rg2_eq, rg1K_int, rg2K_int, iZip_eq, zipM_tup, zipM_ref, iRev_eq, revM_tup, revM_ref, eLc_eq, lcK_vals, lcK_live, lcK_gen, optS_some, wipeW_nil, wipeW_cons, tYs_eq, lcT_gN, turnK_ite, putK_ok, putL_lst, lcV_nil, andThen_some, srcK_gen, bd_eq, bdK_ok, bdK_ex, bdK_bad, bdK_ite, rt_eq, bad_eq, app_ite, onE_ok, onE_ex, onE_bad, onE_ite, seq_eq, seqK_nx, seqK_rt, seqK_bk, seqK_ct, seqK_ex, seqK_bad, seqK_ite, loopK_nx, loopK_ct, loopK_bk, loopK_rt, loopK_ex, loopK_bad, loopK_ite, fn_eq, fnK_rt, fnK_nx, fnK_ex, fnK_ite, eVar_0, eVar_s, eC_eq, eOp_eq, eUn_eq, eAnd_eq, eOr_eq, eNot_eq, boK_bl, eIf_eq, eChain_eq, tB_eq, tbK_bl, tAnd_eq, tOr_eq, tNot_eq, aNil_eq, aCons_eq, eTup_eq, eLst_eq, new_eq, eB_eq, eCall_eq, eM_eq, eSl_eq, oNone_eq, oSome_eq, intK_int, sNil_eq, sExpr_eq, sRet_eq, sRetN_eq, sIf_eq, sAsg_eq, sRaise_eq, sBreak_eq, sCont_eq, sFor_eq, srcK_vals, iE_eq, srcOf_tup, srcOf_fl, srcOf_str, forV_nil, addM_int, addM_str, addM_tup, subM_int, mulM_int, mulM_str, modM_int, fdivM_int, powM_int, negM_int, ltM_int, leM_int, gtM_int, geM_int, eqM_int, eqM_str, eqM_bl, neM_int, neM_str, neM_bl, isM_non, isM_int, isM_str, isM_bl, isM_tup, isM_ref, inM_str, notInM_str, lenM_str, lenM_tup, lenM_fl, intM_int, tyM_str, slM_str, isiM_non, isiM_bl, isiM_int, isiM_str, isiM_tup, resK_some, obL_lst, obS_lst, optK_some, isLst_lst, appendM_eq, popM_eq, reverseM_eq, lenM_refE, ixM_refE, ixM_tupE, ixM_flE, ixM_strE, srcOf_refE, srcK_liveE, tyM_refE, get_last, set_last, sTry_eq, tryK_nx, tryK_rt, noEx_nx, noEx_rt, sTryAs_eq, tryAsK_nx, tryAsK_rt, dropS_nx, dropS_rt, onNone_none, kb_NoneType_bool, kb_NoneType_int, kb_NoneType_str, kb_NoneType_tuple, kb_NoneType_list, kb_NoneType_dict, kb_bool_bool, kb_bool_int, kb_bool_str, kb_bool_tuple, kb_bool_list, kb_bool_dict, kb_int_bool, kb_int_int, kb_int_str, kb_int_tuple, kb_int_list, kb_int_dict, kb_str_bool, kb_str_int, kb_str_str, kb_str_tuple, kb_str_list, kb_str_dict, kb_tuple_bool, kb_tuple_int, kb_tuple_str, kb_tuple_tuple, kb_tuple_list, kb_tuple_dict, kb_list_bool, kb_list_int, kb_list_str, kb_list_tuple, kb_list_list, kb_list_dict, kb_dict_bool, kb_dict_int, kb_dict_str, kb_dict_tuple, kb_dict_list, kb_dict_dict, List.map_cons, List.map_nil, List.cons_append, List.nil_append, List.length_cons, List.length_nil, Nat.reduceAdd, Nat.reduceSub, List.replicate, List.set_cons_zero, List.set_cons_succ, Bool.false_eq_true, Bool.not_true, Bool.not_false, if_true, if_false, reduceIte, decide_eq_true_eq, Bool.not_eq_true', decide_eq_false_iff_not, not_true_eq_false, not_false_eq_true, ite_not, decide_true, decide_false, eq_self_iff_true, indexSM_eq, startsM_str, endsM_str, splitM_str, iR1_eq, iR2_eq, rngK_1, rngK2_2, chr1_eq, subS_one, and_self, true_and, and_true, false_and, and_false, or_true, true_or, or_self, false_or, or_false, ne_eq, *])
section
variable {T : Sto} {d L J C K1 : Nat} {ws cw : List W} {xss : List (List PyData)} {js : List Nat} {c0 c1 c2 c3 c4 c5 c6 c7 c8 c9 c10 c11 c12 c13 c14 c15 c16 c17 : Option W}
theorem lw4_run (a : Drawn d T L ws xss) (hl : xss.length ≤ 6) :
    lw4 [c0, c1, some (.ref L), c3, c4, c5, c6, c7, c8, c9, c10, c11, c12, c13, c14, c15, c16, c17] T = .nx [c0, c1, some (.ref L), c3, c4, some (.ref T.length), c6, c7, c8, c9, c10, c11, c12, c13, c14, c15, c16, c17] (T ++ [oI (szs xss)]) := by
  have hal := a.len
  obtain ⟨T', e, hT⟩ := lcL_all (g := gN 8) (tt := tB (eOp gtM (eB lenM (aCons (eVar 8) aNil)) (eC (.int 1)))) (e := eB lenM (aCons (eVar 8) aNil)) (s0 := [c0, c1, some (.ref L), c3, c4, c5, c6, c7, none, c9, c10, c11, c12, c13, c14, c15, c16, c17]) (D := T.length) (a := L) ws
    (fun pre T' => T' = T ++ [oI (szs (xss.take pre.length))]) (fun pre T' h => by rw [h]; exact get_old _ a.at_)
    (fun pre x suf T' e hI => by
      subst hI
      obtain ⟨xs, items, h1, h2, h3, h4, h5, gl⟩ := a.turn (i := pre.length) (x := x) (by rw [e]; simp)
      have hlen := (seen_getL (T ++ [oI (szs (xss.take pre.length))]) x items (getL_old gl)).len
      rw [h5.length] at hlen
      have hz : (List.map W.int (szs (xss.take pre.length))).length < sizeLine := by
        rw [List.length_map, sizeLine_n]
        have := szs_len (xss.take pre.length)
        rw [List.length_take] at this
        omega
      refine ⟨_, ?_, rfl⟩
      rw [List.length_append, List.length_singleton, h2, szs_snoc, lcT_gN]
      show turnK (tB (eOp gtM (eB lenM (aCons (eVar 8) aNil)) (eC (.int 1))) [c0, c1, some (.ref L), c3, c4, c5, c6, c7, some x, c9, c10, c11, c12, c13, c14, c15, c16, c17] _) [c0, c1, some (.ref L), c3, c4, c5, c6, c7, some x, c9, c10, c11, c12, c13, c14, c15, c16, c17] _ _ = _
      clear a h1 h2 h3 h4 h5 e hl hal gl
      by_cases g : 1 < (xs.length : Int)
      · walk_at "evh"
        simp
      · walk_at "evh"
        simp)
    (S := T ++ [.lst []]) rfl
  subst hT
  rw [hal, List.take_length, ← hal] at e
  have hA := a.at_
  unfold lw4
  clear a hl hal
  walk_at "evh"
theorem lw5_run (a : Drawn d T L ws xss) (hJ : T[J]? = some (oI (js.map Int.ofNat))) (hj : InJ xss js) (hl : xss.length ≤ 6) :
    lw5 [c0, c1, some (.ref L), some (.ref J), c4, c5, c6, c7, c8, c9, c10, c11, c12, c13, c14, c15, c16, c17] T = .nx [c0, c1, some (.ref L), some (.ref J), c4, c5, some (.ref T.length), c7, c8, c9, c10, c11, c12, c13, c14, c15, c16, c17] (T ++ [oI (noteOf xss js)]) := by
  have hal := a.len
  obtain ⟨T', e, hT⟩ := lcV_all (g := gN 13) (tt := tB (eOp gtM (eB lenM (aCons (eOp ixM (eVar 2) (eVar 13)) aNil)) (eC (.int 1)))) (e := eOp ixM (eVar 3) (eVar 13)) (s0 := [c0, c1, some (.ref L), some (.ref J), c4, c5, c6, c7, c8, c9, c10, c11, c12, none, c14, c15, c16, c17]) (D := T.length) (rng 0 ws.length)
    (fun pre T' => T' = T ++ [oI (noteOf (xss.take pre.length) (js.take pre.length))])
    (fun pre x suf T' e h => by
      subst h
      obtain ⟨rfl, hlt⟩ := rng_at e
      obtain ⟨x, xs, items, j, u, f1, f2, f3, f4, f5, f6, f7, f8, f9, f10, f11, gl⟩ := at_turn (pre := pre) a hJ hj hlt
      have hlen := (seen_getL (T ++ [oI (noteOf (xss.take pre.length) (js.take pre.length))]) x items (getL_old gl)).len
      rw [f7.length] at hlen
      have hA : (T ++ [oI (noteOf (xss.take pre.length) (js.take pre.length))])[L]? = some (.lst ws) := get_old _ a.at_
      have hJ2 : (T ++ [oI (noteOf (xss.take pre.length) (js.take pre.length))])[J]? = some (oI (js.map Int.ofNat)) := get_old _ hJ
      have hz : (List.map W.int (noteOf (xss.take pre.length) (js.take pre.length))).length < sizeLine := by
        rw [List.length_map, sizeLine_n]
        have := noteOf_len (xss.take pre.length) (js.take pre.length)
        rw [List.length_take] at this
        omega
      refine ⟨_, ?_, rfl⟩
      rw [List.length_append, List.length_singleton, f4, f5, noteOf_snoc _ _ (by simp [List.length_take]; omega), Int.zero_add, lcT_gN]
      show turnK (tB (eOp gtM (eB lenM (aCons (eOp ixM (eVar 2) (eVar 13)) aNil)) (eC (.int 1))) [c0, c1, some (.ref L), some (.ref J), c4, c5, c6, c7, c8, c9, c10, c11, c12, some (.int (pre.length : Int)), c14, c15, c16, c17] _) [c0, c1, some (.ref L), some (.ref J), c4, c5, c6, c7, c8, c9, c10, c11, c12, some (.int (pre.length : Int)), c14, c15, c16, c17] _ _ = _
      clear a hJ hj hl hal e hlt f2 f3 f4 f5 f6 f7 f9 f10 f11 gl
      by_cases g : 1 < (xs.length : Int)
      · walk_at "evh"
        simp
      · walk_at "evh"
        simp)
    (S := T ++ [.lst []]) rfl
  subst hT
  rw [rng_len, hal, List.take_length, ← hj.len, List.take_length] at e
  rw [hj.len, ← hal] at e
  have hA := a.at_
  have i0 := small62 ws.length (by omega)
  have e3 : ((ws.length : Int)).toNat = ws.length := by omega
  unfold lw5
  clear a hJ hj hl hal
  walk_at "evh"
theorem lw6_run (hd : HasD d T) (a : Drawn d T L ws xss) (hl : xss.length ≤ 6) :
    ∃ ps T', lw6 [c0, c1, some (.ref L), c3, c4, c5, c6, c7, c8, c9, c10, c11, c12, c13, c14, c15, c16, c17] T = .nx [c0, c1, some (.ref L), c3, c4, c5, c6, some (.ref T.length), c8, c9, c10, c11, c12, c13, c14, c15, c16, c17] T' ∧ Drawn d T' T.length ps xss ∧ Kp [] T T' := by
  have hal := a.len
  have hdl := hd.lt
  obtain ⟨T', e, ps, q1, q2, q3, q4⟩ := lcL_all (g := gN 8) (tt := tYs) (e := eB listM (aCons (eVar 8) aNil)) (s0 := [c0, c1, some (.ref L), c3, c4, c5, c6, c7, none, c9, c10, c11, c12, c13, c14, c15, c16, c17]) (D := T.length) (a := L) ws
    (fun pre T' => ∃ ps, T'[T.length]? = some (.lst ps) ∧ Vws [T.length, d] T' 3 ps ((xss.take pre.length).map PyData.list) ∧ Kp [] T T' ∧ T.length < T'.length) (fun pre T' h => by obtain ⟨_, _, _, k, _⟩ := h; exact k.get (by simp) a.at_)
    (fun pre x suf T' e hI => by
      obtain ⟨ps, q1, q2, q3, q4⟩ := hI
      obtain ⟨xs, items, h1, h2, h3, h4, h5, gl⟩ := a.turn (i := pre.length) (x := x) (by rw [e]; simp)
      have hgl : listM [x] T' = .ok (.ref T'.length) (T' ++ [.lst items]) := by
        cases x with
        | fl q => cases gl; rfl
        | ref k =>
          obtain ⟨us, _, _, _, hk, _⟩ := h3.ref_inv
          unfold getL at gl
          simp only [hk] at gl
          cases gl
          rw [listM_ref, q3.get (by simp) hk, listK_lst]
        | _ => cases gl
      have k2 : Kp [] T (T' ++ [Ob.lst items]) := q3.trans (Kp.app _)
      have hD : (T' ++ [Ob.lst items])[T.length]? = some (.lst ps) := get_old _ q1
      have hlp : ps.length ≤ 6 := by
        rw [q2.length, List.length_map, List.length_take]; omega
      refine ⟨(T' ++ [Ob.lst items]).set T.length (.lst (ps ++ [.ref T'.length])), ?_, ps ++ [.ref T'.length], set_get hD, ?_, k2.new (Nat.le_refl _), by simp; omega⟩
      · have hz : ps.length < sizeLine := by rw [sizeLine_n]; omega
        rw [lcT_gN]
        show turnK (tYs [c0, c1, some (.ref L), c3, c4, c5, c6, c7, some x, c9, c10, c11, c12, c13, c14, c15, c16, c17] T') [c0, c1, some (.ref L), c3, c4, c5, c6, c7, some x, c9, c10, c11, c12, c13, c14, c15, c16, c17] _ _ = _
        clear a q1 q2 q3 q4 h1 h2 h3 h4 h5 gl e hl hal hd hdl k2 hlp
        walk_at "evh"
      · rw [List.length_append, List.length_singleton, h2, List.map_append]
        have kk : Kp [T.length, d] (T' ++ [Ob.lst items]) ((T' ++ [Ob.lst items]).set T.length (.lst (ps ++ [.ref T'.length]))) := Kp.set (by simp)
        refine ((q2.kp (Kp.app [Ob.lst items])).kp kk).append (.cons ((Vw.lst (get_last _ _) (by simp; omega) ?_).kp kk) .nil)
        exact (h5.more (Nat.le_refl _)).kp k2.all)
    (S := T ++ [.lst []]) ⟨[], get_last _ _, .nil, Kp.app _, by simp⟩
  rw [hal, List.take_length] at q2
  refine ⟨ps, T', ?_, ⟨q1, q2.tail, by omega⟩, q3⟩
  have hA := a.at_
  unfold lw6
  clear a hl hal hd hdl q1 q2 q3 q4
  walk_at "evh"
theorem lw7_run (hC : T[C]? = some (.lst cw)) : lw7 [c0, c1, c2, c3, some (.ref C), c5, c6, c7, c8, c9, c10, c11, c12, c13, c14, c15, c16, c17] T = .nx [c0, c1, c2, c3, some (.ref C), c5, c6, c7, some (.ref T.length), c9, c10, c11, c12, c13, c14, c15, c16, c17] (T ++ [.lst cw]) := by
  unfold lw7
  walk_at "evh"
theorem lw8_run (hC : T[C]? = some (.lst cw)) : lw8 [c0, c1, c2, c3, c4, c5, some (.ref C), c7, c8, c9, c10, c11, c12, c13, c14, c15, c16, c17] T = .nx [c0, c1, c2, c3, c4, c5, some (.ref C), c7, c8, some (.ref T.length), c10, c11, c12, c13, c14, c15, c16, c17] (T ++ [.lst cw]) := by
  unfold lw8
  walk_at "evh"
end

end Lw_k16

namespace Lw_k16
open PySem Fr
local macro_rules | `(tactic| walk_at "ev") => `(tactic| simp only [Bool.or_true, Bool.true_or, Bool.and_self, Bool.or_self, Bool.and_true, Bool.true_and, Bool.false_or, Bool.or_false, Bool.false_and, Bool.and_false, ltG_int, ltG_str, ltG_ref, ltG_tup, memM_eq, notMemM_eq, memB_str, blK_some, nblK_some, eqM_ref, eqM_tup, neM_ref, neM_tup, isM_fl, isNotM_non, isNotM_int, isNotM_str, isNotM_bl, isNotM_tup, isNotM_ref, listM_ref, listM_tup, listM_fl, listK_lst, listK_dK, tupleM_ref, tupleM_tup, tupleM_fl, divmodM_int, strM_int, min2M_int, max2M_int, intsOf_map, sumM_ref, sortedM_ref, insertM_eq, extendM_eq, popAtM_eq, clearM_eq, indexLM_eq, tyM_list_fl, tV_eq, truK_bl, truK_non, truK_int, truK_tup, truK_ref, obB_lst, obB_dK, sAsgT_eq, tgK_some, gN_eq, gT_eq, gsCons_eq, gK_some, gsNil_eq, sSetIx_eq, setK_eq, sAug_eq, augK_some, iaddM_int, isubM_int, eListR_eq, rg1_eq, rg2_eq, rg1K_int, rg2K_int, iZip_eq, zipM_tup, zipM_ref, iRev_eq, revM_tup, revM_ref, eLc_eq, lcK_vals, lcK_live, lcK_gen, optS_some, wipeW_nil, wipeW_cons, tYs_eq, lcT_gN, turnK_ite, putK_ok, putL_lst, lcV_nil, andThen_some, srcK_gen, bd_eq, bdK_ok, bdK_ex, bdK_bad, bdK_ite, rt_eq, bad_eq, app_ite, onE_ok, onE_ex, onE_bad, onE_ite, seq_eq, seqK_nx, seqK_rt, seqK_bk, seqK_ct, seqK_ex, seqK_bad, seqK_ite, loopK_nx, loopK_ct, loopK_bk, loopK_rt, loopK_ex, loopK_bad, loopK_ite, fn_eq, fnK_rt, fnK_nx, fnK_ex, fnK_ite, eVar_0, eVar_s, eC_eq, eOp_eq, eUn_eq, eAnd_eq, eOr_eq, eNot_eq, boK_bl, eIf_eq, eChain_eq, tB_eq, tbK_bl, tAnd_eq, tOr_eq, tNot_eq, aNil_eq, aCons_eq, eTup_eq, eLst_eq, new_eq, eB_eq, eCall_eq, eM_eq, eSl_eq, oNone_eq, oSome_eq, intK_int, sNil_eq, sExpr_eq, sRet_eq, sRetN_eq, sIf_eq, sAsg_eq, sRaise_eq, sBreak_eq, sCont_eq, sFor_eq, srcK_vals, iE_eq, srcOf_tup, srcOf_fl, srcOf_str, forV_nil, addM_int, addM_str, addM_tup, subM_int, mulM_int, mulM_str, modM_int, fdivM_int, powM_int, negM_int, ltM_int, leM_int, gtM_int, geM_int, eqM_int, eqM_str, eqM_bl, neM_int, neM_str, neM_bl, isM_non, isM_int, isM_str, isM_bl, isM_tup, isM_ref, inM_str, notInM_str, lenM_str, lenM_tup, lenM_fl, intM_int, tyM_str, slM_str, isiM_non, isiM_bl, isiM_int, isiM_str, isiM_tup, resK_some, obL_lst, obS_lst, optK_some, isLst_lst, appendM_eq, popM_eq, reverseM_eq, lenM_refE, ixM_refE, ixM_tupE, ixM_flE, ixM_strE, srcOf_refE, srcK_liveE, tyM_refE, get_last, set_last, sTry_eq, tryK_nx, tryK_rt, noEx_nx, noEx_rt, sTryAs_eq, tryAsK_nx, tryAsK_rt, dropS_nx, dropS_rt, onNone_none, kb_NoneType_bool, kb_NoneType_int, kb_NoneType_str, kb_NoneType_tuple, kb_NoneType_list, kb_NoneType_dict, kb_bool_bool, kb_bool_int, kb_bool_str, kb_bool_tuple, kb_bool_list, kb_bool_dict, kb_int_bool, kb_int_int, kb_int_str, kb_int_tuple, kb_int_list, kb_int_dict, kb_str_bool, kb_str_int, kb_str_str, kb_str_tuple, kb_str_list, kb_str_dict, kb_tuple_bool, kb_tuple_int, kb_tuple_str, kb_tuple_tuple, kb_tuple_list, kb_tuple_dict, kb_list_bool, kb_list_int, kb_list_str, kb_list_tuple, kb_list_list, kb_list_dict, kb_dict_bool, kb_dict_int, kb_dict_str, kb_dict_tuple, kb_dict_list, kb_dict_dict, List.map_cons, List.map_nil, List.cons_append, List.nil_append, List.length_cons, List.length_nil, Nat.reduceAdd, Nat.reduceSub, List.replicate, List.set_cons_zero, List.set_cons_succ, Bool.false_eq_true, Bool.not_true, Bool.not_false, if_true, if_false, reduceIte, decide_eq_true_eq, Bool.not_eq_true', decide_eq_false_iff_not, not_true_eq_false, not_false_eq_true, ite_not, decide_true, decide_false, eq_self_iff_true, indexSM_eq, startsM_str, endsM_str, splitM_str, iR1_eq, iR2_eq, rngK_1, rngK2_2, chr1_eq, subS_one, and_self, true_and, and_true, false_and, and_false, or_true, true_or, or_self, false_or, or_false, ne_eq])
local macro_rules | `(tactic| walk_at "evh") => `(tactic| simp only [Bool.or_true, Bool.true_or, Bool.and_self, Bool.or_self, Bool.and_true, Bool.true_and, Bool.false_or, Bool.or_false, Bool.false_and, Bool.and_false, ltG_int, ltG_str, ltG_ref, ltG_tup, memM_eq, notMemM_eq, memB_str, blK_some, nblK_some, eqM_ref, eqM_tup, neM_ref, neM_tup, isM_fl, isNotM_non, isNotM_int, isNotM_str, isNotM_bl, isNotM_tup, isNotM_ref, listM_ref, listM_tup, listM_fl, listK_lst, listK_dK, tupleM_ref, tupleM_tup, tupleM_fl, divmodM_int, strM_int, min2M_int, max2M_int, intsOf_map, sumM_ref, sortedM_ref, insertM_eq, extendM_eq, popAtM_eq, clearM_eq, indexLM_eq, tyM_list_fl, tV_eq, truK_bl, truK_non, truK_int, truK_tup, truK_ref, obB_lst, obB_dK, sAsgT_eq, tgK_some, gN_eq, gT_eq, gsCons_eq, gK_some, gsNil_eq, sSetIx_eq, setK_eq, sAug_eq, augK_some, iaddM_int, isubM_int, eListR_eq, rg1_eq, rg2_eq, rg1K_int, rg2K_int, iZip_eq, zipM_tup, zipM_ref, iRev_eq, revM_tup, revM_ref, eLc_eq, lcK_vals, lcK_live, lcK_gen, optS_some, wipeW_nil, wipeW_cons, tYs_eq, lcT_gN, turnK_ite, putK_ok, putL_lst, lcV_nil, andThen_some, srcK_gen, bd_eq, bdK_ok, bdK_ex, bdK_bad, bdK_ite, rt_eq, bad_eq, app_ite, onE_ok, onE_ex, onE_bad, onE_ite, seq_eq, seqK_nx, seqK_rt, seqK_bk, seqK_ct, seqK_ex, seqK_bad, seqK_ite, loopK_nx, loopK_ct, loopK_bk, loopK_rt, loopK_ex, loopK_bad, loopK_ite, fn_eq, fnK_rt, fnK_nx, fnK_ex, fnK_ite, eVar_0, eVar_s, eC_eq, eOp_eq, eUn_eq, eAnd_eq, eOr_eq, eNot_eq, boK_bl, eIf_eq, eChain_eq, tB_eq, tbK_bl, tAnd_eq, tOr_eq, tNot_eq, aNil_eq, aCons_eq, eTup_eq, eLst_eq, new_eq, eB_eq, eCall_eq, eM_eq, eSl_eq, oNone_eq, oSome_eq, intK_int, sNil_eq, sExpr_eq, sRet_eq, sRetN_eq, sIf_eq, sAsg_eq, sRaise_eq, sBreak_eq, sCont_eq, sFor_eq, srcK_vals, iE_eq, srcOf_tup, srcOf_fl, srcOf_str, forV_nil, addM_int, addM_str, addM_tup, subM_int, mulM_int, mulM_str, modM_int, fdivM_int, powM_int, negM_int, ltM_int, leM_int, gtM_int, geM_int, eqM_int, eqM_str, eqM_bl, neM_int, neM_str, neM_bl, isM_non, isM_int, isM_str, isM_bl, isM_tup, isM_ref, inM_str, notInM_str, lenM_str, lenM_tup, lenM_fl, intM_int, tyM_str, slM_str, isiM_non, isiM_bl, isiM_int, isiM_str, isiM_tup, resK_some, obL_lst, obS_lst, optK_some, isLst_lst, appendM_eq, popM_eq, reverseM_eq, lenM_refE, ixM_refE, ixM_tupE, ixM_flE, ixM_strE, srcOf_refE, srcK_liveE, tyM_refE, get_last, set_last, sTry_eq, tryK_nx, tryK_rt, noEx_nx, noEx_rt, sTryAs_eq, tryAsK_nx, tryAsK_rt, dropS_nx, dropS_rt, onNone_none, kb_NoneType_bool, kb_NoneType_int, kb_NoneType_str, kb_NoneType_tuple, kb_NoneType_list, kb_NoneType_dict, kb_bool_bool, kb_bool_int, kb_bool_str, kb_bool_tuple, kb_bool_list, kb_bool_dict, kb_int_bool, kb_int_int, kb_int_str, kb_int_tuple, kb_int_list, kb_int_dict, kb_str_bool, kb_str_int, kb_str_str, kb_str_tuple, kb_str_list, kb_str_dict, kb_tuple_bool, kb_tuple_int, kb_tuple_str, kb_tuple_tuple, kb_tuple_list, kb_tuple_dict, kb_list_bool, kb_list_int, kb_list_str, kb_list_tuple, kb_list_list, kb_list_dict, kb_dict_bool, kb_dict_int, kb_dict_str, kb_dict_tuple, kb_dict_list, kb_dict_dict, List.map_cons, List.map_nil, List.cons_append, List.nil_append, List.length_cons, List.length_nil, Nat.reduceAdd, Nat.reduceSub, List.replicate, List.set_cons_zero, List.set_cons_succ, Bool.false_eq_true, Bool.not_true, Bool.not_false, if_true, if_false, reduceIte, decide_eq_true_eq, Bool.not_eq_true', decide_eq_false_iff_not, not_true_eq_false, not_false_eq_true, ite_not, decide_true, decide_false, eq_self_iff_true, indexSM_eq, startsM_str, endsM_str, splitM_str, iR1_eq, iR2_eq, rngK_1, rngK2_2, chr1_eq, subS_one, and_self, true_and, and_true, false_and, and_false, or_true, true_or, or_self, false_or, or_false, ne_eq, *])
theorem szs_ok {xss : List (List PyData)} (hg : ∀ xs ∈ xss, GoodL xs) : SzOk (szs xss) := by
  intro s hs
  unfold szs at hs
  obtain ⟨h1, h2⟩ := List.mem_filter.mp hs
  obtain ⟨xs, hx, rfl⟩ := List.mem_map.mp h1
  have := (hg xs hx).le
  simp at h2
  omega
theorem chJ_sm : ∀ {xss : List (List PyData)} {js : List Nat}, (∀ xs ∈ xss, GoodL xs) → InJ xss js → ∀ y ∈ chJ xss js, ∀ n, smD n y
  | [], [], _, _, y, hy, _ => by simp [chJ] at hy
  | xs :: xss, j :: js, hg, hj, y, hy, n => by
    rcases List.mem_cons.mp hy with rfl | hy
    · have hx : xs.getD j .none ∈ xs := by
        rw [List.getD_eq_getElem?_getD, List.getElem?_eq_getElem hj.1]
        exact List.getElem_mem hj.1
      exact (hg xs (by simp)).sm _ hx n
    · exact chJ_sm (fun ys q => hg ys (List.mem_cons_of_mem _ q)) hj.2 y hy n
  | [], _ :: _, _, h, _, _, _ => False.elim h
  | _ :: _, [], _, h, _, _, _ => False.elim h
theorem sm_chosen {xss : List (List PyData)} {js : List Nat} (hg : ∀ xs ∈ xss, GoodL xs) (hj : InJ xss js) (hl : xss.length ≤ 6) (n : Nat) : smD n (.list (chJ xss js)) := by
  cases n with
  | zero => trivial
  | succ n => exact ⟨by rw [chJ_len hj]; omega, fun y hy => chJ_sm hg hj y hy n⟩
theorem sm_lists {xss : List (List PyData)} (hg : ∀ xs ∈ xss, GoodL xs) (hl : xss.length ≤ 6) (n : Nat) : smD n (.list (xss.map PyData.list)) := by
  cases n with
  | zero => trivial
  | succ n =>
    refine ⟨by simp; omega, fun y hy => ?_⟩
    obtain ⟨xs, hx, rfl⟩ := List.mem_map.mp hy
    cases n with
    | zero => trivial
    | succ n => exact ⟨by have := (hg xs hx).le; omega, fun z hz => (hg xs hx).sm z hz n⟩
/-- what stands after the drawing -/
structure St (d : Nat) (T : Sto) (Z Nn C P I G : Nat) (ps cw : List W) (xss : List (List PyData)) (js : List Nat) : Prop where
  z : T[Z]? = some (oI (szs xss))
  n : T[Nn]? = some (oI (noteOf xss js))
  c : T[C]? = some (.lst cw)
  cv : Vws [d] T 2 cw (chJ xss js)
  p : Drawn d T P ps xss
  i : T[I]? = some (.lst cw)
  g : T[G]? = some (oI (noteOf xss js))
  ne : Z ≠ d ∧ Nn ≠ d ∧ C ≠ d ∧ I ≠ d ∧ G ≠ d
theorem St.kp {d : Nat} {T T' : Sto} {Z Nn C P I G : Nat} {ps cw : List W} {xss : List (List PyData)} {js : List Nat} (s : St d T Z Nn C P I G ps cw xss js) (k : Kp [d] T T') : St d T' Z Nn C P I G ps cw xss js :=
  ⟨k.get (by simp; exact s.ne.1) s.z, k.get (by simp; exact s.ne.2.1) s.n, k.get (by simp; exact s.ne.2.2.1) s.c, s.cv.kp k, s.p.kp k, k.get (by simp; exact s.ne.2.2.2.1) s.i, k.get (by simp; exact s.ne.2.2.2.2) s.g, s.ne⟩
def bTold : Stm := (sSeq (sAsg 15 (eCall m_sizes_of (aCons (eVar 7) aNil)))
  (sSeq (sAsg 16 (eCall m_note_of (aCons (eVar 7) (aCons (eVar 8) aNil))))
  (sSeq (sAsg 17 (eCall m_chosen_by (aCons (eVar 7) (aCons (eVar 9) aNil))))
  (sSeq (sIf (tOr (tNot (tB (eCall (m__law_same 4) (aCons (eVar 15) (aCons (eVar 5) aNil))))) (tOr (tNot (tB (eCall (m__law_same 4) (aCons (eVar 16) (aCons (eVar 6) aNil))))) (tNot (tB (eCall (m__law_same 4) (aCons (eVar 17) (aCons (eVar 4) aNil))))))) (sRet (eC (.bl false))) sNil)
  (sSeq (sExpr (eM "list" appendM (eVar 15) (aCons (eC (.int 2)) aNil)))
  (sSeq (sExpr (eM "list" appendM (eVar 16) (aCons (eC (.int 0)) aNil)))
  (sExpr (eM "list" appendM (eVar 17) (aCons (eC (.int 0)) aNil)))))))))
section
variable {T : Sto} {d Z Nn C P I G : Nat} {ps cw : List W} {xss : List (List PyData)} {js : List Nat} {c0 c1 c2 c3 c4 c5 c6 c7 c8 c9 c10 c11 c12 c13 c14 c15 c16 c17 : Option W}
theorem told_run (s : St d T Z Nn C P I G ps cw xss js) (hg : ∀ xs ∈ xss, GoodL xs) (hj : InJ xss js) (hl : xss.length ≤ 6) :
    ∃ T' e15 e16 e17, bTold [c0, c1, c2, c3, some (.ref C), some (.ref Z), some (.ref Nn), some (.ref P), some (.ref I), some (.ref G), c10, c11, c12, c13, c14, c15, c16, c17] T = .nx [c0, c1, c2, c3, some (.ref C), some (.ref Z), some (.ref Nn), some (.ref P), some (.ref I), some (.ref G), c10, c11, c12, c13, c14, e15, e16, e17] T' ∧ Kp [] T T' := by
  have a1 := sizes_run s.p.lsts (by omega)
  let T1 : Sto := T ++ [oI (szs xss)]
  have k1 : Kp [] T T1 := Kp.app _
  have s1 := s.kp (k1.all (h := [d]))
  have hcl : cw.length = xss.length := by rw [s.cv.length, chJ_len hj]
  have a2 := note_run (js := js) s1.p.lsts s1.i (s1.cv.le (by omega)) (by omega) hcl hj.len (fun i xs j q1 q2 => ⟨hg xs (List.mem_of_getElem? q1), chJ_at hj i xs j q1 q2⟩)
  let T2 : Sto := T1 ++ [oI (noteOf xss js)]
  have k2 : Kp [] T T2 := k1.trans (Kp.app _)
  have s2 := s.kp (k2.all (h := [d]))
  obtain ⟨T3, fw, a3, f1, f2, k3'⟩ := chosen_ok s2.p.lsts s2.g (by omega) hj
  have k3 : Kp [] T T3 := k2.trans k3'
  have s3 := s.kp (k3.all (h := [d]))
  have o1 : T3[T.length]? = some (oI (szs xss)) := k3'.get (by simp) (get_old _ (get_last _ _))
  have o2 : T3[T1.length]? = some (oI (noteOf xss js)) := k3'.get (by simp) (get_last _ _)
  have hsl := szs_len xss
  have hnl := noteOf_len xss js
  have b1 := same_ints o1 s3.z (by omega)
  have b2 := same_ints o2 s3.n (by omega)
  have b3 : m__law_same 4 [.ref (T2.length + 2), .ref C] T3 = .ok (.bl true) T3 := by
    rw [same_eq]
    have hd2 : d ≠ T2.length + 2 ∨ d = T2.length + 2 := by omega
    exact same_vw (n := 4) (h := []) (h' := []) (Vw.lst f1 (by simp) (f2.imp fun _ _ q => q.sub (by simp))) (Vw.lst s3.c (by simp) ((s3.cv.le (by omega)).imp fun _ _ q => q.sub (by simp))) (sm_chosen hg hj hl 4) 4 (by omega)
  have l1 : T1.length = T.length + 1 := by simp [T1]
  have l2 : T2.length = T.length + 2 := by simp [T2, T1]
  let T4 := T3.set T.length (.lst (List.map W.int (szs xss) ++ [.int 2]))
  let T5 := T4.set T1.length (.lst (List.map W.int (noteOf xss js) ++ [.int 0]))
  let T6 := T5.set (T2.length + 2) (.lst (fw ++ [.int 0]))
  have o3 : T4[T1.length]? = some (oI (noteOf xss js)) := by
    show (T3.set T.length _)[T1.length]? = _
    rw [List.getElem?_set_ne (by omega)]; exact o2
  have o4 : T5[T2.length + 2]? = some (.lst fw) := by
    show ((T3.set T.length _).set T1.length _)[T2.length + 2]? = _
    rw [List.getElem?_set_ne (by omega), List.getElem?_set_ne (by omega)]; exact f1
  refine ⟨T6, some (.ref T.length), some (.ref T1.length), some (.ref (T2.length + 2)), ?_, ((k3.new (Nat.le_refl _)).new (by omega)).new (by omega)⟩
  have z1 : (List.map W.int (szs xss)).length < sizeLine := by rw [List.length_map, sizeLine_n]; omega
  have z2 : (List.map W.int (noteOf xss js)).length < sizeLine := by rw [List.length_map, sizeLine_n]; omega
  have z3 : fw.length < sizeLine := by rw [f2.length, chJ_len hj, sizeLine_n]; omega
  have t4 : T3.set T.length (.lst (List.map W.int (szs xss) ++ [.int 2])) = T4 := rfl
  have t5 : T4.set T1.length (.lst (List.map W.int (noteOf xss js) ++ [.int 0])) = T5 := rfl
  have t6 : T5.set (T2.length + 2) (.lst (fw ++ [.int 0])) = T6 := rfl
  have a1' : m_sizes_of [.ref P] T = .ok (.ref T.length) T1 := a1
  have a2' : m_note_of [.ref P, .ref I] T1 = .ok (.ref T1.length) T2 := a2
  unfold bTold
  clear a1 a2 s s1 s2 s3 k1 k2 k3 k3' hcl f2 hsl hnl l1 l2 hg hj hl
  clear_value T6 T5 T4 T2 T1
  walk_at "evh"
end

end Lw_k16

namespace Lw_k16
open PySem Fr
local macro_rules | `(tactic| walk_at "ev") => `(tactic| simp only [Bool.or_true, Bool.true_or, Bool.and_self, Bool.or_self, Bool.and_true, Bool.true_and, Bool.false_or, Bool.or_false, Bool.false_and, Bool.and_false, ltG_int, ltG_str, ltG_ref, ltG_tup, memM_eq, notMemM_eq, memB_str, blK_some, nblK_some, eqM_ref, eqM_tup, neM_ref, neM_tup, isM_fl, isNotM_non, isNotM_int, isNotM_str, isNotM_bl, isNotM_tup, isNotM_ref, listM_ref, listM_tup, listM_fl, listK_lst, listK_dK, tupleM_ref, tupleM_tup, tupleM_fl, divmodM_int, strM_int, min2M_int, max2M_int, intsOf_map, sumM_ref, sortedM_ref, insertM_eq, extendM_eq, popAtM_eq, clearM_eq, indexLM_eq, tyM_list_fl, tV_eq, truK_bl, truK_non, truK_int, truK_tup, truK_ref, obB_lst, obB_dK, sAsgT_eq, tgK_some, gN_eq, gT_eq, gsCons_eq, gK_some, gsNil_eq, sSetIx_eq, setK_eq, sAug_eq, augK_some, iaddM_int, isubM_int, eListR_eq, rg1_eq, rg2_eq, rg1K_int, rg2K_int, iZip_eq, zipM_tup, zipM_ref, iRev_eq, revM_tup, revM_ref, eLc_eq, lcK_vals, lcK_live, lcK_gen, optS_some, wipeW_nil, wipeW_cons, tYs_eq, lcT_gN, turnK_ite, putK_ok, putL_lst, lcV_nil, andThen_some, srcK_gen, bd_eq, bdK_ok, bdK_ex, bdK_bad, bdK_ite, rt_eq, bad_eq, app_ite, onE_ok, onE_ex, onE_bad, onE_ite, seq_eq, seqK_nx, seqK_rt, seqK_bk, seqK_ct, seqK_ex, seqK_bad, seqK_ite, loopK_nx, loopK_ct, loopK_bk, loopK_rt, loopK_ex, loopK_bad, loopK_ite, fn_eq, fnK_rt, fnK_nx, fnK_ex, fnK_ite, eVar_0, eVar_s, eC_eq, eOp_eq, eUn_eq, eAnd_eq, eOr_eq, eNot_eq, boK_bl, eIf_eq, eChain_eq, tB_eq, tbK_bl, tAnd_eq, tOr_eq, tNot_eq, aNil_eq, aCons_eq, eTup_eq, eLst_eq, new_eq, eB_eq, eCall_eq, eM_eq, eSl_eq, oNone_eq, oSome_eq, intK_int, sNil_eq, sExpr_eq, sRet_eq, sRetN_eq, sIf_eq, sAsg_eq, sRaise_eq, sBreak_eq, sCont_eq, sFor_eq, srcK_vals, iE_eq, srcOf_tup, srcOf_fl, srcOf_str, forV_nil, addM_int, addM_str, addM_tup, subM_int, mulM_int, mulM_str, modM_int, fdivM_int, powM_int, negM_int, ltM_int, leM_int, gtM_int, geM_int, eqM_int, eqM_str, eqM_bl, neM_int, neM_str, neM_bl, isM_non, isM_int, isM_str, isM_bl, isM_tup, isM_ref, inM_str, notInM_str, lenM_str, lenM_tup, lenM_fl, intM_int, tyM_str, slM_str, isiM_non, isiM_bl, isiM_int, isiM_str, isiM_tup, resK_some, obL_lst, obS_lst, optK_some, isLst_lst, appendM_eq, popM_eq, reverseM_eq, lenM_refE, ixM_refE, ixM_tupE, ixM_flE, ixM_strE, srcOf_refE, srcK_liveE, tyM_refE, get_last, set_last, sTry_eq, tryK_nx, tryK_rt, noEx_nx, noEx_rt, sTryAs_eq, tryAsK_nx, tryAsK_rt, dropS_nx, dropS_rt, onNone_none, kb_NoneType_bool, kb_NoneType_int, kb_NoneType_str, kb_NoneType_tuple, kb_NoneType_list, kb_NoneType_dict, kb_bool_bool, kb_bool_int, kb_bool_str, kb_bool_tuple, kb_bool_list, kb_bool_dict, kb_int_bool, kb_int_int, kb_int_str, kb_int_tuple, kb_int_list, kb_int_dict, kb_str_bool, kb_str_int, kb_str_str, kb_str_tuple, kb_str_list, kb_str_dict, kb_tuple_bool, kb_tuple_int, kb_tuple_str, kb_tuple_tuple, kb_tuple_list, kb_tuple_dict, kb_list_bool, kb_list_int, kb_list_str, kb_list_tuple, kb_list_list, kb_list_dict, kb_dict_bool, kb_dict_int, kb_dict_str, kb_dict_tuple, kb_dict_list, kb_dict_dict, List.map_cons, List.map_nil, List.cons_append, List.nil_append, List.length_cons, List.length_nil, Nat.reduceAdd, Nat.reduceSub, List.replicate, List.set_cons_zero, List.set_cons_succ, Bool.false_eq_true, Bool.not_true, Bool.not_false, if_true, if_false, reduceIte, decide_eq_true_eq, Bool.not_eq_true', decide_eq_false_iff_not, not_true_eq_false, not_false_eq_true, ite_not, decide_true, decide_false, eq_self_iff_true, indexSM_eq, startsM_str, endsM_str, splitM_str, iR1_eq, iR2_eq, rngK_1, rngK2_2, chr1_eq, subS_one, and_self, true_and, and_true, false_and, and_false, or_true, true_or, or_self, false_or, or_false, ne_eq])
local macro_rules | `(tactic| walk_at "evh") => `(tactic| simp only [Bool.or_true, Bool.true_or, Bool.and_self, Bool.or_self, Bool.and_true, Bool.true_and, Bool.false_or, Bool.or_false, Bool.false_and, Bool.and_false, ltG_int, ltG_str, ltG_ref, ltG_tup, memM_eq, notMemM_eq, memB_str, blK_some, nblK_some, eqM_ref, eqM_tup, neM_ref, neM_tup, isM_fl, isNotM_non, isNotM_int, isNotM_str, isNotM_bl, isNotM_tup, isNotM_ref, listM_ref, listM_tup, listM_fl, listK_lst, listK_dK, tupleM_ref, tupleM_tup, tupleM_fl, divmodM_int, strM_int, min2M_int, max2M_int, intsOf_map, sumM_ref, sortedM_ref, insertM_eq, extendM_eq, popAtM_eq, clearM_eq, indexLM_eq, tyM_list_fl, tV_eq, truK_bl, truK_non, truK_int, truK_tup, truK_ref, obB_lst, obB_dK, sAsgT_eq, tgK_some, gN_eq, gT_eq, gsCons_eq, gK_some, gsNil_eq, sSetIx_eq, setK_eq, sAug_eq, augK_some, iaddM_int, isubM_int, eListR_eq, rg1_eq, rg2_eq, rg1K_int, rg2K_int, iZip_eq, zipM_tup, zipM_ref, iRev_eq, revM_tup, revM_ref, eLc_eq, lcK_vals, lcK_live, lcK_gen, optS_some, wipeW_nil, wipeW_cons, tYs_eq, lcT_gN, turnK_ite, putK_ok, putL_lst, lcV_nil, andThen_some, srcK_gen, bd_eq, bdK_ok, bdK_ex, bdK_bad, bdK_ite, rt_eq, bad_eq, app_ite, onE_ok, onE_ex, onE_bad, onE_ite, seq_eq, seqK_nx, seqK_rt, seqK_bk, seqK_ct, seqK_ex, seqK_bad, seqK_ite, loopK_nx, loopK_ct, loopK_bk, loopK_rt, loopK_ex, loopK_bad, loopK_ite, fn_eq, fnK_rt, fnK_nx, fnK_ex, fnK_ite, eVar_0, eVar_s, eC_eq, eOp_eq, eUn_eq, eAnd_eq, eOr_eq, eNot_eq, boK_bl, eIf_eq, eChain_eq, tB_eq, tbK_bl, tAnd_eq, tOr_eq, tNot_eq, aNil_eq, aCons_eq, eTup_eq, eLst_eq, new_eq, eB_eq, eCall_eq, eM_eq, eSl_eq, oNone_eq, oSome_eq, intK_int, sNil_eq, sExpr_eq, sRet_eq, sRetN_eq, sIf_eq, sAsg_eq, sRaise_eq, sBreak_eq, sCont_eq, sFor_eq, srcK_vals, iE_eq, srcOf_tup, srcOf_fl, srcOf_str, forV_nil, addM_int, addM_str, addM_tup, subM_int, mulM_int, mulM_str, modM_int, fdivM_int, powM_int, negM_int, ltM_int, leM_int, gtM_int, geM_int, eqM_int, eqM_str, eqM_bl, neM_int, neM_str, neM_bl, isM_non, isM_int, isM_str, isM_bl, isM_tup, isM_ref, inM_str, notInM_str, lenM_str, lenM_tup, lenM_fl, intM_int, tyM_str, slM_str, isiM_non, isiM_bl, isiM_int, isiM_str, isiM_tup, resK_some, obL_lst, obS_lst, optK_some, isLst_lst, appendM_eq, popM_eq, reverseM_eq, lenM_refE, ixM_refE, ixM_tupE, ixM_flE, ixM_strE, srcOf_refE, srcK_liveE, tyM_refE, get_last, set_last, sTry_eq, tryK_nx, tryK_rt, noEx_nx, noEx_rt, sTryAs_eq, tryAsK_nx, tryAsK_rt, dropS_nx, dropS_rt, onNone_none, kb_NoneType_bool, kb_NoneType_int, kb_NoneType_str, kb_NoneType_tuple, kb_NoneType_list, kb_NoneType_dict, kb_bool_bool, kb_bool_int, kb_bool_str, kb_bool_tuple, kb_bool_list, kb_bool_dict, kb_int_bool, kb_int_int, kb_int_str, kb_int_tuple, kb_int_list, kb_int_dict, kb_str_bool, kb_str_int, kb_str_str, kb_str_tuple, kb_str_list, kb_str_dict, kb_tuple_bool, kb_tuple_int, kb_tuple_str, kb_tuple_tuple, kb_tuple_list, kb_tuple_dict, kb_list_bool, kb_list_int, kb_list_str, kb_list_tuple, kb_list_list, kb_list_dict, kb_dict_bool, kb_dict_int, kb_dict_str, kb_dict_tuple, kb_dict_list, kb_dict_dict, List.map_cons, List.map_nil, List.cons_append, List.nil_append, List.length_cons, List.length_nil, Nat.reduceAdd, Nat.reduceSub, List.replicate, List.set_cons_zero, List.set_cons_succ, Bool.false_eq_true, Bool.not_true, Bool.not_false, if_true, if_false, reduceIte, decide_eq_true_eq, Bool.not_eq_true', decide_eq_false_iff_not, not_true_eq_false, not_false_eq_true, ite_not, decide_true, decide_false, eq_self_iff_true, indexSM_eq, startsM_str, endsM_str, splitM_str, iR1_eq, iR2_eq, rngK_1, rngK2_2, chr1_eq, subS_one, and_self, true_and, and_true, false_and, and_false, or_true, true_or, or_self, false_or, or_false, ne_eq, *])
section
variable {T : Sto} {d Z Nn C P I G L H K : Nat} {ps cw ws : List W} {xss : List (List PyData)} {js : List Nat} {c0 c1 c2 c3 c4 c5 c6 c7 c8 c9 c10 c11 c12 c13 c14 c15 c16 c17 : Option W}
theorem lw9_run (s : St d T Z Nn C P I G ps cw xss js) (hg : ∀ xs ∈ xss, GoodL xs) (hj : InJ xss js) (hl : xss.length ≤ 6) :
    ∃ T' e10 e15 e16 e17, lw9 [c0, c1, c2, c3, some (.ref C), some (.ref Z), some (.ref Nn), some (.ref P), some (.ref I), some (.ref G), c10, c11, c12, c13, c14, c15, c16, c17] T = .nx [c0, c1, c2, c3, some (.ref C), some (.ref Z), some (.ref Nn), some (.ref P), some (.ref I), some (.ref G), e10, c11, c12, c13, c14, e15, e16, e17] T' ∧ Kp [] T T' := by
  obtain ⟨s', T', e, k, e10, e15, e16, e17, rfl⟩ := forV_all (g := gN 10) (b := bTold) (fun pre s' T' => Kp [] T T' ∧ ∃ e10 e15 e16 e17, s' = [c0, c1, c2, c3, some (.ref C), some (.ref Z), some (.ref Nn), some (.ref P), some (.ref I), some (.ref G), e10, c11, c12, c13, c14, e15, e16, e17]) (rng 0 2)
    (fun pre x suf s' T' e h => by
      obtain ⟨k, e10, e15, e16, e17, rfl⟩ := h
      obtain ⟨T2, f15, f16, f17, q1, q2⟩ := told_run (c0 := c0) (c1 := c1) (c2 := c2) (c3 := c3) (c10 := some x) (c11 := c11) (c12 := c12) (c13 := c13) (c14 := c14) (c15 := e15) (c16 := e16) (c17 := e17) (s.kp (k.all (h := [d]))) hg hj hl
      exact ⟨_, _, T2, rfl, .inl q1, k.trans q2, some x, f15, f16, f17, rfl⟩)
    (s := [c0, c1, c2, c3, some (.ref C), some (.ref Z), some (.ref Nn), some (.ref P), some (.ref I), some (.ref G), c10, c11, c12, c13, c14, c15, c16, c17]) (S := T) ⟨.refl, c10, c15, c16, c17, rfl⟩
  refine ⟨T', e10, e15, e16, e17, ?_, k⟩
  have hi : inR 4611686018427387903 2 = true := rfl
  have h2 : (2 : Int).toNat = 2 := rfl
  unfold lw9
  unfold bTold at e
  clear s hg hj hl k
  walk_at "evh"
theorem lw10_run (hd : HasD d T) (s : St d T Z Nn C P I G ps cw xss js) (hj : InJ xss js) (hl : xss.length ≤ 6) :
    ∃ ns T', lw10 [c0, some (.ref d), c2, c3, c4, some (.ref Z), some (.ref Nn), c7, c8, c9, c10, c11, c12, c13, c14, c15, c16, c17] T = .nx [c0, some (.ref d), c2, c3, c4, some (.ref Z), some (.ref Nn), c7, c8, c9, c10, some (.ref T.length), c12, c13, c14, c15, c16, c17] T' ∧ T'[T.length]? = some (oI ns) ∧ ns.length ≤ 1001 ∧ Kp [d] T T' ∧ HasD d T' := by
  have hn := noteOf_len xss js
  obtain ⟨T', ns, e, h1, h2, h3, h4⟩ := near_run hd s.z s.ne.1 s.n s.ne.2.1 (okN_len (noteOf_ok hj)) (by omega)
  refine ⟨ns, T', ?_, h1, h2, h3, h4⟩
  unfold lw10
  clear hd s hj hl hn h1 h2 h3 h4
  walk_at "evh"
theorem lw11_run {ns : List Int} {k : Nat} (s : St d T Z Nn C P I G ps cw xss js) (hK : T[k]? = some (oI ns)) (hn : ns.length ≤ 1001) (hg : ∀ xs ∈ xss, GoodL xs) (hl : xss.length ≤ 6) :
    ∃ T', lw11 [c0, c1, c2, c3, c4, some (.ref Z), c6, some (.ref P), c8, c9, c10, some (.ref k), c12, c13, c14, c15, c16, c17] T = .nx [c0, c1, c2, c3, c4, some (.ref Z), c6, some (.ref P), c8, c9, c10, some (.ref k), c12, c13, c14, c15, c16, c17] T' ∧ Kp [] T T' := by
  have hsl := szs_len xss
  have h1 := digits_run s.z hK (by omega)
  have k1 : Kp [] T (T ++ [oI ns]) := Kp.app _
  have s1 := s.kp (k1.all (h := [d]))
  cases ho : okN (szs xss) ns with
  | false =>
    rw [ho] at h1
    obtain ⟨T', e, k2⟩ := chRef_run s1.p.lsts (get_last _ _) (by omega) ho
    refine ⟨T', ?_, k1.trans k2⟩
    unfold lw11
    clear s s1 hn hg hl hsl ho k1 k2
    walk_at "evh"
  | true =>
    rw [ho] at h1
    obtain ⟨js', hj', rfl⟩ := note_js (fun xs q => (hg xs q).ne) ho
    obtain ⟨T2, fw, a3, f1, f2, k2⟩ := chosen_ok s1.p.lsts (get_last _ _) (by omega) hj'
    have s2 := s1.kp (k2.all (h := [d]))
    have a4 := note_run (js := js') s2.p.lsts f1 f2 (by omega) (by rw [f2.length, chJ_len hj']) hj'.len (fun i xs j q1 q2 => ⟨hg xs (List.mem_of_getElem? q1), chJ_at hj' i xs j q1 q2⟩)
    have a5 := same_ints (S := T2 ++ [oI (noteOf xss js')]) (i := T2.length) (j := k) (get_last _ _) (get_old _ (k2.get (by simp) (get_old _ hK))) hn
    refine ⟨T2 ++ [oI (noteOf xss js')], ?_, (k1.trans k2).trans (Kp.app _)⟩
    unfold lw11
    clear s s1 s2 hn hg hl hsl ho k1 k2 f1 f2 hj'
    walk_at "evh"
def bNum2 : Stm := (sSeq (sAsg 15 (eCall m_numbered_note (aCons (eB listM (aCons (eVar 5) aNil)) (aCons (eCall m__law_number (aCons (eVar 5) (aCons (eVar 6) aNil))) aNil))))
  (sSeq (sIf (tNot (tB (eCall (m__law_same 4) (aCons (eVar 15) (aCons (eVar 6) aNil))))) (sRet (eC (.bl false))) sNil)
  (sExpr (eM "list" appendM (eVar 15) (aCons (eC (.int 0)) aNil)))))
theorem num2_run (s : St d T Z Nn C P I G ps cw xss js) (hg : ∀ xs ∈ xss, GoodL xs) (hj : InJ xss js) (hl : xss.length ≤ 6) :
    ∃ T' e15, bNum2 [c0, c1, c2, c3, c4, some (.ref Z), some (.ref Nn), c7, c8, c9, c10, c11, c12, c13, c14, c15, c16, c17] T = .nx [c0, c1, c2, c3, c4, some (.ref Z), some (.ref Nn), c7, c8, c9, c10, c11, c12, c13, c14, e15, c16, c17] T' ∧ Kp [] T T' := by
  have hs := szs_ok hg
  have ho := noteOf_ok hj
  have hsl := szs_len xss
  have hnl := noteOf_len xss js
  have k1 : Kp [] T (T ++ [oI (szs xss)]) := Kp.app _
  have s1 := s.kp (k1.all (h := [d]))
  have a1 := lnumber_run s1.z s1.n (by omega) (okN_len ho) hs
  obtain ⟨T2, a2, f1, k2⟩ := numbered_ok (S := T ++ [oI (szs xss)]) (a := T.length) (get_last _ _) hs (by omega) (val_lt ho)
  rw [digs_val (fun t q => (hs t q).1) ho] at f1
  have s2 := s1.kp (k2.all (h := [d]))
  have a3 := same_ints f1 s2.n (by omega)
  have hZ := s.z
  have z1 : (List.map W.int (noteOf xss js)).length < sizeLine := by rw [List.length_map, sizeLine_n]; omega
  refine ⟨T2.set (T ++ [oI (szs xss)]).length (.lst (List.map W.int (noteOf xss js) ++ [.int 0])), some (.ref (T ++ [oI (szs xss)]).length), ?_, (k1.trans k2).new (by simp)⟩
  unfold bNum2
  clear s s1 s2 hg hj hl hs ho hsl hnl k1 k2
  walk_at "evh"
theorem lw12_run (s : St d T Z Nn C P I G ps cw xss js) (hg : ∀ xs ∈ xss, GoodL xs) (hj : InJ xss js) (hl : xss.length ≤ 6) :
    ∃ T' e10 e15, lw12 [c0, c1, c2, c3, c4, some (.ref Z), some (.ref Nn), c7, c8, c9, c10, c11, c12, c13, c14, c15, c16, c17] T = .nx [c0, c1, c2, c3, c4, some (.ref Z), some (.ref Nn), c7, c8, c9, e10, c11, c12, c13, c14, e15, c16, c17] T' ∧ Kp [] T T' := by
  obtain ⟨s', T', e, k, e10, e15, rfl⟩ := forV_all (g := gN 10) (b := bNum2) (fun pre s' T' => Kp [] T T' ∧ ∃ e10 e15, s' = [c0, c1, c2, c3, c4, some (.ref Z), some (.ref Nn), c7, c8, c9, e10, c11, c12, c13, c14, e15, c16, c17]) (rng 0 2)
    (fun pre x suf s' T' e h => by
      obtain ⟨k, e10, e15, rfl⟩ := h
      obtain ⟨T2, f15, q1, q2⟩ := num2_run (c0 := c0) (c1 := c1) (c2 := c2) (c3 := c3) (c4 := c4) (c7 := c7) (c8 := c8) (c9 := c9) (c10 := some x) (c11 := c11) (c12 := c12) (c13 := c13) (c14 := c14) (c15 := e15) (c16 := c16) (c17 := c17) (s.kp (k.all (h := [d]))) hg hj hl
      exact ⟨_, _, T2, rfl, .inl q1, k.trans q2, some x, f15, rfl⟩)
    (s := [c0, c1, c2, c3, c4, some (.ref Z), some (.ref Nn), c7, c8, c9, c10, c11, c12, c13, c14, c15, c16, c17]) (S := T) ⟨.refl, c10, c15, rfl⟩
  refine ⟨T', e10, e15, ?_, k⟩
  have hi : inR 4611686018427387903 2 = true := rfl
  have h2 : (2 : Int).toNat = 2 := rfl
  unfold lw12
  unfold bNum2 at e
  clear s hg hj hl k
  walk_at "evh"
theorem lw13_run : lw13 [c0, c1, c2, c3, c4, c5, c6, c7, c8, c9, c10, c11, c12, c13, c14, c15, c16, c17] T = .nx [c0, c1, c2, c3, c4, c5, c6, c7, c8, c9, c10, c11, some (.ref T.length), c13, c14, c15, c16, c17] (T ++ [.lst []]) := by
  have h0 : 0 ≤ sizeLine := Nat.zero_le _
  unfold lw13
  walk_at "evh"
end

end Lw_k16

namespace Lw_k16
open PySem Fr
local macro_rules | `(tactic| walk_at "ev") => `(tactic| simp only [Bool.or_true, Bool.true_or, Bool.and_self, Bool.or_self, Bool.and_true, Bool.true_and, Bool.false_or, Bool.or_false, Bool.false_and, Bool.and_false, ltG_int, ltG_str, ltG_ref, ltG_tup, memM_eq, notMemM_eq, memB_str, blK_some, nblK_some, eqM_ref, eqM_tup, neM_ref, neM_tup, isM_fl, isNotM_non, isNotM_int, isNotM_str, isNotM_bl, isNotM_tup, isNotM_ref, listM_ref, listM_tup, listM_fl, listK_lst, listK_dK, tupleM_ref, tupleM_tup, tupleM_fl, divmodM_int, strM_int, min2M_int, max2M_int, intsOf_map, sumM_ref, sortedM_ref, insertM_eq, extendM_eq, popAtM_eq, clearM_eq, indexLM_eq, tyM_list_fl, tV_eq, truK_bl, truK_non, truK_int, truK_tup, truK_ref, obB_lst, obB_dK, sAsgT_eq, tgK_some, gN_eq, gT_eq, gsCons_eq, gK_some, gsNil_eq, sSetIx_eq, setK_eq, sAug_eq, augK_some, iaddM_int, isubM_int, eListR_eq, rg1_eq, rg2_eq, rg1K_int, rg2K_int, iZip_eq, zipM_tup, zipM_ref, iRev_eq, revM_tup, revM_ref, eLc_eq, lcK_vals, lcK_live, lcK_gen, optS_some, wipeW_nil, wipeW_cons, tYs_eq, lcT_gN, turnK_ite, putK_ok, putL_lst, lcV_nil, andThen_some, srcK_gen, bd_eq, bdK_ok, bdK_ex, bdK_bad, bdK_ite, rt_eq, bad_eq, app_ite, onE_ok, onE_ex, onE_bad, onE_ite, seq_eq, seqK_nx, seqK_rt, seqK_bk, seqK_ct, seqK_ex, seqK_bad, seqK_ite, loopK_nx, loopK_ct, loopK_bk, loopK_rt, loopK_ex, loopK_bad, loopK_ite, fn_eq, fnK_rt, fnK_nx, fnK_ex, fnK_ite, eVar_0, eVar_s, eC_eq, eOp_eq, eUn_eq, eAnd_eq, eOr_eq, eNot_eq, boK_bl, eIf_eq, eChain_eq, tB_eq, tbK_bl, tAnd_eq, tOr_eq, tNot_eq, aNil_eq, aCons_eq, eTup_eq, eLst_eq, new_eq, eB_eq, eCall_eq, eM_eq, eSl_eq, oNone_eq, oSome_eq, intK_int, sNil_eq, sExpr_eq, sRet_eq, sRetN_eq, sIf_eq, sAsg_eq, sRaise_eq, sBreak_eq, sCont_eq, sFor_eq, srcK_vals, iE_eq, srcOf_tup, srcOf_fl, srcOf_str, forV_nil, addM_int, addM_str, addM_tup, subM_int, mulM_int, mulM_str, modM_int, fdivM_int, powM_int, negM_int, ltM_int, leM_int, gtM_int, geM_int, eqM_int, eqM_str, eqM_bl, neM_int, neM_str, neM_bl, isM_non, isM_int, isM_str, isM_bl, isM_tup, isM_ref, inM_str, notInM_str, lenM_str, lenM_tup, lenM_fl, intM_int, tyM_str, slM_str, isiM_non, isiM_bl, isiM_int, isiM_str, isiM_tup, resK_some, obL_lst, obS_lst, optK_some, isLst_lst, appendM_eq, popM_eq, reverseM_eq, lenM_refE, ixM_refE, ixM_tupE, ixM_flE, ixM_strE, srcOf_refE, srcK_liveE, tyM_refE, get_last, set_last, sTry_eq, tryK_nx, tryK_rt, noEx_nx, noEx_rt, sTryAs_eq, tryAsK_nx, tryAsK_rt, dropS_nx, dropS_rt, onNone_none, kb_NoneType_bool, kb_NoneType_int, kb_NoneType_str, kb_NoneType_tuple, kb_NoneType_list, kb_NoneType_dict, kb_bool_bool, kb_bool_int, kb_bool_str, kb_bool_tuple, kb_bool_list, kb_bool_dict, kb_int_bool, kb_int_int, kb_int_str, kb_int_tuple, kb_int_list, kb_int_dict, kb_str_bool, kb_str_int, kb_str_str, kb_str_tuple, kb_str_list, kb_str_dict, kb_tuple_bool, kb_tuple_int, kb_tuple_str, kb_tuple_tuple, kb_tuple_list, kb_tuple_dict, kb_list_bool, kb_list_int, kb_list_str, kb_list_tuple, kb_list_list, kb_list_dict, kb_dict_bool, kb_dict_int, kb_dict_str, kb_dict_tuple, kb_dict_list, kb_dict_dict, List.map_cons, List.map_nil, List.cons_append, List.nil_append, List.length_cons, List.length_nil, Nat.reduceAdd, Nat.reduceSub, List.replicate, List.set_cons_zero, List.set_cons_succ, Bool.false_eq_true, Bool.not_true, Bool.not_false, if_true, if_false, reduceIte, decide_eq_true_eq, Bool.not_eq_true', decide_eq_false_iff_not, not_true_eq_false, not_false_eq_true, ite_not, decide_true, decide_false, eq_self_iff_true, indexSM_eq, startsM_str, endsM_str, splitM_str, iR1_eq, iR2_eq, rngK_1, rngK2_2, chr1_eq, subS_one, and_self, true_and, and_true, false_and, and_false, or_true, true_or, or_self, false_or, or_false, ne_eq])
local macro_rules | `(tactic| walk_at "evh") => `(tactic| simp only [Bool.or_true, Bool.true_or, Bool.and_self, Bool.or_self, Bool.and_true, Bool.true_and, Bool.false_or, Bool.or_false, Bool.false_and, Bool.and_false, ltG_int, ltG_str, ltG_ref, ltG_tup, memM_eq, notMemM_eq, memB_str, blK_some, nblK_some, eqM_ref, eqM_tup, neM_ref, neM_tup, isM_fl, isNotM_non, isNotM_int, isNotM_str, isNotM_bl, isNotM_tup, isNotM_ref, listM_ref, listM_tup, listM_fl, listK_lst, listK_dK, tupleM_ref, tupleM_tup, tupleM_fl, divmodM_int, strM_int, min2M_int, max2M_int, intsOf_map, sumM_ref, sortedM_ref, insertM_eq, extendM_eq, popAtM_eq, clearM_eq, indexLM_eq, tyM_list_fl, tV_eq, truK_bl, truK_non, truK_int, truK_tup, truK_ref, obB_lst, obB_dK, sAsgT_eq, tgK_some, gN_eq, gT_eq, gsCons_eq, gK_some, gsNil_eq, sSetIx_eq, setK_eq, sAug_eq, augK_some, iaddM_int, isubM_int, eListR_eq, rg1_eq, rg2_eq, rg1K_int, rg2K_int, iZip_eq, zipM_tup, zipM_ref, iRev_eq, revM_tup, revM_ref, eLc_eq, lcK_vals, lcK_live, lcK_gen, optS_some, wipeW_nil, wipeW_cons, tYs_eq, lcT_gN, turnK_ite, putK_ok, putL_lst, lcV_nil, andThen_some, srcK_gen, bd_eq, bdK_ok, bdK_ex, bdK_bad, bdK_ite, rt_eq, bad_eq, app_ite, onE_ok, onE_ex, onE_bad, onE_ite, seq_eq, seqK_nx, seqK_rt, seqK_bk, seqK_ct, seqK_ex, seqK_bad, seqK_ite, loopK_nx, loopK_ct, loopK_bk, loopK_rt, loopK_ex, loopK_bad, loopK_ite, fn_eq, fnK_rt, fnK_nx, fnK_ex, fnK_ite, eVar_0, eVar_s, eC_eq, eOp_eq, eUn_eq, eAnd_eq, eOr_eq, eNot_eq, boK_bl, eIf_eq, eChain_eq, tB_eq, tbK_bl, tAnd_eq, tOr_eq, tNot_eq, aNil_eq, aCons_eq, eTup_eq, eLst_eq, new_eq, eB_eq, eCall_eq, eM_eq, eSl_eq, oNone_eq, oSome_eq, intK_int, sNil_eq, sExpr_eq, sRet_eq, sRetN_eq, sIf_eq, sAsg_eq, sRaise_eq, sBreak_eq, sCont_eq, sFor_eq, srcK_vals, iE_eq, srcOf_tup, srcOf_fl, srcOf_str, forV_nil, addM_int, addM_str, addM_tup, subM_int, mulM_int, mulM_str, modM_int, fdivM_int, powM_int, negM_int, ltM_int, leM_int, gtM_int, geM_int, eqM_int, eqM_str, eqM_bl, neM_int, neM_str, neM_bl, isM_non, isM_int, isM_str, isM_bl, isM_tup, isM_ref, inM_str, notInM_str, lenM_str, lenM_tup, lenM_fl, intM_int, tyM_str, slM_str, isiM_non, isiM_bl, isiM_int, isiM_str, isiM_tup, resK_some, obL_lst, obS_lst, optK_some, isLst_lst, appendM_eq, popM_eq, reverseM_eq, lenM_refE, ixM_refE, ixM_tupE, ixM_flE, ixM_strE, srcOf_refE, srcK_liveE, tyM_refE, get_last, set_last, sTry_eq, tryK_nx, tryK_rt, noEx_nx, noEx_rt, sTryAs_eq, tryAsK_nx, tryAsK_rt, dropS_nx, dropS_rt, onNone_none, kb_NoneType_bool, kb_NoneType_int, kb_NoneType_str, kb_NoneType_tuple, kb_NoneType_list, kb_NoneType_dict, kb_bool_bool, kb_bool_int, kb_bool_str, kb_bool_tuple, kb_bool_list, kb_bool_dict, kb_int_bool, kb_int_int, kb_int_str, kb_int_tuple, kb_int_list, kb_int_dict, kb_str_bool, kb_str_int, kb_str_str, kb_str_tuple, kb_str_list, kb_str_dict, kb_tuple_bool, kb_tuple_int, kb_tuple_str, kb_tuple_tuple, kb_tuple_list, kb_tuple_dict, kb_list_bool, kb_list_int, kb_list_str, kb_list_tuple, kb_list_list, kb_list_dict, kb_dict_bool, kb_dict_int, kb_dict_str, kb_dict_tuple, kb_dict_list, kb_dict_dict, List.map_cons, List.map_nil, List.cons_append, List.nil_append, List.length_cons, List.length_nil, Nat.reduceAdd, Nat.reduceSub, List.replicate, List.set_cons_zero, List.set_cons_succ, Bool.false_eq_true, Bool.not_true, Bool.not_false, if_true, if_false, reduceIte, decide_eq_true_eq, Bool.not_eq_true', decide_eq_false_iff_not, not_true_eq_false, not_false_eq_true, ite_not, decide_true, decide_false, eq_self_iff_true, indexSM_eq, startsM_str, endsM_str, splitM_str, iR1_eq, iR2_eq, rngK_1, rngK2_2, chr1_eq, subS_one, and_self, true_and, and_true, false_and, and_false, or_true, true_or, or_self, false_or, or_false, ne_eq, *])
section
variable {T : Sto} {d Z Nn C P I G L H K : Nat} {ps cw ws : List W} {xss : List (List PyData)} {js : List Nat} {c0 c1 c2 c3 c4 c5 c6 c7 c8 c9 c10 c11 c12 c13 c14 c15 c16 c17 : Option W}
def bWide : Stm := (sExpr (eM "list" appendM (eVar 12) (aCons (eOp addM (eC (.int 1)) (eCall m__law_draw (aCons (eVar 1) (aCons (eCall m__law_pick (aCons (eVar 1) (aCons (eLst (aCons (eC (.int 4)) (aCons (eC (.int 1000)) (aCons (eC (.int 1)) aNil)))) aNil))) aNil)))) aNil)))
theorem lw14_run (hd : HasD d T) (hK : T[K]? = some (.lst [])) (hne : K ≠ d) :
    ∃ T' e13 wd, lw14 [c0, some (.ref d), c2, c3, c4, c5, c6, c7, c8, c9, c10, c11, some (.ref K), c13, c14, c15, c16, c17] T = .nx [c0, some (.ref d), c2, c3, c4, c5, c6, c7, c8, c9, c10, c11, some (.ref K), e13, c14, c15, c16, c17] T' ∧ T'[K]? = some (oI wd) ∧ SzOk wd ∧ wd.length ≤ 6 ∧ Kp [d, K] T T' ∧ HasD d T' := by
  obtain ⟨n, S1, hn, k1, l1, d1, e1⟩ := pickK hd (is := [3, 0, 1, 2, 4, 5, 6]) (by decide)
  have hn' : 0 ≤ n ∧ n ≤ 6 := by simp at hn; omega
  have hKl := (List.getElem?_eq_some_iff.mp hK).1
  have hK1 : S1[K]? = some (.lst []) := k1.get (by simp; exact hne) hK
  obtain ⟨s', T', e, k, d2, wd, q1, q2, q3, e13, rfl⟩ := forV_all (g := gN 13) (b := bWide) (fun pre s' T' => Kp [d, K] S1 T' ∧ HasD d T' ∧ ∃ wd, T'[K]? = some (oI wd) ∧ SzOk wd ∧ wd.length = pre.length ∧ ∃ e13, s' = [c0, some (.ref d), c2, c3, c4, c5, c6, c7, c8, c9, c10, c11, some (.ref K), e13, c14, c15, c16, c17]) (rng 0 n.toNat)
    (fun pre x suf s' T' e h => by
      obtain ⟨k, d2, wd, q1, q2, q3, e13, rfl⟩ := h
      obtain ⟨rfl, hlt⟩ := rng_at e
      obtain ⟨m, T2, hm, k2, l2, d3, e2⟩ := pickK d2 (is := [4, 1000, 1]) (by decide)
      have hm' : 1 ≤ m ∧ m ≤ 1000 := by simp at hm; omega
      obtain ⟨v, T3, hv, k3, l3, d4, e3⟩ := drawK d3 (n := m) (by omega)
      have hK3 : T3[K]? = some (oI wd) := k3.get (by simp; exact hne) (k2.get (by simp; exact hne) q1)
      have hKT := (List.getElem?_eq_some_iff.mp q1).1
      have hd' := d2.lt
      have hKt2 : isLst T'[K]? = true := by rw [q1]; rfl
      refine ⟨_, [c0, some (.ref d), c2, c3, c4, c5, c6, c7, c8, c9, c10, c11, some (.ref K), some (.int (0 + pre.length)), c14, c15, c16, c17], T3.set K (oI (wd ++ [1 + v])), rfl, .inl ?_, ?_, ?_, wd ++ [1 + v], set_get hK3, ?_, by simp; exact q3, _, rfl⟩
      · show bWide [c0, some (.ref d), c2, c3, c4, c5, c6, c7, c8, c9, c10, c11, some (.ref K), some (.int (0 + pre.length)), c14, c15, c16, c17] T' = _
        have hz : (List.map W.int wd).length < sizeLine := by rw [List.length_map, sizeLine_n]; omega
        have eo : List.map W.int wd ++ [W.int (1 + v)] = List.map W.int (wd ++ [1 + v]) := by simp
        have h3 : 3 ≤ sizeLine := by rw [sizeLine_n]; decide
        have e2' : m__law_pick [.ref d, .ref T'.length] (T' ++ [.lst [.int 4, .int 1000, .int 1]]) = .ok (.int m) T2 := e2
        unfold bWide
        clear k d2 q2 q3 k2 l2 d3 k3 l3 d4 e2 hm hm' hv hd hK hK1 hKl e e1 k1 l1 d1 hn hn' hlt hKT hd' hne
        walk_at "evh"
      · exact ((k.trans (k2.mono (by simp))).trans (k3.mono (by simp))).trans (Kp.set (by simp))
      · obtain ⟨zs, q⟩ := d4; exact ⟨zs, by rw [List.getElem?_set_ne hne]; exact q⟩
      · intro t ht
        rcases List.mem_append.mp ht with ht | ht
        · exact q2 t ht
        · simp at ht; subst ht; omega)
    (s := [c0, some (.ref d), c2, c3, c4, c5, c6, c7, c8, c9, c10, c11, some (.ref K), c13, c14, c15, c16, c17]) (S := S1) ⟨.refl, d1, [], hK1, (by intro t ht; cases ht), rfl, c13, rfl⟩
  rw [rng_len] at q3
  refine ⟨T', e13, wd, ?_, q1, q2, by omega, (k1.mono (by simp)).trans k, d2⟩
  have hin : inR 4611686018427387903 n = true := inR_iff.mpr (by omega)
  have h7 : 7 ≤ sizeLine := by rw [sizeLine_n]; decide
  have e1' : m__law_pick [.ref d, .ref T.length] (T ++ [.lst [.int 3, .int 0, .int 1, .int 2, .int 4, .int 5, .int 6]]) = .ok (.int n) S1 := e1
  unfold lw14
  unfold bWide at e
  clear k d2 q1 q2 q3 k1 l1 d1 e1 hn hn' hK hK1 hKl hd hne
  walk_at "evh"
theorem lw15_run {wd : List Int} (hK : T[K]? = some (oI wd)) : lw15 [c0, c1, c2, c3, c4, c5, c6, c7, c8, c9, c10, c11, some (.ref K), c13, c14, c15, c16, c17] T = .nx [c0, c1, c2, c3, c4, c5, c6, c7, c8, c9, c10, c11, some (.ref K), c13, some (.ref T.length), c15, c16, c17] (T ++ [oI wd]) := by
  unfold lw15
  walk_at "evh"
theorem lw16_run {wd : List Int} (hd : HasD d T) (hZ : T[Z]? = some (oI (szs xss))) (hz : Z ≠ d) (hs : SzOk (szs xss)) (hl : (szs xss).length ≤ 1000) (hH : T[H]? = some (oI wd)) (hh : H ≠ d) (hw : SzOk wd) (hwl : wd.length ≤ 1000) :
    ∃ T', lw16 [c0, some (.ref d), c2, c3, c4, some (.ref Z), c6, c7, c8, c9, c10, c11, c12, c13, some (.ref H), c15, c16, c17] T = .nx [c0, some (.ref d), c2, c3, c4, some (.ref Z), c6, c7, c8, c9, c10, c11, c12, c13, some (.ref H), c15, c16, c17] T' ∧ Kp [d] T T' ∧ HasD d T' := by
  obtain ⟨T1, e1, k1, d1⟩ := asked_run hd hZ hz hs hl
  obtain ⟨T2, e2, k2, d2⟩ := asked_run d1 (k1.get (by simp; exact hh) hH) hh hw hwl
  refine ⟨T2, ?_, k1.trans k2, d2⟩
  unfold lw16
  clear hd hZ hz hs hl hH hh hw hwl k1 d1 k2 d2
  walk_at "evh"
theorem lw17_run {wd : List Int} (hH : T[H]? = some (oI wd)) (hK : T[K]? = some (oI wd)) (hw : wd.length ≤ 1000) (aP : Drawn d T P ps xss) (aL : Drawn d T L ws xss) (hg : ∀ xs ∈ xss, GoodL xs) (hl : xss.length ≤ 6) :
    lw17 [c0, c1, some (.ref L), c3, c4, c5, c6, some (.ref P), c8, c9, c10, c11, some (.ref K), c13, some (.ref H), c15, c16, c17] T = .nx [c0, c1, some (.ref L), c3, c4, c5, c6, some (.ref P), c8, c9, c10, c11, some (.ref K), c13, some (.ref H), c15, c16, c17] T := by
  have a1 := same_ints hH hK (by omega)
  have a2 : m__law_same 4 [.ref P, .ref L] T = .ok (.bl true) T := by
    rw [same_eq]
    exact same_vw (n := 4) (h := []) (h' := []) (Vw.lst aP.at_ (by simp) (aP.vw.imp fun _ _ q => q.sub (by simp))) (Vw.lst aL.at_ (by simp) (aL.vw.imp fun _ _ q => q.sub (by simp))) (sm_lists hg hl 4) 4 (by omega)
  unfold lw17
  clear hH hK hw aP aL hg hl
  walk_at "evh"
theorem lw18_run (s : St d T Z Nn C P I G ps cw xss js) (hg : ∀ xs ∈ xss, GoodL xs) (hj : InJ xss js) (hl : xss.length ≤ 6) :
    lw18 [c0, c1, c2, c3, some (.ref C), c5, some (.ref Nn), c7, some (.ref I), some (.ref G), c10, c11, c12, c13, c14, c15, c16, c17] T = .rt (.bl true) T := by
  have hnl := noteOf_len xss js
  have a1 := same_ints s.g s.n (by omega)
  have a2 : m__law_same 4 [.ref I, .ref C] T = .ok (.bl true) T := by
    rw [same_eq]
    exact same_vw (n := 3) (h := []) (h' := []) (Vw.lst s.i (by simp) (s.cv.imp fun _ _ q => q.sub (by simp))) (Vw.lst s.c (by simp) (s.cv.imp fun _ _ q => q.sub (by simp))) (sm_chosen hg hj hl 3) 4 (by omega)
  unfold lw18
  clear s hg hj hl hnl
  walk_at "evh"
end

end Lw_k16

namespace Lw_k16
open PySem Fr
local macro_rules | `(tactic| walk_at "ev") => `(tactic| simp only [Bool.or_true, Bool.true_or, Bool.and_self, Bool.or_self, Bool.and_true, Bool.true_and, Bool.false_or, Bool.or_false, Bool.false_and, Bool.and_false, ltG_int, ltG_str, ltG_ref, ltG_tup, memM_eq, notMemM_eq, memB_str, blK_some, nblK_some, eqM_ref, eqM_tup, neM_ref, neM_tup, isM_fl, isNotM_non, isNotM_int, isNotM_str, isNotM_bl, isNotM_tup, isNotM_ref, listM_ref, listM_tup, listM_fl, listK_lst, listK_dK, tupleM_ref, tupleM_tup, tupleM_fl, divmodM_int, strM_int, min2M_int, max2M_int, intsOf_map, sumM_ref, sortedM_ref, insertM_eq, extendM_eq, popAtM_eq, clearM_eq, indexLM_eq, tyM_list_fl, tV_eq, truK_bl, truK_non, truK_int, truK_tup, truK_ref, obB_lst, obB_dK, sAsgT_eq, tgK_some, gN_eq, gT_eq, gsCons_eq, gK_some, gsNil_eq, sSetIx_eq, setK_eq, sAug_eq, augK_some, iaddM_int, isubM_int, eListR_eq, rg1_eq, rg2_eq, rg1K_int, rg2K_int, iZip_eq, zipM_tup, zipM_ref, iRev_eq, revM_tup, revM_ref, eLc_eq, lcK_vals, lcK_live, lcK_gen, optS_some, wipeW_nil, wipeW_cons, tYs_eq, lcT_gN, turnK_ite, putK_ok, putL_lst, lcV_nil, andThen_some, srcK_gen, bd_eq, bdK_ok, bdK_ex, bdK_bad, bdK_ite, rt_eq, bad_eq, app_ite, onE_ok, onE_ex, onE_bad, onE_ite, seq_eq, seqK_nx, seqK_rt, seqK_bk, seqK_ct, seqK_ex, seqK_bad, seqK_ite, loopK_nx, loopK_ct, loopK_bk, loopK_rt, loopK_ex, loopK_bad, loopK_ite, fn_eq, fnK_rt, fnK_nx, fnK_ex, fnK_ite, eVar_0, eVar_s, eC_eq, eOp_eq, eUn_eq, eAnd_eq, eOr_eq, eNot_eq, boK_bl, eIf_eq, eChain_eq, tB_eq, tbK_bl, tAnd_eq, tOr_eq, tNot_eq, aNil_eq, aCons_eq, eTup_eq, eLst_eq, new_eq, eB_eq, eCall_eq, eM_eq, eSl_eq, oNone_eq, oSome_eq, intK_int, sNil_eq, sExpr_eq, sRet_eq, sRetN_eq, sIf_eq, sAsg_eq, sRaise_eq, sBreak_eq, sCont_eq, sFor_eq, srcK_vals, iE_eq, srcOf_tup, srcOf_fl, srcOf_str, forV_nil, addM_int, addM_str, addM_tup, subM_int, mulM_int, mulM_str, modM_int, fdivM_int, powM_int, negM_int, ltM_int, leM_int, gtM_int, geM_int, eqM_int, eqM_str, eqM_bl, neM_int, neM_str, neM_bl, isM_non, isM_int, isM_str, isM_bl, isM_tup, isM_ref, inM_str, notInM_str, lenM_str, lenM_tup, lenM_fl, intM_int, tyM_str, slM_str, isiM_non, isiM_bl, isiM_int, isiM_str, isiM_tup, resK_some, obL_lst, obS_lst, optK_some, isLst_lst, appendM_eq, popM_eq, reverseM_eq, lenM_refE, ixM_refE, ixM_tupE, ixM_flE, ixM_strE, srcOf_refE, srcK_liveE, tyM_refE, get_last, set_last, sTry_eq, tryK_nx, tryK_rt, noEx_nx, noEx_rt, sTryAs_eq, tryAsK_nx, tryAsK_rt, dropS_nx, dropS_rt, onNone_none, kb_NoneType_bool, kb_NoneType_int, kb_NoneType_str, kb_NoneType_tuple, kb_NoneType_list, kb_NoneType_dict, kb_bool_bool, kb_bool_int, kb_bool_str, kb_bool_tuple, kb_bool_list, kb_bool_dict, kb_int_bool, kb_int_int, kb_int_str, kb_int_tuple, kb_int_list, kb_int_dict, kb_str_bool, kb_str_int, kb_str_str, kb_str_tuple, kb_str_list, kb_str_dict, kb_tuple_bool, kb_tuple_int, kb_tuple_str, kb_tuple_tuple, kb_tuple_list, kb_tuple_dict, kb_list_bool, kb_list_int, kb_list_str, kb_list_tuple, kb_list_list, kb_list_dict, kb_dict_bool, kb_dict_int, kb_dict_str, kb_dict_tuple, kb_dict_list, kb_dict_dict, List.map_cons, List.map_nil, List.cons_append, List.nil_append, List.length_cons, List.length_nil, Nat.reduceAdd, Nat.reduceSub, List.replicate, List.set_cons_zero, List.set_cons_succ, Bool.false_eq_true, Bool.not_true, Bool.not_false, if_true, if_false, reduceIte, decide_eq_true_eq, Bool.not_eq_true', decide_eq_false_iff_not, not_true_eq_false, not_false_eq_true, ite_not, decide_true, decide_false, eq_self_iff_true, indexSM_eq, startsM_str, endsM_str, splitM_str, iR1_eq, iR2_eq, rngK_1, rngK2_2, chr1_eq, subS_one, and_self, true_and, and_true, false_and, and_false, or_true, true_or, or_self, false_or, or_false, ne_eq])
local macro_rules | `(tactic| walk_at "evh") => `(tactic| simp only [Bool.or_true, Bool.true_or, Bool.and_self, Bool.or_self, Bool.and_true, Bool.true_and, Bool.false_or, Bool.or_false, Bool.false_and, Bool.and_false, ltG_int, ltG_str, ltG_ref, ltG_tup, memM_eq, notMemM_eq, memB_str, blK_some, nblK_some, eqM_ref, eqM_tup, neM_ref, neM_tup, isM_fl, isNotM_non, isNotM_int, isNotM_str, isNotM_bl, isNotM_tup, isNotM_ref, listM_ref, listM_tup, listM_fl, listK_lst, listK_dK, tupleM_ref, tupleM_tup, tupleM_fl, divmodM_int, strM_int, min2M_int, max2M_int, intsOf_map, sumM_ref, sortedM_ref, insertM_eq, extendM_eq, popAtM_eq, clearM_eq, indexLM_eq, tyM_list_fl, tV_eq, truK_bl, truK_non, truK_int, truK_tup, truK_ref, obB_lst, obB_dK, sAsgT_eq, tgK_some, gN_eq, gT_eq, gsCons_eq, gK_some, gsNil_eq, sSetIx_eq, setK_eq, sAug_eq, augK_some, iaddM_int, isubM_int, eListR_eq, rg1_eq, rg2_eq, rg1K_int, rg2K_int, iZip_eq, zipM_tup, zipM_ref, iRev_eq, revM_tup, revM_ref, eLc_eq, lcK_vals, lcK_live, lcK_gen, optS_some, wipeW_nil, wipeW_cons, tYs_eq, lcT_gN, turnK_ite, putK_ok, putL_lst, lcV_nil, andThen_some, srcK_gen, bd_eq, bdK_ok, bdK_ex, bdK_bad, bdK_ite, rt_eq, bad_eq, app_ite, onE_ok, onE_ex, onE_bad, onE_ite, seq_eq, seqK_nx, seqK_rt, seqK_bk, seqK_ct, seqK_ex, seqK_bad, seqK_ite, loopK_nx, loopK_ct, loopK_bk, loopK_rt, loopK_ex, loopK_bad, loopK_ite, fn_eq, fnK_rt, fnK_nx, fnK_ex, fnK_ite, eVar_0, eVar_s, eC_eq, eOp_eq, eUn_eq, eAnd_eq, eOr_eq, eNot_eq, boK_bl, eIf_eq, eChain_eq, tB_eq, tbK_bl, tAnd_eq, tOr_eq, tNot_eq, aNil_eq, aCons_eq, eTup_eq, eLst_eq, new_eq, eB_eq, eCall_eq, eM_eq, eSl_eq, oNone_eq, oSome_eq, intK_int, sNil_eq, sExpr_eq, sRet_eq, sRetN_eq, sIf_eq, sAsg_eq, sRaise_eq, sBreak_eq, sCont_eq, sFor_eq, srcK_vals, iE_eq, srcOf_tup, srcOf_fl, srcOf_str, forV_nil, addM_int, addM_str, addM_tup, subM_int, mulM_int, mulM_str, modM_int, fdivM_int, powM_int, negM_int, ltM_int, leM_int, gtM_int, geM_int, eqM_int, eqM_str, eqM_bl, neM_int, neM_str, neM_bl, isM_non, isM_int, isM_str, isM_bl, isM_tup, isM_ref, inM_str, notInM_str, lenM_str, lenM_tup, lenM_fl, intM_int, tyM_str, slM_str, isiM_non, isiM_bl, isiM_int, isiM_str, isiM_tup, resK_some, obL_lst, obS_lst, optK_some, isLst_lst, appendM_eq, popM_eq, reverseM_eq, lenM_refE, ixM_refE, ixM_tupE, ixM_flE, ixM_strE, srcOf_refE, srcK_liveE, tyM_refE, get_last, set_last, sTry_eq, tryK_nx, tryK_rt, noEx_nx, noEx_rt, sTryAs_eq, tryAsK_nx, tryAsK_rt, dropS_nx, dropS_rt, onNone_none, kb_NoneType_bool, kb_NoneType_int, kb_NoneType_str, kb_NoneType_tuple, kb_NoneType_list, kb_NoneType_dict, kb_bool_bool, kb_bool_int, kb_bool_str, kb_bool_tuple, kb_bool_list, kb_bool_dict, kb_int_bool, kb_int_int, kb_int_str, kb_int_tuple, kb_int_list, kb_int_dict, kb_str_bool, kb_str_int, kb_str_str, kb_str_tuple, kb_str_list, kb_str_dict, kb_tuple_bool, kb_tuple_int, kb_tuple_str, kb_tuple_tuple, kb_tuple_list, kb_tuple_dict, kb_list_bool, kb_list_int, kb_list_str, kb_list_tuple, kb_list_list, kb_list_dict, kb_dict_bool, kb_dict_int, kb_dict_str, kb_dict_tuple, kb_dict_list, kb_dict_dict, List.map_cons, List.map_nil, List.cons_append, List.nil_append, List.length_cons, List.length_nil, Nat.reduceAdd, Nat.reduceSub, List.replicate, List.set_cons_zero, List.set_cons_succ, Bool.false_eq_true, Bool.not_true, Bool.not_false, if_true, if_false, reduceIte, decide_eq_true_eq, Bool.not_eq_true', decide_eq_false_iff_not, not_true_eq_false, not_false_eq_true, ite_not, decide_true, decide_false, eq_self_iff_true, indexSM_eq, startsM_str, endsM_str, splitM_str, iR1_eq, iR2_eq, rngK_1, rngK2_2, chr1_eq, subS_one, and_self, true_and, and_true, false_and, and_false, or_true, true_or, or_self, false_or, or_false, ne_eq, *])
theorem plain (ns : List Int) (hns : ns.length ≤ 63) : ∃ S, m_law [.fl (ns.map .int)] [] = .ok (.bl true) S := by
  obtain ⟨zs, e0⟩ := draws_run ns hns []
  have hd0 : HasD 0 ([oI zs] : Sto) := ⟨zs, rfl⟩
  obtain ⟨sc, hsc⟩ : ∃ sc, sc = some (W.fl (ns.map W.int)) := ⟨_, rfl⟩
  obtain ⟨L, ws, xss, T1, e1, aL, hg, hl, k1, d1⟩ := lw1_run hd0 sc none none none none none none none none none none none none none none none none
  obtain ⟨js, T2, e2, hJ, hj, k2, d2⟩ := lw2_run d1 aL hg hl sc none none none none none none none none none none none none none none none
  have dl1 := d1.lt
  have aL2 := aL.kp k2
  obtain ⟨cw, e3, cv⟩ := lw3_run (c0 := sc) (c4 := none) (c5 := none) (c6 := none) (c7 := none) (c8 := none) (c9 := none) (c10 := none) (c11 := none) (c12 := none) (c13 := none) (c14 := none) (c15 := none) (c16 := none) (c17 := none) aL2 hJ hj hl
  let T3 : Sto := T2 ++ [.lst cw]
  have k3 : Kp [] T2 T3 := Kp.app _
  have e4 := lw4_run (T := T3) (c0 := sc) (c1 := some (.ref 0)) (c3 := some (.ref T1.length)) (c4 := some (.ref T2.length)) (c5 := none) (c6 := none) (c7 := none) (c8 := none) (c9 := none) (c10 := none) (c11 := none) (c12 := none) (c13 := none) (c14 := none) (c15 := none) (c16 := none) (c17 := none) (aL2.kp k3.all) hl
  let T4 : Sto := T3 ++ [oI (szs xss)]
  have k4 : Kp [] T2 T4 := k3.trans (Kp.app _)
  have e5 := lw5_run (T := T4) (c0 := sc) (c1 := some (.ref 0)) (c4 := some (.ref T2.length)) (c5 := some (.ref T3.length)) (c6 := none) (c7 := none) (c8 := none) (c9 := none) (c10 := none) (c11 := none) (c12 := none) (c13 := none) (c14 := none) (c15 := none) (c16 := none) (c17 := none) (aL2.kp k4.all) (k4.get (by simp) hJ) hj hl
  let T5 : Sto := T4 ++ [oI (noteOf xss js)]
  have k5 : Kp [] T2 T5 := k4.trans (Kp.app _)
  have d5 : HasD 0 T5 := k5.hasD d2
  obtain ⟨ps, T6, e6, aP, k6⟩ := lw6_run (T := T5) (c0 := sc) (c1 := some (.ref 0)) (c3 := some (.ref T1.length)) (c4 := some (.ref T2.length)) (c5 := some (.ref T3.length)) (c6 := some (.ref T4.length)) (c7 := none) (c8 := none) (c9 := none) (c10 := none) (c11 := none) (c12 := none) (c13 := none) (c14 := none) (c15 := none) (c16 := none) (c17 := none) d5 (aL2.kp k5.all) hl
  have hC5 : T5[T2.length]? = some (.lst cw) := get_old _ (get_old _ (get_last _ _))
  have hZ5 : T5[T3.length]? = some (oI (szs xss)) := get_old _ (get_last _ _)
  have hN5 : T5[T4.length]? = some (oI (noteOf xss js)) := get_last _ _
  have hC6 := k6.get (by simp) hC5
  have hZ6 := k6.get (by simp) hZ5
  have hN6 := k6.get (by simp) hN5
  have e7 := lw7_run (c0 := sc) (c1 := some (.ref 0)) (c2 := some (.ref L)) (c3 := some (.ref T1.length)) (c5 := some (.ref T3.length)) (c6 := some (.ref T4.length)) (c7 := some (.ref T5.length)) (c8 := none) (c9 := none) (c10 := none) (c11 := none) (c12 := none) (c13 := none) (c14 := none) (c15 := none) (c16 := none) (c17 := none) hC6
  let T7 : Sto := T6 ++ [.lst cw]
  have k7 : Kp [] T6 T7 := Kp.app _
  have e8 := lw8_run (T := T7) (c0 := sc) (c1 := some (.ref 0)) (c2 := some (.ref L)) (c3 := some (.ref T1.length)) (c4 := some (.ref T2.length)) (c5 := some (.ref T3.length)) (c7 := some (.ref T5.length)) (c8 := some (.ref T6.length)) (c9 := none) (c10 := none) (c11 := none) (c12 := none) (c13 := none) (c14 := none) (c15 := none) (c16 := none) (c17 := none) (k7.get (by simp) hN6)
  let T8 : Sto := T7 ++ [oI (noteOf xss js)]
  have k8 : Kp [] T6 T8 := k7.trans (Kp.app _)
  have k28 : Kp [] T2 T8 := (k5.trans k6).trans k8
  have l2 := k2.le
  have l6 := k6.le
  have n3 : T3.length = T2.length + 1 := by simp [T3]
  have n4 : T4.length = T2.length + 2 := by simp [T4, T3]
  have n5 : T5.length = T2.length + 3 := by simp [T5, T4, T3]
  have n7 : T7.length = T6.length + 1 := by simp [T7]
  have s8 : St 0 T8 T3.length T4.length T2.length T5.length T6.length T7.length ps cw xss js :=
    ⟨k8.get (by simp) hZ6, k8.get (by simp) hN6, k8.get (by simp) hC6, cv.kp k28.all, aP.kp k8.all, get_old _ (get_last _ _), get_last _ _, by omega⟩
  have d8 : HasD 0 T8 := k28.hasD d2
  obtain ⟨T9, x10, x15, x16, x17, e9, k9⟩ := lw9_run (c0 := sc) (c1 := some (.ref 0)) (c2 := some (.ref L)) (c3 := some (.ref T1.length)) (c10 := none) (c11 := none) (c12 := none) (c13 := none) (c14 := none) (c15 := none) (c16 := none) (c17 := none) s8 hg hj hl
  have s9 := s8.kp (k9.all (h := [0]))
  obtain ⟨nn, T10, e10, hX, hXl, k10, d10⟩ := lw10_run (c0 := sc) (c2 := some (.ref L)) (c3 := some (.ref T1.length)) (c4 := some (.ref T2.length)) (c7 := some (.ref T5.length)) (c8 := some (.ref T6.length)) (c9 := some (.ref T7.length)) (c10 := x10) (c11 := none) (c12 := none) (c13 := none) (c14 := none) (c15 := x15) (c16 := x16) (c17 := x17) (k9.hasD d8) s9 hj hl
  have s10 := s9.kp k10
  obtain ⟨T11, e11, k11⟩ := lw11_run (c0 := sc) (c1 := some (.ref 0)) (c2 := some (.ref L)) (c3 := some (.ref T1.length)) (c4 := some (.ref T2.length)) (c6 := some (.ref T4.length)) (c8 := some (.ref T6.length)) (c9 := some (.ref T7.length)) (c10 := x10) (c12 := none) (c13 := none) (c14 := none) (c15 := x15) (c16 := x16) (c17 := x17) s10 hX hXl hg hl
  have s11 := s10.kp (k11.all (h := [0]))
  obtain ⟨T12, y10, y15, e12, k12⟩ := lw12_run (c0 := sc) (c1 := some (.ref 0)) (c2 := some (.ref L)) (c3 := some (.ref T1.length)) (c4 := some (.ref T2.length)) (c7 := some (.ref T5.length)) (c8 := some (.ref T6.length)) (c9 := some (.ref T7.length)) (c10 := x10) (c11 := some (.ref T9.length)) (c12 := none) (c13 := none) (c14 := none) (c15 := x15) (c16 := x16) (c17 := x17) s11 hg hj hl
  have s12 := s11.kp (k12.all (h := [0]))
  have d12 : HasD 0 T12 := (k11.trans k12).hasD d10
  have dl12 := d12.lt
  have e13 := lw13_run (T := T12) (c0 := sc) (c1 := some (.ref 0)) (c2 := some (.ref L)) (c3 := some (.ref T1.length)) (c4 := some (.ref T2.length)) (c5 := some (.ref T3.length)) (c6 := some (.ref T4.length)) (c7 := some (.ref T5.length)) (c8 := some (.ref T6.length)) (c9 := some (.ref T7.length)) (c10 := y10) (c11 := some (.ref T9.length)) (c12 := none) (c13 := none) (c14 := none) (c15 := y15) (c16 := x16) (c17 := x17)
  obtain ⟨T14, y13, wd, e14, hK, hw, hwl, k14, d14⟩ := lw14_run (T := T12 ++ [.lst []]) (K := T12.length) (c0 := sc) (c2 := some (.ref L)) (c3 := some (.ref T1.length)) (c4 := some (.ref T2.length)) (c5 := some (.ref T3.length)) (c6 := some (.ref T4.length)) (c7 := some (.ref T5.length)) (c8 := some (.ref T6.length)) (c9 := some (.ref T7.length)) (c10 := y10) (c11 := some (.ref T9.length)) (c13 := none) (c14 := none) (c15 := y15) (c16 := x16) (c17 := x17) (d12.app _) (get_last _ _) (by omega)
  have k14' : Kp [0] T12 T14 := by
    have q : Kp [0, T12.length] T12 T14 := (Kp.app _).trans k14
    exact ⟨q.le, fun i hi hi2 => q.old i (by simp at hi ⊢; omega) hi2⟩
  have s14 := s12.kp k14'
  have e15 := lw15_run (c0 := sc) (c1 := some (.ref 0)) (c2 := some (.ref L)) (c3 := some (.ref T1.length)) (c4 := some (.ref T2.length)) (c5 := some (.ref T3.length)) (c6 := some (.ref T4.length)) (c7 := some (.ref T5.length)) (c8 := some (.ref T6.length)) (c9 := some (.ref T7.length)) (c10 := y10) (c11 := some (.ref T9.length)) (c13 := y13) (c14 := none) (c15 := y15) (c16 := x16) (c17 := x17) hK
  let T15 : Sto := T14 ++ [oI wd]
  have k15 : Kp [] T14 T15 := Kp.app _
  have s15 := s14.kp (k15.all (h := [0]))
  have hsl := szs_len xss
  have dl14 := d14.lt
  obtain ⟨T16, e16, k16, d16⟩ := lw16_run (T := T15) (H := T14.length) (wd := wd) (c0 := sc) (c2 := some (.ref L)) (c3 := some (.ref T1.length)) (c4 := some (.ref T2.length)) (c6 := some (.ref T4.length)) (c7 := some (.ref T5.length)) (c8 := some (.ref T6.length)) (c9 := some (.ref T7.length)) (c10 := y10) (c11 := some (.ref T9.length)) (c12 := some (.ref T12.length)) (c13 := y13) (c15 := y15) (c16 := x16) (c17 := x17) (d14.app _) s15.z s15.ne.1 (szs_ok hg) (by omega) (get_last _ _) (by omega) hw (by omega)
  have s16 := s15.kp k16
  have kL : Kp [0] T2 T16 := (((((((k28.trans k9).all).trans k10).trans (k11.all)).trans (k12.all)).trans k14').trans (k15.all)).trans k16
  have e17 := lw17_run (H := T14.length) (K := T12.length) (c0 := sc) (c1 := some (.ref 0)) (c3 := some (.ref T1.length)) (c4 := some (.ref T2.length)) (c5 := some (.ref T3.length)) (c6 := some (.ref T4.length)) (c8 := some (.ref T6.length)) (c9 := some (.ref T7.length)) (c10 := y10) (c11 := some (.ref T9.length)) (c13 := y13) (c15 := y15) (c16 := x16) (c17 := x17) (k16.get (by intro q; rw [List.mem_singleton] at q; omega) (get_last T14 (oI wd))) (k16.get (by intro q; rw [List.mem_singleton] at q; omega) (k15.get (by simp) hK)) (by omega) s16.p (aL2.kp kL) hg hl
  have e18 := lw18_run (c0 := sc) (c1 := some (.ref 0)) (c2 := some (.ref L)) (c3 := some (.ref T1.length)) (c5 := some (.ref T3.length)) (c7 := some (.ref T5.length)) (c10 := y10) (c11 := some (.ref T9.length)) (c12 := some (.ref T12.length)) (c13 := y13) (c14 := some (.ref T14.length)) (c15 := y15) (c16 := x16) (c17 := x17) s16 hg hj hl
  refine ⟨T16, ?_⟩
  have e00 : lw0 [sc, none, none, none, none, none, none, none, none, none, none, none, none, none, none, none, none, none] [] = .nx [sc, some (.ref 0), none, none, none, none, none, none, none, none, none, none, none, none, none, none, none, none] [oI zs] := by
    have q : m__law_draws [.fl (ns.map W.int)] [] = .ok (.ref 0) [oI zs] := e0
    rw [hsc]
    unfold lw0
    rw [sAsg_eq, eCall_eq, aCons_eq, eVar_0, bdK_ok, bd_eq, aNil_eq, bdK_ok, rt_eq, bdK_ok, q]
    rfl
  unfold m_law
  rw [lweq, fn_eq]
  show fnK (sSeq lw0 _ [some (.fl (ns.map W.int)), none, none, none, none, none, none, none, none, none, none, none, none, none, none, none, none, none] []) = _
  rw [← hsc, seq_eq, e00, seqK_nx, seq_eq, e1, seqK_nx, seq_eq, e2, seqK_nx, seq_eq, e3, seqK_nx, seq_eq, e4, seqK_nx, seq_eq, e5, seqK_nx, seq_eq, e6, seqK_nx, seq_eq, e7, seqK_nx, seq_eq, e8, seqK_nx, seq_eq, e9, seqK_nx, seq_eq, e10, seqK_nx, seq_eq, e11, seqK_nx, seq_eq, e12, seqK_nx, seq_eq, e13, seqK_nx, seq_eq, e14, seqK_nx, seq_eq, e15, seqK_nx, seq_eq, e16, seqK_nx, seq_eq, e17, seqK_nx, e18]
  rfl

end Lw_k16

namespace Lw_k16
open PySem PySem.Spec PyProof.Rows L2 Fr
def topS (i : Nat) : Stmt := PySem.Challenge.pw_formroads_k16_notes_as_numbers.main.body.getD i (.Pass ⟨0, 0, 0, 0⟩)
abbrev st_sizes_of : Stmt := topS 5
theorem sc_sizes_of : FnScope ["lists", "items"] ["lists"] (defScope st_sizes_of) := ⟨rfl, rfl, rfl, by decide +kernel, rfl, by decide +kernel, by decide +kernel⟩
abbrev st_note_of : Stmt := topS 6
theorem sc_note_of : FnScope ["lists", "chosen", "note", "items", "item"] ["lists", "chosen"] (defScope st_note_of) := ⟨rfl, rfl, rfl, by decide +kernel, rfl, by decide +kernel, by decide +kernel⟩
abbrev st_check_note : Stmt := topS 8
theorem sc_check_note : FnScope ["sizes", "note", "size", "digit"] ["sizes", "note"] (defScope st_check_note) := ⟨rfl, rfl, rfl, by decide +kernel, rfl, by decide +kernel, by decide +kernel⟩
abbrev st_chosen_by : Stmt := topS 7
theorem sc_chosen_by : FnScope ["lists", "note", "digits", "chosen", "items"] ["lists", "note"] (defScope st_chosen_by) := ⟨rfl, rfl, rfl, by decide +kernel, rfl, by decide +kernel, by decide +kernel⟩
abbrev st_product_of : Stmt := topS 9
theorem sc_product_of : FnScope ["sizes", "product", "size"] ["sizes"] (defScope st_product_of) := ⟨rfl, rfl, rfl, by decide +kernel, rfl, by decide +kernel, by decide +kernel⟩
abbrev st_note_number : Stmt := topS 10
theorem sc_note_number : FnScope ["sizes", "note", "number", "size", "digit"] ["sizes", "note"] (defScope st_note_number) := ⟨rfl, rfl, rfl, by decide +kernel, rfl, by decide +kernel, by decide +kernel⟩
abbrev st_numbered_note : Stmt := topS 11
theorem sc_numbered_note : FnScope ["sizes", "number", "note", "size", "digit"] ["sizes", "number"] (defScope st_numbered_note) := ⟨rfl, rfl, rfl, by decide +kernel, rfl, by decide +kernel, by decide +kernel⟩
abbrev st__law_draws : Stmt := topS 13
theorem sc__law_draws : FnScope ["_law_script", "_law_draws_here", "_law_cell", "_law_rest", "_law_k"] ["_law_script"] (defScope st__law_draws) := ⟨rfl, rfl, rfl, by decide +kernel, rfl, by decide +kernel, by decide +kernel⟩
abbrev st__law_draw : Stmt := topS 14
theorem sc__law_draw : FnScope ["_law_draws_here", "_law_many"] ["_law_draws_here", "_law_many"] (defScope st__law_draw) := ⟨rfl, rfl, rfl, by decide +kernel, rfl, by decide +kernel, by decide +kernel⟩
abbrev st__law_pick : Stmt := topS 15
theorem sc__law_pick : FnScope ["_law_draws_here", "_law_things"] ["_law_draws_here", "_law_things"] (defScope st__law_pick) := ⟨rfl, rfl, rfl, by decide +kernel, rfl, by decide +kernel, by decide +kernel⟩
abbrev st__law_same : Stmt := topS 16
theorem sc__law_same : FnScope ["_law_actual", "_law_due", "_law_k"] ["_law_actual", "_law_due"] (defScope st__law_same) := ⟨rfl, rfl, rfl, by decide +kernel, rfl, by decide +kernel, by decide +kernel⟩
abbrev st__law_list : Stmt := topS 17
theorem sc__law_list : FnScope ["_law_draws_here", "_law_size", "_law_base", "_law_step", "_law_way", "_law_items", "_law_k", "_law_item"] ["_law_draws_here"] (defScope st__law_list) := ⟨rfl, rfl, rfl, by decide +kernel, rfl, by decide +kernel, by decide +kernel⟩
abbrev st__law_near : Stmt := topS 18
theorem sc__law_near : FnScope ["_law_draws_here", "_law_sizes", "_law_note", "_law_near_here", "_law_way", "_law_at"] ["_law_draws_here", "_law_sizes", "_law_note"] (defScope st__law_near) := ⟨rfl, rfl, rfl, by decide +kernel, rfl, by decide +kernel, by decide +kernel⟩
abbrev st__law_digits : Stmt := topS 19
theorem sc__law_digits : FnScope ["_law_sizes", "_law_note", "_law_k"] ["_law_sizes", "_law_note"] (defScope st__law_digits) := ⟨rfl, rfl, rfl, by decide +kernel, rfl, by decide +kernel, by decide +kernel⟩
abbrev st__law_number : Stmt := topS 20
theorem sc__law_number : FnScope ["_law_sizes", "_law_note", "_law_number_here", "_law_k"] ["_law_sizes", "_law_note"] (defScope st__law_number) := ⟨rfl, rfl, rfl, by decide +kernel, rfl, by decide +kernel, by decide +kernel⟩
abbrev st__law_chosen_refused : Stmt := topS 21
theorem sc__law_chosen_refused : FnScope ["_law_lists", "_law_note", "e"] ["_law_lists", "_law_note"] (defScope st__law_chosen_refused) := ⟨rfl, rfl, rfl, by decide +kernel, rfl, by decide +kernel, by decide +kernel⟩
abbrev st__law_number_refused : Stmt := topS 22
theorem sc__law_number_refused : FnScope ["_law_sizes", "_law_note"] ["_law_sizes", "_law_note"] (defScope st__law_number_refused) := ⟨rfl, rfl, rfl, by decide +kernel, rfl, by decide +kernel, by decide +kernel⟩
abbrev st__law_numbered_refused : Stmt := topS 23
theorem sc__law_numbered_refused : FnScope ["_law_sizes", "_law_number_here"] ["_law_sizes", "_law_number_here"] (defScope st__law_numbered_refused) := ⟨rfl, rfl, rfl, by decide +kernel, rfl, by decide +kernel, by decide +kernel⟩
abbrev st__law_numbers_asked : Stmt := topS 24
theorem sc__law_numbers_asked : FnScope ["_law_draws_here", "_law_sizes", "_law_product", "_law_size", "_law_number_here", "_law_k", "_law_note", "_law_other", "_law_place", "_law_near_here", "_law_beyond", "_law_later"] ["_law_draws_here", "_law_sizes"] (defScope st__law_numbers_asked) := ⟨rfl, rfl, rfl, by decide +kernel, rfl, by decide +kernel, by decide +kernel⟩
abbrev st_law : Stmt := topS 25
theorem sc_law : FnScope ["_law_script", "_law_draws_here", "_law_lists", "_law_indexes", "_law_chosen", "_law_sizes", "_law_note", "_law_passed", "_law_items", "_law_digits_here", "_law_turn", "_law_near_here", "_law_wide", "_law_k", "_law_handed", "_law_told", "_law_made", "_law_found"] ["_law_script"] (defScope st_law) := ⟨rfl, rfl, rfl, by decide +kernel, rfl, by decide +kernel, by decide +kernel⟩
structure Tx (K : PySem.W.Frag) (mg : Str → Option Value) where
  f_sizes_of : Addr
  d_sizes_of : FuncData
  F_sizes_of : Fun K "sizes_of" "sizes_of" st_sizes_of f_sizes_of d_sizes_of
  B_sizes_of : Binds K d_sizes_of ["lists"] []
  g_sizes_of : mg "sizes_of" = some (.ref f_sizes_of)
  f_note_of : Addr
  d_note_of : FuncData
  F_note_of : Fun K "note_of" "note_of" st_note_of f_note_of d_note_of
  B_note_of : Binds K d_note_of ["lists", "chosen"] []
  g_note_of : mg "note_of" = some (.ref f_note_of)
  f_check_note : Addr
  d_check_note : FuncData
  F_check_note : Fun K "check_note" "check_note" st_check_note f_check_note d_check_note
  B_check_note : Binds K d_check_note ["sizes", "note"] []
  g_check_note : mg "check_note" = some (.ref f_check_note)
  f_chosen_by : Addr
  d_chosen_by : FuncData
  F_chosen_by : Fun K "chosen_by" "chosen_by" st_chosen_by f_chosen_by d_chosen_by
  B_chosen_by : Binds K d_chosen_by ["lists", "note"] []
  g_chosen_by : mg "chosen_by" = some (.ref f_chosen_by)
  f_product_of : Addr
  d_product_of : FuncData
  F_product_of : Fun K "product_of" "product_of" st_product_of f_product_of d_product_of
  B_product_of : Binds K d_product_of ["sizes"] []
  g_product_of : mg "product_of" = some (.ref f_product_of)
  f_note_number : Addr
  d_note_number : FuncData
  F_note_number : Fun K "note_number" "note_number" st_note_number f_note_number d_note_number
  B_note_number : Binds K d_note_number ["sizes", "note"] []
  g_note_number : mg "note_number" = some (.ref f_note_number)
  f_numbered_note : Addr
  d_numbered_note : FuncData
  F_numbered_note : Fun K "numbered_note" "numbered_note" st_numbered_note f_numbered_note d_numbered_note
  B_numbered_note : Binds K d_numbered_note ["sizes", "number"] []
  g_numbered_note : mg "numbered_note" = some (.ref f_numbered_note)
  f__law_draws : Addr
  d__law_draws : FuncData
  F__law_draws : Fun K "_law_draws" "_law_draws" st__law_draws f__law_draws d__law_draws
  B__law_draws : Binds K d__law_draws ["_law_script"] []
  g__law_draws : mg "_law_draws" = some (.ref f__law_draws)
  f__law_draw : Addr
  d__law_draw : FuncData
  F__law_draw : Fun K "_law_draw" "_law_draw" st__law_draw f__law_draw d__law_draw
  B__law_draw : Binds K d__law_draw ["_law_draws_here", "_law_many"] []
  g__law_draw : mg "_law_draw" = some (.ref f__law_draw)
  f__law_pick : Addr
  d__law_pick : FuncData
  F__law_pick : Fun K "_law_pick" "_law_pick" st__law_pick f__law_pick d__law_pick
  B__law_pick : Binds K d__law_pick ["_law_draws_here", "_law_things"] []
  g__law_pick : mg "_law_pick" = some (.ref f__law_pick)
  f__law_same : Addr
  d__law_same : FuncData
  F__law_same : Fun K "_law_same" "_law_same" st__law_same f__law_same d__law_same
  B__law_same : Binds K d__law_same ["_law_actual", "_law_due"] []
  g__law_same : mg "_law_same" = some (.ref f__law_same)
  f__law_list : Addr
  d__law_list : FuncData
  F__law_list : Fun K "_law_list" "_law_list" st__law_list f__law_list d__law_list
  B__law_list : Binds K d__law_list ["_law_draws_here"] []
  g__law_list : mg "_law_list" = some (.ref f__law_list)
  f__law_near : Addr
  d__law_near : FuncData
  F__law_near : Fun K "_law_near" "_law_near" st__law_near f__law_near d__law_near
  B__law_near : Binds K d__law_near ["_law_draws_here", "_law_sizes", "_law_note"] []
  g__law_near : mg "_law_near" = some (.ref f__law_near)
  f__law_digits : Addr
  d__law_digits : FuncData
  F__law_digits : Fun K "_law_digits" "_law_digits" st__law_digits f__law_digits d__law_digits
  B__law_digits : Binds K d__law_digits ["_law_sizes", "_law_note"] []
  g__law_digits : mg "_law_digits" = some (.ref f__law_digits)
  f__law_number : Addr
  d__law_number : FuncData
  F__law_number : Fun K "_law_number" "_law_number" st__law_number f__law_number d__law_number
  B__law_number : Binds K d__law_number ["_law_sizes", "_law_note"] []
  g__law_number : mg "_law_number" = some (.ref f__law_number)
  f__law_chosen_refused : Addr
  d__law_chosen_refused : FuncData
  F__law_chosen_refused : Fun K "_law_chosen_refused" "_law_chosen_refused" st__law_chosen_refused f__law_chosen_refused d__law_chosen_refused
  B__law_chosen_refused : Binds K d__law_chosen_refused ["_law_lists", "_law_note"] []
  g__law_chosen_refused : mg "_law_chosen_refused" = some (.ref f__law_chosen_refused)
  f__law_number_refused : Addr
  d__law_number_refused : FuncData
  F__law_number_refused : Fun K "_law_number_refused" "_law_number_refused" st__law_number_refused f__law_number_refused d__law_number_refused
  B__law_number_refused : Binds K d__law_number_refused ["_law_sizes", "_law_note"] []
  g__law_number_refused : mg "_law_number_refused" = some (.ref f__law_number_refused)
  f__law_numbered_refused : Addr
  d__law_numbered_refused : FuncData
  F__law_numbered_refused : Fun K "_law_numbered_refused" "_law_numbered_refused" st__law_numbered_refused f__law_numbered_refused d__law_numbered_refused
  B__law_numbered_refused : Binds K d__law_numbered_refused ["_law_sizes", "_law_number_here"] []
  g__law_numbered_refused : mg "_law_numbered_refused" = some (.ref f__law_numbered_refused)
  f__law_numbers_asked : Addr
  d__law_numbers_asked : FuncData
  F__law_numbers_asked : Fun K "_law_numbers_asked" "_law_numbers_asked" st__law_numbers_asked f__law_numbers_asked d__law_numbers_asked
  B__law_numbers_asked : Binds K d__law_numbers_asked ["_law_draws_here", "_law_sizes"] []
  g__law_numbers_asked : mg "_law_numbers_asked" = some (.ref f__law_numbers_asked)
  f_law : Addr
  d_law : FuncData
  F_law : Fun K "law" "law" st_law f_law d_law
  B_law : Binds K d_law ["_law_script"] []
  g_law : mg "law" = some (.ref f_law)
  f_FormroadsError : Addr
  g_FormroadsError : mg "FormroadsError" = some (.ref f_FormroadsError)
  f_InvalidNote : Addr
  g_InvalidNote : mg "InvalidNote" = some (.ref f_InvalidNote)
  f_Unreached : Addr
  g_Unreached : mg "Unreached" = some (.ref f_Unreached)
  x_InvalidNote : PySem.W.excIn K f_InvalidNote [.type "ValueError", .type "Exception", .type "BaseException", .type "object"] "ValueError.__new__" = true
  kp_InvalidNote : PySem.W.keepIn K (.ref f_InvalidNote) = true
  be_InvalidNote : PySem.W.subIn K (.ref f_InvalidNote) (.type "BaseException") = some true
  ty_InvalidNote : PySem.W.typeIn K (.ref f_InvalidNote) = some (.type "type")
  ex_FormroadsError : XTab K mg tab_FormroadsError (.ref f_FormroadsError)
  ex_InvalidNote : XTab K mg tab_InvalidNote (.ref f_InvalidNote)
  is_InvalidNote : KTab K mg tab_InvalidNote (.ref f_InvalidNote)
  is_Unreached : KTab K mg tab_Unreached (.ref f_Unreached)
  is_ValueError : KTab K mg tab_ValueError (.type "ValueError")
  z_ValueError : mg "ValueError" = none
  z_bool : mg "bool" = none
  z_divmod : mg "divmod" = none
  z_int : mg "int" = none
  z_isinstance : mg "isinstance" = none
  z_len : mg "len" = none
  z_list : mg "list" = none
  z_range : mg "range" = none
  z_reversed : mg "reversed" = none
  z_str : mg "str" = none
  z_tuple : mg "tuple" = none
  z_zip : mg "zip" = none
section
variable {P : Program} {w : World} {K : PySem.W.Frag} {mg : Str → Option Value} {base : Heap}
theorem ok_sizes_of (t : Tx K mg) : FnM P w K mg base 1 t.f_sizes_of t.d_sizes_of ["lists"] m_sizes_of :=
  fn_ok (k := 0) (body := b_sizes_of) t.F_sizes_of sc_sizes_of rfl (fun cdv A outer s H E hr tk hp =>
  (sb_one (ss_ret (se_lcE (own := [("items", 1)]) (vs := [1]) rfl sc_sizes_of.nd rfl (si_any (se_var (i := 0))) (blkOk_by (N := ["lists", "items"]) (sc := defScope st_sizes_of) (by decide +kernel)) (fun _ _ _ _ _ => (pg_name (i := 1) sc_sizes_of.nd rfl (by first | exact Or.inl rfl | exact Or.inr rfl))) gok_name (fun _ _ _ _ _ => (sts_one (st_cmp op_gt o_gt (se_callB cr_len o_len rfl t.z_len (by decide +kernel) (sa_cons (se_var (i := 1)) sa_nil)) se_int))) (fun _ _ _ _ _ => (se_callB cr_len o_len rfl t.z_len (by decide +kernel) (sa_cons (se_var (i := 1)) sa_nil)))))))
theorem ok_note_of (t : Tx K mg) : FnM P w K mg base 1 t.f_note_of t.d_note_of ["lists", "chosen"] m_note_of :=
  fn_ok (k := 0) (body := b_note_of) t.F_note_of sc_note_of rfl (fun cdv A outer s H E hr tk hp =>
  (sb_cons (ss_set (i := 2) sc_note_of.nd (se_lst sa_nil))
  (sb_cons (ss_for hp rfl (si_zip rfl t.z_zip (sa_cons (se_var (i := 0)) (sa_cons (se_var (i := 1)) sa_nil))) (sg_tup rfl (sgs_cons (sg_name (i := 3) sc_note_of.nd) (sgs_cons (sg_name (i := 4) sc_note_of.nd) sgs_nil))) (sb_one (ss_if (st_cmp op_gt o_gt (se_callB cr_len o_len rfl t.z_len (by decide +kernel) (sa_cons (se_var (i := 3)) sa_nil)) se_int) (sb_one (ss_expr (se_m mt_append o_append PySem.F.plainAttrs_list PySem.F.slot_list_append PySem.F.type_list_append (se_var (i := 2)) (sa_cons (se_m (mt_indexD (units65 hr)) o_indexL PySem.F.plainAttrs_list PySem.F.slot_list_index PySem.F.type_list_index (se_var (i := 3)) (sa_cons (se_var (i := 4)) sa_nil)) sa_nil)))) sb_nil)))
  (sb_one (ss_ret (se_var (i := 2)))))))
theorem ok_check_note (t : Tx K mg) : FnM P w K mg base 1 t.f_check_note t.d_check_note ["sizes", "note"] m_check_note :=
  fn_ok (k := 0) (body := b_check_note) t.F_check_note sc_check_note rfl (fun cdv A outer s H E hr tk hp =>
  (sb_cons (ss_if (st_cmp (op_ne2 hr.units) o_ne (se_callB cr_len o_len rfl t.z_len (by decide +kernel) (sa_cons (se_var (i := 1)) sa_nil)) (se_callB cr_len o_len rfl t.z_len (by decide +kernel) (sa_cons (se_var (i := 0)) sa_nil))) (sb_one (ss_raise rfl tk t.x_InvalidNote t.g_InvalidNote t.kp_InvalidNote t.be_InvalidNote t.ty_InvalidNote rfl)) sb_nil)
  (sb_one (ss_for hp rfl (si_zip rfl t.z_zip (sa_cons (se_var (i := 0)) (sa_cons (se_var (i := 1)) sa_nil))) (sg_tup rfl (sgs_cons (sg_name (i := 2) sc_check_note.nd) (sgs_cons (sg_name (i := 3) sc_check_note.nd) sgs_nil))) (sb_one (ss_if (st_not (st_chain op_le o_le (op_ltG hr.units) o_ltG se_int (se_var (i := 3)) (se_var (i := 2)))) (sb_one (ss_raise rfl tk t.x_InvalidNote t.g_InvalidNote t.kp_InvalidNote t.be_InvalidNote t.ty_InvalidNote rfl)) sb_nil))))))
theorem ok_chosen_by (t : Tx K mg) : FnM P w K mg base 2 t.f_chosen_by t.d_chosen_by ["lists", "note"] m_chosen_by :=
  fn_ok (k := 1) (body := b_chosen_by) t.F_chosen_by sc_chosen_by rfl (fun cdv A outer s H E hr tk hp =>
  (sb_cons (ss_expr (se_call (FnOk.mono (ok_check_note t) (by decide)) hr rfl t.g_check_note t.F_check_note.kp t.B_check_note tk (sa_cons (se_call (FnOk.mono (ok_sizes_of t) (by decide)) hr rfl t.g_sizes_of t.F_sizes_of.kp t.B_sizes_of tk (sa_cons (se_var (i := 0)) sa_nil) rfl (aCons_len aNil_len)) (sa_cons (se_var (i := 1)) sa_nil)) rfl (aCons_len (aCons_len aNil_len))))
  (sb_cons (ss_set (i := 2) sc_chosen_by.nd (se_callTy (cr_list rfl) o_list rfl t.z_list (by decide +kernel) (sa_cons (se_var (i := 1)) sa_nil)))
  (sb_cons (ss_set (i := 3) sc_chosen_by.nd (se_lst sa_nil))
  (sb_cons (ss_for hp rfl (si_any (se_var (i := 0))) (sg_name (i := 4) sc_chosen_by.nd) (sb_one (ss_if (st_cmp op_gt o_gt (se_callB cr_len o_len rfl t.z_len (by decide +kernel) (sa_cons (se_var (i := 4)) sa_nil)) se_int) (sb_one (ss_expr (se_m mt_append o_append PySem.F.plainAttrs_list PySem.F.slot_list_append PySem.F.type_list_append (se_var (i := 3)) (sa_cons (se_ix (se_var (i := 4)) (se_m mt_popAt o_popAt PySem.F.plainAttrs_list PySem.F.slot_list_pop PySem.F.type_list_pop (se_var (i := 2)) (sa_cons se_int sa_nil))) sa_nil)))) (sb_one (ss_expr (se_m mt_append o_append PySem.F.plainAttrs_list PySem.F.slot_list_append PySem.F.type_list_append (se_var (i := 3)) (sa_cons (se_ix (se_var (i := 4)) se_int) sa_nil)))))))
  (sb_one (ss_ret (se_var (i := 3)))))))))
theorem ok_product_of (t : Tx K mg) : FnM P w K mg base 1 t.f_product_of t.d_product_of ["sizes"] m_product_of :=
  fn_ok (k := 0) (body := b_product_of) t.F_product_of sc_product_of rfl (fun cdv A outer s H E hr tk hp =>
  (sb_cons (ss_set (i := 1) sc_product_of.nd se_int)
  (sb_cons (ss_for hp rfl (si_any (se_var (i := 0))) (sg_name (i := 2) sc_product_of.nd) (sb_one (ss_set (i := 1) sc_product_of.nd (se_op op_mul3 o_mul (se_var (i := 1)) (se_var (i := 2))))))
  (sb_one (ss_ret (se_var (i := 1)))))))
theorem ok_note_number (t : Tx K mg) : FnM P w K mg base 2 t.f_note_number t.d_note_number ["sizes", "note"] m_note_number :=
  fn_ok (k := 1) (body := b_note_number) t.F_note_number sc_note_number rfl (fun cdv A outer s H E hr tk hp =>
  (sb_cons (ss_expr (se_call (FnOk.mono (ok_check_note t) (by decide)) hr rfl t.g_check_note t.F_check_note.kp t.B_check_note tk (sa_cons (se_var (i := 0)) (sa_cons (se_var (i := 1)) sa_nil)) rfl (aCons_len (aCons_len aNil_len))))
  (sb_cons (ss_set (i := 2) sc_note_number.nd se_int)
  (sb_cons (ss_for hp rfl (si_zip rfl t.z_zip (sa_cons (se_var (i := 0)) (sa_cons (se_var (i := 1)) sa_nil))) (sg_tup rfl (sgs_cons (sg_name (i := 3) sc_note_number.nd) (sgs_cons (sg_name (i := 4) sc_note_number.nd) sgs_nil))) (sb_one (ss_set (i := 2) sc_note_number.nd (se_op op_add4 o_add (se_op op_mul3 o_mul (se_var (i := 2)) (se_var (i := 3))) (se_var (i := 4))))))
  (sb_one (ss_ret (se_var (i := 2))))))))
theorem ok_numbered_note (t : Tx K mg) : FnM P w K mg base 2 t.f_numbered_note t.d_numbered_note ["sizes", "number"] m_numbered_note :=
  fn_ok (k := 1) (body := b_numbered_note) t.F_numbered_note sc_numbered_note rfl (fun cdv A outer s H E hr tk hp =>
  (sb_cons (ss_if (st_not (st_chain op_le o_le (op_ltG hr.units) o_ltG se_int (se_var (i := 1)) (se_call (FnOk.mono (ok_product_of t) (by decide)) hr rfl t.g_product_of t.F_product_of.kp t.B_product_of tk (sa_cons (se_var (i := 0)) sa_nil) rfl (aCons_len aNil_len)))) (sb_one (ss_raise rfl tk t.x_InvalidNote t.g_InvalidNote t.kp_InvalidNote t.be_InvalidNote t.ty_InvalidNote rfl)) sb_nil)
  (sb_cons (ss_set (i := 2) sc_numbered_note.nd (se_lst sa_nil))
  (sb_cons (ss_for hp rfl (si_rev rfl t.z_reversed (se_callTy (cr_list rfl) o_list rfl t.z_list (by decide +kernel) (sa_cons (se_var (i := 0)) sa_nil))) (sg_name (i := 3) sc_numbered_note.nd) (sb_cons (ss_asg (se_callB cr_divmod o_divmod rfl t.z_divmod (by decide +kernel) (sa_cons (se_var (i := 1)) (sa_cons (se_var (i := 3)) sa_nil))) (sg_tup rfl (sgs_cons (sg_name (i := 1) sc_numbered_note.nd) (sgs_cons (sg_name (i := 4) sc_numbered_note.nd) sgs_nil))))
  (sb_one (ss_expr (se_m mt_append o_append PySem.F.plainAttrs_list PySem.F.slot_list_append PySem.F.type_list_append (se_var (i := 2)) (sa_cons (se_var (i := 4)) sa_nil))))))
  (sb_cons (ss_expr (se_m0 mt_reverse o_reverse PySem.F.plainAttrs_list PySem.F.slot_list_reverse PySem.F.type_list_reverse (se_var (i := 2))))
  (sb_one (ss_ret (se_var (i := 2)))))))))
theorem ok__law_draws (t : Tx K mg) : FnM P w K mg base 1 t.f__law_draws t.d__law_draws ["_law_script"] m__law_draws :=
  fn_ok (k := 0) (body := b__law_draws) t.F__law_draws sc__law_draws rfl (fun cdv A outer s H E hr tk hp =>
  (sb_cons (ss_set (i := 1) sc__law_draws.nd (se_lst sa_nil))
  (sb_cons (ss_for hp rfl (si_any (se_var (i := 0))) (sg_name (i := 2) sc__law_draws.nd) (sb_cons (ss_set (i := 3) sc__law_draws.nd (se_callTy cr_int o_int rfl t.z_int (by decide +kernel) (sa_cons (se_var (i := 2)) sa_nil)))
  (sb_one (ss_if (st_chain op_le o_le (op_ltG hr.units) o_ltG se_int (se_var (i := 3)) se_int) (sb_one (ss_expr (se_m mt_append o_append PySem.F.plainAttrs_list PySem.F.slot_list_append PySem.F.type_list_append (se_var (i := 1)) (sa_cons (se_var (i := 3)) sa_nil)))) (sb_one (ss_if (st_cmp op_ge o_ge (se_var (i := 3)) (se_op op_pow o_pow se_int se_int)) (sb_one (ss_for hp rfl (si_range1 rfl t.z_range (sa_cons se_int sa_nil)) (sg_name (i := 4) sc__law_draws.nd) (sb_one (ss_if (st_cmp op_gt o_gt (se_var (i := 3)) se_int) (sb_cons (ss_expr (se_m mt_append o_append PySem.F.plainAttrs_list PySem.F.slot_list_append PySem.F.type_list_append (se_var (i := 1)) (sa_cons (se_op op_modN o_mod (se_callTy cr_int o_int rfl t.z_int (by decide +kernel) (sa_cons (se_var (i := 3)) sa_nil)) se_int) sa_nil)))
  (sb_one (ss_set (i := 3) sc__law_draws.nd (se_op op_fdivN o_fdiv (se_var (i := 3)) se_int)))) sb_nil)))) (sb_cons (ss_set (i := 3) sc__law_draws.nd (se_op op_modN o_mod (se_callTy cr_int o_int rfl t.z_int (by decide +kernel) (sa_cons (se_op op_mul3 o_mul (se_var (i := 3)) se_int) sa_nil)) se_int))
  (sb_one (ss_for hp rfl (si_range1 rfl t.z_range (sa_cons se_int sa_nil)) (sg_name (i := 4) sc__law_draws.nd) (sb_cons (ss_set (i := 3) sc__law_draws.nd (se_op op_modN o_mod (se_callTy cr_int o_int rfl t.z_int (by decide +kernel) (sa_cons (se_op op_mul3 o_mul (se_var (i := 3)) se_int) sa_nil)) se_int))
  (sb_one (ss_expr (se_m mt_append o_append PySem.F.plainAttrs_list PySem.F.slot_list_append PySem.F.type_list_append (se_var (i := 1)) (sa_cons (se_op op_modN o_mod (se_callTy cr_int o_int rfl t.z_int (by decide +kernel) (sa_cons (se_op op_fdivN o_fdiv (se_var (i := 3)) se_int) sa_nil)) se_int) sa_nil))))))))))))))
  (sb_cons (ss_expr (se_m0 mt_reverse o_reverse PySem.F.plainAttrs_list PySem.F.slot_list_reverse PySem.F.type_list_reverse (se_var (i := 1))))
  (sb_one (ss_ret (se_var (i := 1))))))))
theorem ok__law_draw (t : Tx K mg) : FnM P w K mg base 1 t.f__law_draw t.d__law_draw ["_law_draws_here", "_law_many"] m__law_draw :=
  fn_ok (k := 0) (body := b__law_draw) t.F__law_draw sc__law_draw rfl (fun cdv A outer s H E hr tk hp =>
  (sb_cons (ss_if (st_cmp (op_eq2 hr.units) o_eq (se_callB cr_len o_len rfl t.z_len (by decide +kernel) (sa_cons (se_var (i := 0)) sa_nil)) se_int) (sb_one (ss_ret se_int)) sb_nil)
  (sb_one (ss_ret (se_op op_modN o_mod (se_callTy cr_int o_int rfl t.z_int (by decide +kernel) (sa_cons (se_m0 mt_pop o_pop PySem.F.plainAttrs_list PySem.F.slot_list_pop PySem.F.type_list_pop (se_var (i := 0))) sa_nil)) (se_var (i := 1)))))))
theorem ok__law_pick (t : Tx K mg) : FnM P w K mg base 2 t.f__law_pick t.d__law_pick ["_law_draws_here", "_law_things"] m__law_pick :=
  fn_ok (k := 1) (body := b__law_pick) t.F__law_pick sc__law_pick rfl (fun cdv A outer s H E hr tk hp =>
  (sb_one (ss_ret (se_ix (se_var (i := 1)) (se_call (FnOk.mono (ok__law_draw t) (by decide)) hr rfl t.g__law_draw t.F__law_draw.kp t.B__law_draw tk (sa_cons (se_var (i := 0)) (sa_cons (se_callB cr_len o_len rfl t.z_len (by decide +kernel) (sa_cons (se_var (i := 1)) sa_nil)) sa_nil)) rfl (aCons_len (aCons_len aNil_len)))))))
theorem ok__law_same (t : Tx K mg) : ∀ j, FnM P w K mg base (1 + j) t.f__law_same t.d__law_same ["_law_actual", "_law_due"] (m__law_same j)
  | 0 => fn_bad
  | j + 1 => by
    have ih := ok__law_same t j
    exact fn_ok (k := 1 + j) (body := b__law_same j (m__law_same j)) t.F__law_same sc__law_same rfl (fun cdv A outer s H E hr tk hp =>
  (sb_cons (ss_if (st_w (sw_or (st_val (se_callB call_isi o_isi rfl t.z_isinstance (by decide +kernel) (sa_cons (se_var (i := 1)) (sa_cons (se_ty (n := "bool") rfl t.z_bool (by decide +kernel)) sa_nil)))) (sw_or1 (st_val (se_callB call_isi o_isi rfl t.z_isinstance (by decide +kernel) (sa_cons (se_var (i := 0)) (sa_cons (se_ty (n := "bool") rfl t.z_bool (by decide +kernel)) sa_nil))))))) (sb_one (ss_ret (se_and (se_callB call_isi o_isi rfl t.z_isinstance (by decide +kernel) (sa_cons (se_var (i := 1)) (sa_cons (se_ty (n := "bool") rfl t.z_bool (by decide +kernel)) sa_nil))) (se_and (se_callB call_isi o_isi rfl t.z_isinstance (by decide +kernel) (sa_cons (se_var (i := 0)) (sa_cons (se_ty (n := "bool") rfl t.z_bool (by decide +kernel)) sa_nil))) (se_one (se_cmp (op_eq2 hr.units) o_eq (se_var (i := 0)) (se_var (i := 1)))))))) sb_nil)
  (sb_cons (ss_if (st_w (sw_or (st_cmp op_isN o_is (se_var (i := 1)) se_non) (sw_or1 (st_cmp op_isN o_is (se_var (i := 0)) se_non)))) (sb_one (ss_ret (se_and (se_cmp op_isN o_is (se_var (i := 1)) se_non) (se_one (se_cmp op_isN o_is (se_var (i := 0)) se_non))))) sb_nil)
  (sb_cons (ss_if (st_val (se_callB call_isi o_isi rfl t.z_isinstance (by decide +kernel) (sa_cons (se_var (i := 1)) (sa_cons (se_ty (n := "int") rfl t.z_int (by decide +kernel)) sa_nil)))) (sb_one (ss_ret (se_and (se_callB call_isi o_isi rfl t.z_isinstance (by decide +kernel) (sa_cons (se_var (i := 0)) (sa_cons (se_ty (n := "int") rfl t.z_int (by decide +kernel)) sa_nil))) (se_one (se_cmp (op_eq2 hr.units) o_eq (se_var (i := 0)) (se_var (i := 1))))))) sb_nil)
  (sb_cons (ss_if (st_val (se_callB call_isi o_isi rfl t.z_isinstance (by decide +kernel) (sa_cons (se_var (i := 1)) (sa_cons (se_ty (n := "str") rfl t.z_str (by decide +kernel)) sa_nil)))) (sb_one (ss_ret (se_and (se_callB call_isi o_isi rfl t.z_isinstance (by decide +kernel) (sa_cons (se_var (i := 0)) (sa_cons (se_ty (n := "str") rfl t.z_str (by decide +kernel)) sa_nil))) (se_one (se_cmp (op_eq2 hr.units) o_eq (se_var (i := 0)) (se_var (i := 1))))))) sb_nil)
  (sb_cons (ss_if (st_w (sw_and (st_val (se_callB call_isi o_isi rfl t.z_isinstance (by decide +kernel) (sa_cons (se_var (i := 1)) (sa_cons (se_ty (n := "tuple") rfl t.z_tuple (by decide +kernel)) sa_nil)))) (sw_and1 (st_not (st_val (se_callB call_isi o_isi rfl t.z_isinstance (by decide +kernel) (sa_cons (se_var (i := 0)) (sa_cons (se_ty (n := "tuple") rfl t.z_tuple (by decide +kernel)) sa_nil)))))))) (sb_one (ss_ret se_bl)) sb_nil)
  (sb_cons (ss_if (st_w (sw_and (st_val (se_callB call_isi o_isi rfl t.z_isinstance (by decide +kernel) (sa_cons (se_var (i := 1)) (sa_cons (se_ty (n := "list") rfl t.z_list (by decide +kernel)) sa_nil)))) (sw_and1 (st_not (st_val (se_callB call_isi o_isi rfl t.z_isinstance (by decide +kernel) (sa_cons (se_var (i := 0)) (sa_cons (se_ty (n := "list") rfl t.z_list (by decide +kernel)) sa_nil)))))))) (sb_one (ss_ret se_bl)) sb_nil)
  (sb_cons (ss_if (st_cmp (op_ne2 hr.units) o_ne (se_callB cr_len o_len rfl t.z_len (by decide +kernel) (sa_cons (se_var (i := 0)) sa_nil)) (se_callB cr_len o_len rfl t.z_len (by decide +kernel) (sa_cons (se_var (i := 1)) sa_nil))) (sb_one (ss_ret se_bl)) sb_nil)
  (sb_cons (ss_for hp rfl (si_range1 rfl t.z_range (sa_cons (se_callB cr_len o_len rfl t.z_len (by decide +kernel) (sa_cons (se_var (i := 1)) sa_nil)) sa_nil)) (sg_name (i := 2) sc__law_same.nd) (sb_one (ss_if (st_not (st_val (se_call (FnOk.mono ih (by omega)) hr rfl t.g__law_same t.F__law_same.kp t.B__law_same tk (sa_cons (se_ix (se_var (i := 0)) (se_var (i := 2))) (sa_cons (se_ix (se_var (i := 1)) (se_var (i := 2))) sa_nil)) rfl (aCons_len (aCons_len aNil_len))))) (sb_one (ss_ret se_bl)) sb_nil)))
  (sb_one (ss_ret se_bl)))))))))))
theorem ok__law_list (t : Tx K mg) : FnM P w K mg base 3 t.f__law_list t.d__law_list ["_law_draws_here"] m__law_list :=
  fn_ok (k := 2) (body := b__law_list) t.F__law_list sc__law_list rfl (fun cdv A outer s H E hr tk hp =>
  (sb_cons (ss_set (i := 1) sc__law_list.nd (se_call (FnOk.mono (ok__law_pick t) (by decide)) hr rfl t.g__law_pick t.F__law_pick.kp t.B__law_pick tk (sa_cons (se_var (i := 0)) (sa_cons (se_lst (sa_cons se_int (sa_cons se_int (sa_cons se_int (sa_cons se_int (sa_cons se_int sa_nil)))))) sa_nil)) rfl (aCons_len (aCons_len aNil_len))))
  (sb_cons (ss_set (i := 2) sc__law_list.nd (se_call (FnOk.mono (ok__law_draw t) (by decide)) hr rfl t.g__law_draw t.F__law_draw.kp t.B__law_draw tk (sa_cons (se_var (i := 0)) (sa_cons se_int sa_nil)) rfl (aCons_len (aCons_len aNil_len))))
  (sb_cons (ss_set (i := 3) sc__law_list.nd (se_op op_add4 o_add se_int (se_call (FnOk.mono (ok__law_draw t) (by decide)) hr rfl t.g__law_draw t.F__law_draw.kp t.B__law_draw tk (sa_cons (se_var (i := 0)) (sa_cons se_int sa_nil)) rfl (aCons_len (aCons_len aNil_len)))))
  (sb_cons (ss_set (i := 4) sc__law_list.nd (se_call (FnOk.mono (ok__law_draw t) (by decide)) hr rfl t.g__law_draw t.F__law_draw.kp t.B__law_draw tk (sa_cons (se_var (i := 0)) (sa_cons se_int sa_nil)) rfl (aCons_len (aCons_len aNil_len))))
  (sb_cons (ss_lc (i := 5) (own := [("_law_k", 6)]) (vs := [6]) rfl sc__law_list.nd rfl (si_range1 rfl t.z_range (sa_cons (se_var (i := 1)) sa_nil)) (blkOk_by (N := ["_law_draws_here", "_law_size", "_law_base", "_law_step", "_law_way", "_law_items", "_law_k", "_law_item"]) (sc := defScope st__law_list) (by decide +kernel)) (fun _ _ _ _ _ => (pg_name (i := 6) sc__law_list.nd rfl (by first | exact Or.inl rfl | exact Or.inr rfl))) gok_name (fun _ _ _ _ _ => sts_nil) (fun _ _ _ _ _ => (se_op op_add4 o_add (se_var (i := 2)) (se_op op_mul3 o_mul (se_var (i := 3)) (se_var (i := 6))))) rfl rfl (sw_true rfl rfl rfl (by decide +kernel)))
  (sb_cons (ss_if (st_cmp (op_eq2 hr.units) o_eq (se_var (i := 4)) se_int) (sb_one (ss_expr (se_m0 mt_reverse o_reverse PySem.F.plainAttrs_list PySem.F.slot_list_reverse PySem.F.type_list_reverse (se_var (i := 5))))) sb_nil)
  (sb_cons (ss_if (st_cmp (op_eq2 hr.units) o_eq (se_var (i := 4)) se_int) (sb_one (ss_lc (i := 5) (own := [("_law_item", 7)]) (vs := [7]) rfl sc__law_list.nd rfl (si_any (se_var (i := 5))) (blkOk_by (N := ["_law_draws_here", "_law_size", "_law_base", "_law_step", "_law_way", "_law_items", "_law_k", "_law_item"]) (sc := defScope st__law_list) (by decide +kernel)) (fun _ _ _ _ _ => (pg_name (i := 7) sc__law_list.nd rfl (by first | exact Or.inl rfl | exact Or.inr rfl))) gok_name (fun _ _ _ _ _ => sts_nil) (fun _ _ _ _ _ => (se_tup (sa_cons se_str (sa_cons (se_var (i := 7)) sa_nil)))) rfl rfl (sw_true rfl rfl rfl (by decide +kernel)))) sb_nil)
  (sb_cons (ss_if (st_cmp (op_eq2 hr.units) o_eq (se_var (i := 4)) se_int) (sb_one (ss_lc (i := 5) (own := [("_law_item", 7)]) (vs := [7]) rfl sc__law_list.nd rfl (si_any (se_var (i := 5))) (blkOk_by (N := ["_law_draws_here", "_law_size", "_law_base", "_law_step", "_law_way", "_law_items", "_law_k", "_law_item"]) (sc := defScope st__law_list) (by decide +kernel)) (fun _ _ _ _ _ => (pg_name (i := 7) sc__law_list.nd rfl (by first | exact Or.inl rfl | exact Or.inr rfl))) gok_name (fun _ _ _ _ _ => sts_nil) (fun _ _ _ _ _ => (se_callTy cr_str o_str rfl t.z_str (by decide +kernel) (sa_cons (se_var (i := 7)) sa_nil))) rfl rfl (sw_true rfl rfl rfl (by decide +kernel)))) sb_nil)
  (sb_one (ss_ret (se_var (i := 5)))))))))))))
theorem ok__law_near (t : Tx K mg) : FnM P w K mg base 2 t.f__law_near t.d__law_near ["_law_draws_here", "_law_sizes", "_law_note"] m__law_near :=
  fn_ok (k := 1) (body := b__law_near) t.F__law_near sc__law_near rfl (fun cdv A outer s H E hr tk hp =>
  (sb_cons (ss_set (i := 3) sc__law_near.nd (se_callTy (cr_list rfl) o_list rfl t.z_list (by decide +kernel) (sa_cons (se_var (i := 2)) sa_nil)))
  (sb_cons (ss_set (i := 4) sc__law_near.nd (se_call (FnOk.mono (ok__law_draw t) (by decide)) hr rfl t.g__law_draw t.F__law_draw.kp t.B__law_draw tk (sa_cons (se_var (i := 0)) (sa_cons se_int sa_nil)) rfl (aCons_len (aCons_len aNil_len))))
  (sb_cons (ss_set (i := 5) sc__law_near.nd (se_call (FnOk.mono (ok__law_draw t) (by decide)) hr rfl t.g__law_draw t.F__law_draw.kp t.B__law_draw tk (sa_cons (se_var (i := 0)) (sa_cons (se_op op_add4 o_add (se_callB cr_len o_len rfl t.z_len (by decide +kernel) (sa_cons (se_var (i := 3)) sa_nil)) se_int) sa_nil)) rfl (aCons_len (aCons_len aNil_len))))
  (sb_cons (ss_if (st_cmp (op_eq2 hr.units) o_eq (se_var (i := 4)) se_int) (sb_one (ss_expr (se_m m_insert o_insert PySem.F.plainAttrs_list PySem.F.slot_list_insert PySem.F.type_list_insert (se_var (i := 3)) (sa_cons (se_var (i := 5)) (sa_cons se_int sa_nil))))) (sb_one (ss_if (st_cmp (op_ltG hr.units) o_ltG (se_var (i := 5)) (se_callB cr_len o_len rfl t.z_len (by decide +kernel) (sa_cons (se_var (i := 3)) sa_nil))) (sb_one (ss_if (st_cmp (op_eq2 hr.units) o_eq (se_var (i := 4)) se_int) (sb_one (ss_expr (se_m mt_popAt o_popAt PySem.F.plainAttrs_list PySem.F.slot_list_pop PySem.F.type_list_pop (se_var (i := 3)) (sa_cons (se_var (i := 5)) sa_nil)))) (sb_one (ss_if (st_cmp (op_eq2 hr.units) o_eq (se_var (i := 4)) se_int) (sb_one (ss_setIx (se_op op_sub o_sub (se_un un_neg o_neg se_int) (se_call (FnOk.mono (ok__law_draw t) (by decide)) hr rfl t.g__law_draw t.F__law_draw.kp t.B__law_draw tk (sa_cons (se_var (i := 0)) (sa_cons se_int sa_nil)) rfl (aCons_len (aCons_len aNil_len)))) (se_var (i := 3)) (se_var (i := 5)))) (sb_one (ss_if (st_cmp (op_eq2 hr.units) o_eq (se_var (i := 4)) se_int) (sb_one (ss_setIx (se_op op_add4 o_add (se_ix (se_var (i := 1)) (se_var (i := 5))) (se_call (FnOk.mono (ok__law_draw t) (by decide)) hr rfl t.g__law_draw t.F__law_draw.kp t.B__law_draw tk (sa_cons (se_var (i := 0)) (sa_cons se_int sa_nil)) rfl (aCons_len (aCons_len aNil_len)))) (se_var (i := 3)) (se_var (i := 5)))) (sb_one (ss_setIx (se_op op_sub o_sub (se_ix (se_var (i := 1)) (se_var (i := 5))) se_int) (se_var (i := 3)) (se_var (i := 5)))))))))) sb_nil)))
  (sb_one (ss_ret (se_var (i := 3)))))))))
theorem ok__law_digits (t : Tx K mg) : FnM P w K mg base 1 t.f__law_digits t.d__law_digits ["_law_sizes", "_law_note"] m__law_digits :=
  fn_ok (k := 0) (body := b__law_digits) t.F__law_digits sc__law_digits rfl (fun cdv A outer s H E hr tk hp =>
  (sb_cons (ss_if (st_w (sw_or (st_not (st_val (se_callB call_isi o_isi rfl t.z_isinstance (by decide +kernel) (sa_cons (se_var (i := 1)) (sa_cons (se_ty (n := "list") rfl t.z_list (by decide +kernel)) sa_nil))))) (sw_or1 (st_cmp (op_ne2 hr.units) o_ne (se_callB cr_len o_len rfl t.z_len (by decide +kernel) (sa_cons (se_var (i := 1)) sa_nil)) (se_callB cr_len o_len rfl t.z_len (by decide +kernel) (sa_cons (se_var (i := 0)) sa_nil)))))) (sb_one (ss_ret se_bl)) sb_nil)
  (sb_cons (ss_for hp rfl (si_range1 rfl t.z_range (sa_cons (se_callB cr_len o_len rfl t.z_len (by decide +kernel) (sa_cons (se_var (i := 0)) sa_nil)) sa_nil)) (sg_name (i := 2) sc__law_digits.nd) (sb_cons (ss_if (st_w (sw_or (st_not (st_val (se_callB call_isi o_isi rfl t.z_isinstance (by decide +kernel) (sa_cons (se_ix (se_var (i := 1)) (se_var (i := 2))) (sa_cons (se_ty (n := "int") rfl t.z_int (by decide +kernel)) sa_nil))))) (sw_or1 (st_val (se_callB call_isi o_isi rfl t.z_isinstance (by decide +kernel) (sa_cons (se_ix (se_var (i := 1)) (se_var (i := 2))) (sa_cons (se_ty (n := "bool") rfl t.z_bool (by decide +kernel)) sa_nil))))))) (sb_one (ss_ret se_bl)) sb_nil)
  (sb_one (ss_if (st_w (sw_or (st_cmp (op_ltG hr.units) o_ltG (se_ix (se_var (i := 1)) (se_var (i := 2))) se_int) (sw_or1 (st_cmp op_ge o_ge (se_ix (se_var (i := 1)) (se_var (i := 2))) (se_ix (se_var (i := 0)) (se_var (i := 2))))))) (sb_one (ss_ret se_bl)) sb_nil))))
  (sb_one (ss_ret se_bl)))))
theorem ok__law_number (t : Tx K mg) : FnM P w K mg base 1 t.f__law_number t.d__law_number ["_law_sizes", "_law_note"] m__law_number :=
  fn_ok (k := 0) (body := b__law_number) t.F__law_number sc__law_number rfl (fun cdv A outer s H E hr tk hp =>
  (sb_cons (ss_set (i := 2) sc__law_number.nd se_int)
  (sb_cons (ss_for hp rfl (si_range1 rfl t.z_range (sa_cons (se_callB cr_len o_len rfl t.z_len (by decide +kernel) (sa_cons (se_var (i := 0)) sa_nil)) sa_nil)) (sg_name (i := 3) sc__law_number.nd) (sb_one (ss_set (i := 2) sc__law_number.nd (se_op op_add4 o_add (se_op op_mul3 o_mul (se_var (i := 2)) (se_ix (se_var (i := 0)) (se_var (i := 3)))) (se_ix (se_var (i := 1)) (se_var (i := 3)))))))
  (sb_one (ss_ret (se_var (i := 2)))))))
theorem ok__law_chosen_refused (t : Tx K mg) : FnM P w K mg base 3 t.f__law_chosen_refused t.d__law_chosen_refused ["_law_lists", "_law_note"] m__law_chosen_refused :=
  fn_ok (k := 2) (body := b__law_chosen_refused) t.F__law_chosen_refused sc__law_chosen_refused rfl (fun cdv A outer s H E hr tk hp =>
  (sb_cons (ss_tryAs (i := 2) sc__law_chosen_refused.nd rfl ⟨rfl, by decide, .inl t.g_FormroadsError⟩ tk t.ex_FormroadsError (fun W1 pn1 xe1 tk1 hp1 => (sb_one (ss_expr (se_call (FnOk.mono (ok_chosen_by t) (by decide)) hr rfl t.g_chosen_by t.F_chosen_by.kp t.B_chosen_by tk1 (sa_cons (se_var (i := 0)) (sa_cons (se_var (i := 1)) sa_nil)) rfl (aCons_len (aCons_len aNil_len)))))) (fun a oe A d pn c dd hz0 hfl hl hA hd => by
    cases dd with
    | some _ => exact sb_bad
    | none =>
      cases hd rfl
      have hz := hz0
      exact (sb_one (ss_ret (se_and (se_isX (A := A) hz hfl hA t.is_InvalidNote (pe_glob (v := .ref t.f_InvalidNote) rfl t.g_InvalidNote rfl) (fun _ h => h) rfl t.z_isinstance) (se_and (se_isX (A := A) hz hfl hA t.is_ValueError (pe_bltn (v := .ty "ValueError") rfl t.z_ValueError (by decide +kernel) rfl) (fun _ h => h) rfl t.z_isinstance) (se_one (se_not (se_isX (A := A) hz hfl hA t.is_Unreached (pe_glob (v := .ref t.f_Unreached) rfl t.g_Unreached rfl) (fun _ h => h) rfl t.z_isinstance)))))))))
  (sb_one (ss_ret se_bl))))
theorem ok__law_number_refused (t : Tx K mg) : FnM P w K mg base 3 t.f__law_number_refused t.d__law_number_refused ["_law_sizes", "_law_note"] m__law_number_refused :=
  fn_ok (k := 2) (body := b__law_number_refused) t.F__law_number_refused sc__law_number_refused rfl (fun cdv A outer s H E hr tk hp =>
  (sb_cons (ss_try rfl ⟨rfl, by decide, .inl t.g_InvalidNote⟩ tk t.ex_InvalidNote (fun W1 pn1 xe1 tk1 hp1 => (sb_one (ss_expr (se_call (FnOk.mono (ok_note_number t) (by decide)) hr rfl t.g_note_number t.F_note_number.kp t.B_note_number tk1 (sa_cons (se_var (i := 0)) (sa_cons (se_var (i := 1)) sa_nil)) rfl (aCons_len (aCons_len aNil_len)))))) (fun a oe A d pn c dd hz hfl hl hA => (sb_one (ss_ret se_bl))))
  (sb_one (ss_ret se_bl))))
theorem ok__law_numbered_refused (t : Tx K mg) : FnM P w K mg base 3 t.f__law_numbered_refused t.d__law_numbered_refused ["_law_sizes", "_law_number_here"] m__law_numbered_refused :=
  fn_ok (k := 2) (body := b__law_numbered_refused) t.F__law_numbered_refused sc__law_numbered_refused rfl (fun cdv A outer s H E hr tk hp =>
  (sb_cons (ss_try rfl ⟨rfl, by decide, .inl t.g_InvalidNote⟩ tk t.ex_InvalidNote (fun W1 pn1 xe1 tk1 hp1 => (sb_one (ss_expr (se_call (FnOk.mono (ok_numbered_note t) (by decide)) hr rfl t.g_numbered_note t.F_numbered_note.kp t.B_numbered_note tk1 (sa_cons (se_var (i := 0)) (sa_cons (se_var (i := 1)) sa_nil)) rfl (aCons_len (aCons_len aNil_len)))))) (fun a oe A d pn c dd hz hfl hl hA => (sb_one (ss_ret se_bl))))
  (sb_one (ss_ret se_bl))))
theorem ok__law_numbers_asked (t : Tx K mg) : FnM P w K mg base 6 t.f__law_numbers_asked t.d__law_numbers_asked ["_law_draws_here", "_law_sizes"] m__law_numbers_asked :=
  fn_ok (k := 5) (body := b__law_numbers_asked) t.F__law_numbers_asked sc__law_numbers_asked rfl (fun cdv A outer s H E hr tk hp =>
  (sb_cons (ss_set (i := 2) sc__law_numbers_asked.nd se_int)
  (sb_cons (ss_for hp rfl (si_any (se_var (i := 1))) (sg_name (i := 3) sc__law_numbers_asked.nd) (sb_one (ss_set (i := 2) sc__law_numbers_asked.nd (se_op op_mul3 o_mul (se_var (i := 2)) (se_var (i := 3))))))
  (sb_cons (ss_set (i := 4) sc__law_numbers_asked.nd se_int)
  (sb_cons (ss_for hp rfl (si_range1 rfl t.z_range (sa_cons se_int sa_nil)) (sg_name (i := 5) sc__law_numbers_asked.nd) (sb_one (ss_set (i := 4) sc__law_numbers_asked.nd (se_op op_add4 o_add (se_op op_mul3 o_mul (se_var (i := 4)) se_int) (se_call (FnOk.mono (ok__law_draw t) (by decide)) hr rfl t.g__law_draw t.F__law_draw.kp t.B__law_draw tk (sa_cons (se_var (i := 0)) (sa_cons se_int sa_nil)) rfl (aCons_len (aCons_len aNil_len)))))))
  (sb_cons (ss_set (i := 4) sc__law_numbers_asked.nd (se_op op_modN o_mod (se_callTy cr_int o_int rfl t.z_int (by decide +kernel) (sa_cons (se_var (i := 4)) sa_nil)) (se_var (i := 2))))
  (sb_cons (ss_set (i := 6) sc__law_numbers_asked.nd (se_call (FnOk.mono (ok_numbered_note t) (by decide)) hr rfl t.g_numbered_note t.F_numbered_note.kp t.B_numbered_note tk (sa_cons (se_var (i := 1)) (sa_cons (se_var (i := 4)) sa_nil)) rfl (aCons_len (aCons_len aNil_len))))
  (sb_cons (ss_if (st_w (sw_or (st_not (st_val (se_call (FnOk.mono (ok__law_digits t) (by decide)) hr rfl t.g__law_digits t.F__law_digits.kp t.B__law_digits tk (sa_cons (se_var (i := 1)) (sa_cons (se_var (i := 6)) sa_nil)) rfl (aCons_len (aCons_len aNil_len))))) (sw_or1 (st_cmp (op_ne2 hr.units) o_ne (se_call (FnOk.mono (ok__law_number t) (by decide)) hr rfl t.g__law_number t.F__law_number.kp t.B__law_number tk (sa_cons (se_var (i := 1)) (sa_cons (se_var (i := 6)) sa_nil)) rfl (aCons_len (aCons_len aNil_len))) (se_var (i := 4)))))) (sb_one (ss_ret se_bl)) sb_nil)
  (sb_cons (ss_if (st_not (st_val (se_call (FnOk.mono (ok__law_same t 4) (by decide)) hr rfl t.g__law_same t.F__law_same.kp t.B__law_same tk (sa_cons (se_call (FnOk.mono (ok_note_number t) (by decide)) hr rfl t.g_note_number t.F_note_number.kp t.B_note_number tk (sa_cons (se_var (i := 1)) (sa_cons (se_callTy (cr_list rfl) o_list rfl t.z_list (by decide +kernel) (sa_cons (se_var (i := 6)) sa_nil)) sa_nil)) rfl (aCons_len (aCons_len aNil_len))) (sa_cons (se_var (i := 4)) sa_nil)) rfl (aCons_len (aCons_len aNil_len))))) (sb_one (ss_ret se_bl)) sb_nil)
  (sb_cons (ss_if (st_cmp (op_ltG hr.units) o_ltG (se_op op_add4 o_add (se_var (i := 4)) se_int) (se_var (i := 2))) (sb_cons (ss_set (i := 11) sc__law_numbers_asked.nd (se_call (FnOk.mono (ok_numbered_note t) (by decide)) hr rfl t.g_numbered_note t.F_numbered_note.kp t.B_numbered_note tk (sa_cons (se_var (i := 1)) (sa_cons (se_op op_add4 o_add (se_var (i := 4)) se_int) sa_nil)) rfl (aCons_len (aCons_len aNil_len))))
  (sb_one (ss_if (st_w (sw_or (st_not (st_val (se_call (FnOk.mono (ok__law_digits t) (by decide)) hr rfl t.g__law_digits t.F__law_digits.kp t.B__law_digits tk (sa_cons (se_var (i := 1)) (sa_cons (se_var (i := 11)) sa_nil)) rfl (aCons_len (aCons_len aNil_len))))) (sw_or1 (st_not (st_cmp (op_ltG hr.units) o_ltG (se_var (i := 6)) (se_var (i := 11))))))) (sb_one (ss_ret se_bl)) sb_nil))) sb_nil)
  (sb_cons (ss_lc (i := 7) (own := [("_law_size", 3)]) (vs := [3]) rfl sc__law_numbers_asked.nd rfl (si_any (se_var (i := 1))) (blkOk_by (N := ["_law_draws_here", "_law_sizes", "_law_product", "_law_size", "_law_number_here", "_law_k", "_law_note", "_law_other", "_law_place", "_law_near_here", "_law_beyond", "_law_later"]) (sc := defScope st__law_numbers_asked) (by decide +kernel)) (fun _ _ _ _ _ => (pg_name (i := 3) sc__law_numbers_asked.nd rfl (by first | exact Or.inl rfl | exact Or.inr rfl))) gok_name (fun _ _ _ _ _ => sts_nil) (fun _ _ _ _ _ => (se_call (FnOk.mono (ok__law_draw t) (by decide)) hr rfl t.g__law_draw t.F__law_draw.kp t.B__law_draw takes0 (sa_cons (se_var (i := 0)) (sa_cons (se_var (i := 3)) sa_nil)) rfl (aCons_len (aCons_len aNil_len)))) rfl rfl (sw_true rfl rfl rfl (by decide +kernel)))
  (sb_cons (ss_set (i := 8) sc__law_numbers_asked.nd (se_call (FnOk.mono (ok_note_number t) (by decide)) hr rfl t.g_note_number t.F_note_number.kp t.B_note_number tk (sa_cons (se_var (i := 1)) (sa_cons (se_callTy (cr_list rfl) o_list rfl t.z_list (by decide +kernel) (sa_cons (se_var (i := 7)) sa_nil)) sa_nil)) rfl (aCons_len (aCons_len aNil_len))))
  (sb_cons (ss_if (st_w (sw_or (st_not (st_val (se_call (FnOk.mono (ok__law_same t 4) (by decide)) hr rfl t.g__law_same t.F__law_same.kp t.B__law_same tk (sa_cons (se_var (i := 8)) (sa_cons (se_call (FnOk.mono (ok__law_number t) (by decide)) hr rfl t.g__law_number t.F__law_number.kp t.B__law_number tk (sa_cons (se_var (i := 1)) (sa_cons (se_var (i := 7)) sa_nil)) rfl (aCons_len (aCons_len aNil_len))) sa_nil)) rfl (aCons_len (aCons_len aNil_len))))) (sw_or1 (st_cmp (op_ne2 hr.units) o_ne (se_cmp (op_ltG hr.units) o_ltG (se_var (i := 7)) (se_var (i := 6))) (se_cmp (op_ltG hr.units) o_ltG (se_var (i := 8)) (se_var (i := 4))))))) (sb_one (ss_ret se_bl)) sb_nil)
  (sb_cons (ss_set (i := 9) sc__law_numbers_asked.nd (se_call (FnOk.mono (ok__law_near t) (by decide)) hr rfl t.g__law_near t.F__law_near.kp t.B__law_near tk (sa_cons (se_var (i := 0)) (sa_cons (se_var (i := 1)) (sa_cons (se_var (i := 7)) sa_nil))) rfl (aCons_len (aCons_len (aCons_len aNil_len)))))
  (sb_cons (ss_if (st_not (st_val (se_call (FnOk.mono (ok__law_digits t) (by decide)) hr rfl t.g__law_digits t.F__law_digits.kp t.B__law_digits tk (sa_cons (se_var (i := 1)) (sa_cons (se_var (i := 9)) sa_nil)) rfl (aCons_len (aCons_len aNil_len))))) (sb_one (ss_if (st_not (st_val (se_call (FnOk.mono (ok__law_number_refused t) (by decide)) hr rfl t.g__law_number_refused t.F__law_number_refused.kp t.B__law_number_refused tk (sa_cons (se_var (i := 1)) (sa_cons (se_callTy (cr_list rfl) o_list rfl t.z_list (by decide +kernel) (sa_cons (se_var (i := 9)) sa_nil)) sa_nil)) rfl (aCons_len (aCons_len aNil_len))))) (sb_one (ss_ret se_bl)) sb_nil)) (sb_one (ss_if (st_not (st_val (se_call (FnOk.mono (ok__law_same t 4) (by decide)) hr rfl t.g__law_same t.F__law_same.kp t.B__law_same tk (sa_cons (se_call (FnOk.mono (ok_numbered_note t) (by decide)) hr rfl t.g_numbered_note t.F_numbered_note.kp t.B_numbered_note tk (sa_cons (se_var (i := 1)) (sa_cons (se_call (FnOk.mono (ok_note_number t) (by decide)) hr rfl t.g_note_number t.F_note_number.kp t.B_note_number tk (sa_cons (se_var (i := 1)) (sa_cons (se_callTy (cr_list rfl) o_list rfl t.z_list (by decide +kernel) (sa_cons (se_var (i := 9)) sa_nil)) sa_nil)) rfl (aCons_len (aCons_len aNil_len))) sa_nil)) rfl (aCons_len (aCons_len aNil_len))) (sa_cons (se_var (i := 9)) sa_nil)) rfl (aCons_len (aCons_len aNil_len))))) (sb_one (ss_ret se_bl)) sb_nil)))
  (sb_cons (ss_for hp rfl (si_any (se_lst (sa_cons (se_var (i := 2)) (sa_cons (se_op op_add4 o_add (se_var (i := 2)) (se_var (i := 4))) (sa_cons (se_un un_neg o_neg se_int) (sa_cons (se_op op_sub o_sub (se_un un_neg o_neg se_int) (se_var (i := 4))) sa_nil)))))) (sg_name (i := 10) sc__law_numbers_asked.nd) (sb_one (ss_if (st_not (st_val (se_call (FnOk.mono (ok__law_numbered_refused t) (by decide)) hr rfl t.g__law_numbered_refused t.F__law_numbered_refused.kp t.B__law_numbered_refused tk (sa_cons (se_var (i := 1)) (sa_cons (se_var (i := 10)) sa_nil)) rfl (aCons_len (aCons_len aNil_len))))) (sb_one (ss_ret se_bl)) sb_nil)))
  (sb_cons (ss_if (st_not (st_val (se_call (FnOk.mono (ok__law_same t 4) (by decide)) hr rfl t.g__law_same t.F__law_same.kp t.B__law_same tk (sa_cons (se_call (FnOk.mono (ok_numbered_note t) (by decide)) hr rfl t.g_numbered_note t.F_numbered_note.kp t.B_numbered_note tk (sa_cons (se_var (i := 1)) (sa_cons se_int sa_nil)) rfl (aCons_len (aCons_len aNil_len))) (sa_cons (se_lcE (own := [("_law_size", 3)]) (vs := [3]) rfl sc__law_numbers_asked.nd rfl (si_any (se_var (i := 1))) (blkOk_by (N := ["_law_draws_here", "_law_sizes", "_law_product", "_law_size", "_law_number_here", "_law_k", "_law_note", "_law_other", "_law_place", "_law_near_here", "_law_beyond", "_law_later"]) (sc := defScope st__law_numbers_asked) (by decide +kernel)) (fun _ _ _ _ _ => (pg_name (i := 3) sc__law_numbers_asked.nd rfl (by first | exact Or.inl rfl | exact Or.inr rfl))) gok_name (fun _ _ _ _ _ => sts_nil) (fun _ _ _ _ _ => se_int)) sa_nil)) rfl (aCons_len (aCons_len aNil_len))))) (sb_one (ss_ret se_bl)) sb_nil)
  (sb_one (ss_ret (se_call (FnOk.mono (ok__law_same t 4) (by decide)) hr rfl t.g__law_same t.F__law_same.kp t.B__law_same tk (sa_cons (se_call (FnOk.mono (ok_numbered_note t) (by decide)) hr rfl t.g_numbered_note t.F_numbered_note.kp t.B_numbered_note tk (sa_cons (se_var (i := 1)) (sa_cons (se_op op_sub o_sub (se_var (i := 2)) se_int) sa_nil)) rfl (aCons_len (aCons_len aNil_len))) (sa_cons (se_lcE (own := [("_law_size", 3)]) (vs := [3]) rfl sc__law_numbers_asked.nd rfl (si_any (se_var (i := 1))) (blkOk_by (N := ["_law_draws_here", "_law_sizes", "_law_product", "_law_size", "_law_number_here", "_law_k", "_law_note", "_law_other", "_law_place", "_law_near_here", "_law_beyond", "_law_later"]) (sc := defScope st__law_numbers_asked) (by decide +kernel)) (fun _ _ _ _ _ => (pg_name (i := 3) sc__law_numbers_asked.nd rfl (by first | exact Or.inl rfl | exact Or.inr rfl))) gok_name (fun _ _ _ _ _ => sts_nil) (fun _ _ _ _ _ => (se_op op_sub o_sub (se_var (i := 3)) se_int))) sa_nil)) rfl (aCons_len (aCons_len aNil_len))))))))))))))))))))))
theorem ok_law (t : Tx K mg) : FnM P w K mg base 7 t.f_law t.d_law ["_law_script"] m_law :=
  fn_ok (k := 6) (body := b_law) t.F_law sc_law rfl (fun cdv A outer s H E hr tk hp =>
  (sb_cons (ss_set (i := 1) sc_law.nd (se_call (FnOk.mono (ok__law_draws t) (by decide)) hr rfl t.g__law_draws t.F__law_draws.kp t.B__law_draws tk (sa_cons (se_var (i := 0)) sa_nil) rfl (aCons_len aNil_len)))
  (sb_cons (ss_set (i := 2) sc_law.nd (se_lcE (own := [("_law_k", 13)]) (vs := [13]) rfl sc_law.nd rfl (si_range1 rfl t.z_range (sa_cons (se_call (FnOk.mono (ok__law_pick t) (by decide)) hr rfl t.g__law_pick t.F__law_pick.kp t.B__law_pick tk (sa_cons (se_var (i := 1)) (sa_cons (se_lst (sa_cons se_int (sa_cons se_int (sa_cons se_int (sa_cons se_int (sa_cons se_int (sa_cons se_int (sa_cons se_int sa_nil)))))))) sa_nil)) rfl (aCons_len (aCons_len aNil_len))) sa_nil)) (blkOk_by (N := ["_law_script", "_law_draws_here", "_law_lists", "_law_indexes", "_law_chosen", "_law_sizes", "_law_note", "_law_passed", "_law_items", "_law_digits_here", "_law_turn", "_law_near_here", "_law_wide", "_law_k", "_law_handed", "_law_told", "_law_made", "_law_found"]) (sc := defScope st_law) (by decide +kernel)) (fun _ _ _ _ _ => (pg_name (i := 13) sc_law.nd rfl (by first | exact Or.inl rfl | exact Or.inr rfl))) gok_name (fun _ _ _ _ _ => sts_nil) (fun _ _ _ _ _ => (se_call (FnOk.mono (ok__law_list t) (by decide)) hr rfl t.g__law_list t.F__law_list.kp t.B__law_list takes0 (sa_cons (se_var (i := 1)) sa_nil) rfl (aCons_len aNil_len)))))
  (sb_cons (ss_set (i := 3) sc_law.nd (se_lcE (own := [("_law_items", 8)]) (vs := [8]) rfl sc_law.nd rfl (si_any (se_var (i := 2))) (blkOk_by (N := ["_law_script", "_law_draws_here", "_law_lists", "_law_indexes", "_law_chosen", "_law_sizes", "_law_note", "_law_passed", "_law_items", "_law_digits_here", "_law_turn", "_law_near_here", "_law_wide", "_law_k", "_law_handed", "_law_told", "_law_made", "_law_found"]) (sc := defScope st_law) (by decide +kernel)) (fun _ _ _ _ _ => (pg_name (i := 8) sc_law.nd rfl (by first | exact Or.inl rfl | exact Or.inr rfl))) gok_name (fun _ _ _ _ _ => sts_nil) (fun _ _ _ _ _ => (se_call (FnOk.mono (ok__law_draw t) (by decide)) hr rfl t.g__law_draw t.F__law_draw.kp t.B__law_draw takes0 (sa_cons (se_var (i := 1)) (sa_cons (se_callB cr_len o_len rfl t.z_len (by decide +kernel) (sa_cons (se_var (i := 8)) sa_nil)) sa_nil)) rfl (aCons_len (aCons_len aNil_len))))))
  (sb_cons (ss_lc (i := 4) (own := [("_law_k", 13)]) (vs := [13]) rfl sc_law.nd rfl (si_range1 rfl t.z_range (sa_cons (se_callB cr_len o_len rfl t.z_len (by decide +kernel) (sa_cons (se_var (i := 2)) sa_nil)) sa_nil)) (blkOk_by (N := ["_law_script", "_law_draws_here", "_law_lists", "_law_indexes", "_law_chosen", "_law_sizes", "_law_note", "_law_passed", "_law_items", "_law_digits_here", "_law_turn", "_law_near_here", "_law_wide", "_law_k", "_law_handed", "_law_told", "_law_made", "_law_found"]) (sc := defScope st_law) (by decide +kernel)) (fun _ _ _ _ _ => (pg_name (i := 13) sc_law.nd rfl (by first | exact Or.inl rfl | exact Or.inr rfl))) gok_name (fun _ _ _ _ _ => sts_nil) (fun _ _ _ _ _ => (se_ix (se_ix (se_var (i := 2)) (se_var (i := 13))) (se_ix (se_var (i := 3)) (se_var (i := 13))))) rfl rfl (sw_true rfl rfl rfl (by decide +kernel)))
  (sb_cons (ss_lc (i := 5) (own := [("_law_items", 8)]) (vs := [8]) rfl sc_law.nd rfl (si_any (se_var (i := 2))) (blkOk_by (N := ["_law_script", "_law_draws_here", "_law_lists", "_law_indexes", "_law_chosen", "_law_sizes", "_law_note", "_law_passed", "_law_items", "_law_digits_here", "_law_turn", "_law_near_here", "_law_wide", "_law_k", "_law_handed", "_law_told", "_law_made", "_law_found"]) (sc := defScope st_law) (by decide +kernel)) (fun _ _ _ _ _ => (pg_name (i := 8) sc_law.nd rfl (by first | exact Or.inl rfl | exact Or.inr rfl))) gok_name (fun _ _ _ _ _ => (sts_one (st_cmp op_gt o_gt (se_callB cr_len o_len rfl t.z_len (by decide +kernel) (sa_cons (se_var (i := 8)) sa_nil)) se_int))) (fun _ _ _ _ _ => (se_callB cr_len o_len rfl t.z_len (by decide +kernel) (sa_cons (se_var (i := 8)) sa_nil))) rfl rfl (sw_true rfl rfl rfl (by decide +kernel)))
  (sb_cons (ss_lc (i := 6) (own := [("_law_k", 13)]) (vs := [13]) rfl sc_law.nd rfl (si_range1 rfl t.z_range (sa_cons (se_callB cr_len o_len rfl t.z_len (by decide +kernel) (sa_cons (se_var (i := 2)) sa_nil)) sa_nil)) (blkOk_by (N := ["_law_script", "_law_draws_here", "_law_lists", "_law_indexes", "_law_chosen", "_law_sizes", "_law_note", "_law_passed", "_law_items", "_law_digits_here", "_law_turn", "_law_near_here", "_law_wide", "_law_k", "_law_handed", "_law_told", "_law_made", "_law_found"]) (sc := defScope st_law) (by decide +kernel)) (fun _ _ _ _ _ => (pg_name (i := 13) sc_law.nd rfl (by first | exact Or.inl rfl | exact Or.inr rfl))) gok_name (fun _ _ _ _ _ => (sts_one (st_cmp op_gt o_gt (se_callB cr_len o_len rfl t.z_len (by decide +kernel) (sa_cons (se_ix (se_var (i := 2)) (se_var (i := 13))) sa_nil)) se_int))) (fun _ _ _ _ _ => (se_ix (se_var (i := 3)) (se_var (i := 13)))) rfl rfl (sw_true rfl rfl rfl (by decide +kernel)))
  (sb_cons (ss_lc (i := 7) (own := [("_law_items", 8)]) (vs := [8]) rfl sc_law.nd rfl (si_any (se_var (i := 2))) (blkOk_by (N := ["_law_script", "_law_draws_here", "_law_lists", "_law_indexes", "_law_chosen", "_law_sizes", "_law_note", "_law_passed", "_law_items", "_law_digits_here", "_law_turn", "_law_near_here", "_law_wide", "_law_k", "_law_handed", "_law_told", "_law_made", "_law_found"]) (sc := defScope st_law) (by decide +kernel)) (fun _ _ _ _ _ => (pg_name (i := 8) sc_law.nd rfl (by first | exact Or.inl rfl | exact Or.inr rfl))) gok_name (fun _ _ _ _ _ => sts_nil) (fun _ _ _ _ _ => (se_callTy (cr_list rfl) o_list rfl t.z_list (by decide +kernel) (sa_cons (se_var (i := 8)) sa_nil))) rfl rfl (sw_true rfl rfl rfl (by decide +kernel)))
  (sb_cons (ss_set (i := 8) sc_law.nd (se_callTy (cr_list rfl) o_list rfl t.z_list (by decide +kernel) (sa_cons (se_var (i := 4)) sa_nil)))
  (sb_cons (ss_set (i := 9) sc_law.nd (se_callTy (cr_list rfl) o_list rfl t.z_list (by decide +kernel) (sa_cons (se_var (i := 6)) sa_nil)))
  (sb_cons (ss_for hp rfl (si_range1 rfl t.z_range (sa_cons se_int sa_nil)) (sg_name (i := 10) sc_law.nd) (sb_cons (ss_set (i := 15) sc_law.nd (se_call (FnOk.mono (ok_sizes_of t) (by decide)) hr rfl t.g_sizes_of t.F_sizes_of.kp t.B_sizes_of tk (sa_cons (se_var (i := 7)) sa_nil) rfl (aCons_len aNil_len)))
  (sb_cons (ss_set (i := 16) sc_law.nd (se_call (FnOk.mono (ok_note_of t) (by decide)) hr rfl t.g_note_of t.F_note_of.kp t.B_note_of tk (sa_cons (se_var (i := 7)) (sa_cons (se_var (i := 8)) sa_nil)) rfl (aCons_len (aCons_len aNil_len))))
  (sb_cons (ss_set (i := 17) sc_law.nd (se_call (FnOk.mono (ok_chosen_by t) (by decide)) hr rfl t.g_chosen_by t.F_chosen_by.kp t.B_chosen_by tk (sa_cons (se_var (i := 7)) (sa_cons (se_var (i := 9)) sa_nil)) rfl (aCons_len (aCons_len aNil_len))))
  (sb_cons (ss_if (st_w (sw_or (st_not (st_val (se_call (FnOk.mono (ok__law_same t 4) (by decide)) hr rfl t.g__law_same t.F__law_same.kp t.B__law_same tk (sa_cons (se_var (i := 15)) (sa_cons (se_var (i := 5)) sa_nil)) rfl (aCons_len (aCons_len aNil_len))))) (sw_or (st_not (st_val (se_call (FnOk.mono (ok__law_same t 4) (by decide)) hr rfl t.g__law_same t.F__law_same.kp t.B__law_same tk (sa_cons (se_var (i := 16)) (sa_cons (se_var (i := 6)) sa_nil)) rfl (aCons_len (aCons_len aNil_len))))) (sw_or1 (st_not (st_val (se_call (FnOk.mono (ok__law_same t 4) (by decide)) hr rfl t.g__law_same t.F__law_same.kp t.B__law_same tk (sa_cons (se_var (i := 17)) (sa_cons (se_var (i := 4)) sa_nil)) rfl (aCons_len (aCons_len aNil_len))))))))) (sb_one (ss_ret se_bl)) sb_nil)
  (sb_cons (ss_expr (se_m mt_append o_append PySem.F.plainAttrs_list PySem.F.slot_list_append PySem.F.type_list_append (se_var (i := 15)) (sa_cons se_int sa_nil)))
  (sb_cons (ss_expr (se_m mt_append o_append PySem.F.plainAttrs_list PySem.F.slot_list_append PySem.F.type_list_append (se_var (i := 16)) (sa_cons se_int sa_nil)))
  (sb_one (ss_expr (se_m mt_append o_append PySem.F.plainAttrs_list PySem.F.slot_list_append PySem.F.type_list_append (se_var (i := 17)) (sa_cons se_int sa_nil)))))))))))
  (sb_cons (ss_set (i := 11) sc_law.nd (se_call (FnOk.mono (ok__law_near t) (by decide)) hr rfl t.g__law_near t.F__law_near.kp t.B__law_near tk (sa_cons (se_var (i := 1)) (sa_cons (se_var (i := 5)) (sa_cons (se_var (i := 6)) sa_nil))) rfl (aCons_len (aCons_len (aCons_len aNil_len)))))
  (sb_cons (ss_if (st_not (st_val (se_call (FnOk.mono (ok__law_digits t) (by decide)) hr rfl t.g__law_digits t.F__law_digits.kp t.B__law_digits tk (sa_cons (se_var (i := 5)) (sa_cons (se_var (i := 11)) sa_nil)) rfl (aCons_len (aCons_len aNil_len))))) (sb_one (ss_if (st_not (st_val (se_call (FnOk.mono (ok__law_chosen_refused t) (by decide)) hr rfl t.g__law_chosen_refused t.F__law_chosen_refused.kp t.B__law_chosen_refused tk (sa_cons (se_var (i := 7)) (sa_cons (se_callTy (cr_list rfl) o_list rfl t.z_list (by decide +kernel) (sa_cons (se_var (i := 11)) sa_nil)) sa_nil)) rfl (aCons_len (aCons_len aNil_len))))) (sb_one (ss_ret se_bl)) sb_nil)) (sb_one (ss_if (st_not (st_val (se_call (FnOk.mono (ok__law_same t 4) (by decide)) hr rfl t.g__law_same t.F__law_same.kp t.B__law_same tk (sa_cons (se_call (FnOk.mono (ok_note_of t) (by decide)) hr rfl t.g_note_of t.F_note_of.kp t.B_note_of tk (sa_cons (se_var (i := 7)) (sa_cons (se_call (FnOk.mono (ok_chosen_by t) (by decide)) hr rfl t.g_chosen_by t.F_chosen_by.kp t.B_chosen_by tk (sa_cons (se_var (i := 7)) (sa_cons (se_callTy (cr_list rfl) o_list rfl t.z_list (by decide +kernel) (sa_cons (se_var (i := 11)) sa_nil)) sa_nil)) rfl (aCons_len (aCons_len aNil_len))) sa_nil)) rfl (aCons_len (aCons_len aNil_len))) (sa_cons (se_var (i := 11)) sa_nil)) rfl (aCons_len (aCons_len aNil_len))))) (sb_one (ss_ret se_bl)) sb_nil)))
  (sb_cons (ss_for hp rfl (si_range1 rfl t.z_range (sa_cons se_int sa_nil)) (sg_name (i := 10) sc_law.nd) (sb_cons (ss_set (i := 15) sc_law.nd (se_call (FnOk.mono (ok_numbered_note t) (by decide)) hr rfl t.g_numbered_note t.F_numbered_note.kp t.B_numbered_note tk (sa_cons (se_callTy (cr_list rfl) o_list rfl t.z_list (by decide +kernel) (sa_cons (se_var (i := 5)) sa_nil)) (sa_cons (se_call (FnOk.mono (ok__law_number t) (by decide)) hr rfl t.g__law_number t.F__law_number.kp t.B__law_number tk (sa_cons (se_var (i := 5)) (sa_cons (se_var (i := 6)) sa_nil)) rfl (aCons_len (aCons_len aNil_len))) sa_nil)) rfl (aCons_len (aCons_len aNil_len))))
  (sb_cons (ss_if (st_not (st_val (se_call (FnOk.mono (ok__law_same t 4) (by decide)) hr rfl t.g__law_same t.F__law_same.kp t.B__law_same tk (sa_cons (se_var (i := 15)) (sa_cons (se_var (i := 6)) sa_nil)) rfl (aCons_len (aCons_len aNil_len))))) (sb_one (ss_ret se_bl)) sb_nil)
  (sb_one (ss_expr (se_m mt_append o_append PySem.F.plainAttrs_list PySem.F.slot_list_append PySem.F.type_list_append (se_var (i := 15)) (sa_cons se_int sa_nil)))))))
  (sb_cons (ss_set (i := 12) sc_law.nd (se_lst sa_nil))
  (sb_cons (ss_for hp rfl (si_range1 rfl t.z_range (sa_cons (se_call (FnOk.mono (ok__law_pick t) (by decide)) hr rfl t.g__law_pick t.F__law_pick.kp t.B__law_pick tk (sa_cons (se_var (i := 1)) (sa_cons (se_lst (sa_cons se_int (sa_cons se_int (sa_cons se_int (sa_cons se_int (sa_cons se_int (sa_cons se_int (sa_cons se_int sa_nil)))))))) sa_nil)) rfl (aCons_len (aCons_len aNil_len))) sa_nil)) (sg_name (i := 13) sc_law.nd) (sb_one (ss_expr (se_m mt_append o_append PySem.F.plainAttrs_list PySem.F.slot_list_append PySem.F.type_list_append (se_var (i := 12)) (sa_cons (se_op op_add4 o_add se_int (se_call (FnOk.mono (ok__law_draw t) (by decide)) hr rfl t.g__law_draw t.F__law_draw.kp t.B__law_draw tk (sa_cons (se_var (i := 1)) (sa_cons (se_call (FnOk.mono (ok__law_pick t) (by decide)) hr rfl t.g__law_pick t.F__law_pick.kp t.B__law_pick tk (sa_cons (se_var (i := 1)) (sa_cons (se_lst (sa_cons se_int (sa_cons se_int (sa_cons se_int sa_nil)))) sa_nil)) rfl (aCons_len (aCons_len aNil_len))) sa_nil)) rfl (aCons_len (aCons_len aNil_len)))) sa_nil)))))
  (sb_cons (ss_set (i := 14) sc_law.nd (se_callTy (cr_list rfl) o_list rfl t.z_list (by decide +kernel) (sa_cons (se_var (i := 12)) sa_nil)))
  (sb_cons (ss_if (st_w (sw_or (st_not (st_val (se_call (FnOk.mono (ok__law_numbers_asked t) (by decide)) hr rfl t.g__law_numbers_asked t.F__law_numbers_asked.kp t.B__law_numbers_asked tk (sa_cons (se_var (i := 1)) (sa_cons (se_var (i := 5)) sa_nil)) rfl (aCons_len (aCons_len aNil_len))))) (sw_or1 (st_not (st_val (se_call (FnOk.mono (ok__law_numbers_asked t) (by decide)) hr rfl t.g__law_numbers_asked t.F__law_numbers_asked.kp t.B__law_numbers_asked tk (sa_cons (se_var (i := 1)) (sa_cons (se_var (i := 14)) sa_nil)) rfl (aCons_len (aCons_len aNil_len)))))))) (sb_one (ss_ret se_bl)) sb_nil)
  (sb_cons (ss_if (st_w (sw_or (st_not (st_val (se_call (FnOk.mono (ok__law_same t 4) (by decide)) hr rfl t.g__law_same t.F__law_same.kp t.B__law_same tk (sa_cons (se_var (i := 14)) (sa_cons (se_var (i := 12)) sa_nil)) rfl (aCons_len (aCons_len aNil_len))))) (sw_or1 (st_not (st_val (se_call (FnOk.mono (ok__law_same t 4) (by decide)) hr rfl t.g__law_same t.F__law_same.kp t.B__law_same tk (sa_cons (se_var (i := 7)) (sa_cons (se_var (i := 2)) sa_nil)) rfl (aCons_len (aCons_len aNil_len)))))))) (sb_one (ss_ret se_bl)) sb_nil)
  (sb_one (ss_ret (se_and (se_call (FnOk.mono (ok__law_same t 4) (by decide)) hr rfl t.g__law_same t.F__law_same.kp t.B__law_same tk (sa_cons (se_var (i := 8)) (sa_cons (se_var (i := 4)) sa_nil)) rfl (aCons_len (aCons_len aNil_len))) (se_one (se_call (FnOk.mono (ok__law_same t 4) (by decide)) hr rfl t.g__law_same t.F__law_same.kp t.B__law_same tk (sa_cons (se_var (i := 9)) (sa_cons (se_var (i := 6)) sa_nil)) rfl (aCons_len (aCons_len aNil_len))))))))))))))))))))))))))
end
theorem all_mk {l : PySem.W.OpenLaw} {w : World} {K : PySem.W.Frag} {h : Heap} {mg : Str → Option Value} {fa : Addr} (X : K.In h) (G : h.Ns mainGlobals mg) (hfa : mg "law" = some (.ref fa))
    (plain : ∀ ns : List Int, ns.length ≤ 63 → ∃ S, m_law [.fl (ns.map .int)] [] = .ok (.bl true) S)
    {f_sizes_of : Addr} {od_sizes_of an_sizes_of : Option Addr} {sl_sizes_of : Array (Option Value)} {oc_sizes_of kV_sizes_of dc_sizes_of pm_sizes_of cd_sizes_of ct_sizes_of : Value}
    (a_sizes_of : PySem.W.nsIn K mainGlobals "sizes_of" = some (some (.ref f_sizes_of)))
    (l_sizes_of : K.lookup f_sizes_of = some ⟨oc_sizes_of, od_sizes_of, .func (PySem.W.fnOf "sizes_of" "sizes_of" (defArgs st_sizes_of) (defBody st_sizes_of) (defScope st_sizes_of) .none kV_sizes_of dc_sizes_of pm_sizes_of an_sizes_of cd_sizes_of ct_sizes_of), sl_sizes_of⟩)
    (e_sizes_of : PySem.W.codeIn K cd_sizes_of "sizes_of" = true) (p_sizes_of : PySem.W.keepIn K (.ref f_sizes_of) = true)
    {f_note_of : Addr} {od_note_of an_note_of : Option Addr} {sl_note_of : Array (Option Value)} {oc_note_of kV_note_of dc_note_of pm_note_of cd_note_of ct_note_of : Value}
    (a_note_of : PySem.W.nsIn K mainGlobals "note_of" = some (some (.ref f_note_of)))
    (l_note_of : K.lookup f_note_of = some ⟨oc_note_of, od_note_of, .func (PySem.W.fnOf "note_of" "note_of" (defArgs st_note_of) (defBody st_note_of) (defScope st_note_of) .none kV_note_of dc_note_of pm_note_of an_note_of cd_note_of ct_note_of), sl_note_of⟩)
    (e_note_of : PySem.W.codeIn K cd_note_of "note_of" = true) (p_note_of : PySem.W.keepIn K (.ref f_note_of) = true)
    {f_check_note : Addr} {od_check_note an_check_note : Option Addr} {sl_check_note : Array (Option Value)} {oc_check_note kV_check_note dc_check_note pm_check_note cd_check_note ct_check_note : Value}
    (a_check_note : PySem.W.nsIn K mainGlobals "check_note" = some (some (.ref f_check_note)))
    (l_check_note : K.lookup f_check_note = some ⟨oc_check_note, od_check_note, .func (PySem.W.fnOf "check_note" "check_note" (defArgs st_check_note) (defBody st_check_note) (defScope st_check_note) .none kV_check_note dc_check_note pm_check_note an_check_note cd_check_note ct_check_note), sl_check_note⟩)
    (e_check_note : PySem.W.codeIn K cd_check_note "check_note" = true) (p_check_note : PySem.W.keepIn K (.ref f_check_note) = true)
    {f_chosen_by : Addr} {od_chosen_by an_chosen_by : Option Addr} {sl_chosen_by : Array (Option Value)} {oc_chosen_by kV_chosen_by dc_chosen_by pm_chosen_by cd_chosen_by ct_chosen_by : Value}
    (a_chosen_by : PySem.W.nsIn K mainGlobals "chosen_by" = some (some (.ref f_chosen_by)))
    (l_chosen_by : K.lookup f_chosen_by = some ⟨oc_chosen_by, od_chosen_by, .func (PySem.W.fnOf "chosen_by" "chosen_by" (defArgs st_chosen_by) (defBody st_chosen_by) (defScope st_chosen_by) .none kV_chosen_by dc_chosen_by pm_chosen_by an_chosen_by cd_chosen_by ct_chosen_by), sl_chosen_by⟩)
    (e_chosen_by : PySem.W.codeIn K cd_chosen_by "chosen_by" = true) (p_chosen_by : PySem.W.keepIn K (.ref f_chosen_by) = true)
    {f_product_of : Addr} {od_product_of an_product_of : Option Addr} {sl_product_of : Array (Option Value)} {oc_product_of kV_product_of dc_product_of pm_product_of cd_product_of ct_product_of : Value}
    (a_product_of : PySem.W.nsIn K mainGlobals "product_of" = some (some (.ref f_product_of)))
    (l_product_of : K.lookup f_product_of = some ⟨oc_product_of, od_product_of, .func (PySem.W.fnOf "product_of" "product_of" (defArgs st_product_of) (defBody st_product_of) (defScope st_product_of) .none kV_product_of dc_product_of pm_product_of an_product_of cd_product_of ct_product_of), sl_product_of⟩)
    (e_product_of : PySem.W.codeIn K cd_product_of "product_of" = true) (p_product_of : PySem.W.keepIn K (.ref f_product_of) = true)
    {f_note_number : Addr} {od_note_number an_note_number : Option Addr} {sl_note_number : Array (Option Value)} {oc_note_number kV_note_number dc_note_number pm_note_number cd_note_number ct_note_number : Value}
    (a_note_number : PySem.W.nsIn K mainGlobals "note_number" = some (some (.ref f_note_number)))
    (l_note_number : K.lookup f_note_number = some ⟨oc_note_number, od_note_number, .func (PySem.W.fnOf "note_number" "note_number" (defArgs st_note_number) (defBody st_note_number) (defScope st_note_number) .none kV_note_number dc_note_number pm_note_number an_note_number cd_note_number ct_note_number), sl_note_number⟩)
    (e_note_number : PySem.W.codeIn K cd_note_number "note_number" = true) (p_note_number : PySem.W.keepIn K (.ref f_note_number) = true)
    {f_numbered_note : Addr} {od_numbered_note an_numbered_note : Option Addr} {sl_numbered_note : Array (Option Value)} {oc_numbered_note kV_numbered_note dc_numbered_note pm_numbered_note cd_numbered_note ct_numbered_note : Value}
    (a_numbered_note : PySem.W.nsIn K mainGlobals "numbered_note" = some (some (.ref f_numbered_note)))
    (l_numbered_note : K.lookup f_numbered_note = some ⟨oc_numbered_note, od_numbered_note, .func (PySem.W.fnOf "numbered_note" "numbered_note" (defArgs st_numbered_note) (defBody st_numbered_note) (defScope st_numbered_note) .none kV_numbered_note dc_numbered_note pm_numbered_note an_numbered_note cd_numbered_note ct_numbered_note), sl_numbered_note⟩)
    (e_numbered_note : PySem.W.codeIn K cd_numbered_note "numbered_note" = true) (p_numbered_note : PySem.W.keepIn K (.ref f_numbered_note) = true)
    {f__law_draws : Addr} {od__law_draws an__law_draws : Option Addr} {sl__law_draws : Array (Option Value)} {oc__law_draws kV__law_draws dc__law_draws pm__law_draws cd__law_draws ct__law_draws : Value}
    (a__law_draws : PySem.W.nsIn K mainGlobals "_law_draws" = some (some (.ref f__law_draws)))
    (l__law_draws : K.lookup f__law_draws = some ⟨oc__law_draws, od__law_draws, .func (PySem.W.fnOf "_law_draws" "_law_draws" (defArgs st__law_draws) (defBody st__law_draws) (defScope st__law_draws) .none kV__law_draws dc__law_draws pm__law_draws an__law_draws cd__law_draws ct__law_draws), sl__law_draws⟩)
    (e__law_draws : PySem.W.codeIn K cd__law_draws "_law_draws" = true) (p__law_draws : PySem.W.keepIn K (.ref f__law_draws) = true)
    {f__law_draw : Addr} {od__law_draw an__law_draw : Option Addr} {sl__law_draw : Array (Option Value)} {oc__law_draw kV__law_draw dc__law_draw pm__law_draw cd__law_draw ct__law_draw : Value}
    (a__law_draw : PySem.W.nsIn K mainGlobals "_law_draw" = some (some (.ref f__law_draw)))
    (l__law_draw : K.lookup f__law_draw = some ⟨oc__law_draw, od__law_draw, .func (PySem.W.fnOf "_law_draw" "_law_draw" (defArgs st__law_draw) (defBody st__law_draw) (defScope st__law_draw) .none kV__law_draw dc__law_draw pm__law_draw an__law_draw cd__law_draw ct__law_draw), sl__law_draw⟩)
    (e__law_draw : PySem.W.codeIn K cd__law_draw "_law_draw" = true) (p__law_draw : PySem.W.keepIn K (.ref f__law_draw) = true)
    {f__law_pick : Addr} {od__law_pick an__law_pick : Option Addr} {sl__law_pick : Array (Option Value)} {oc__law_pick kV__law_pick dc__law_pick pm__law_pick cd__law_pick ct__law_pick : Value}
    (a__law_pick : PySem.W.nsIn K mainGlobals "_law_pick" = some (some (.ref f__law_pick)))
    (l__law_pick : K.lookup f__law_pick = some ⟨oc__law_pick, od__law_pick, .func (PySem.W.fnOf "_law_pick" "_law_pick" (defArgs st__law_pick) (defBody st__law_pick) (defScope st__law_pick) .none kV__law_pick dc__law_pick pm__law_pick an__law_pick cd__law_pick ct__law_pick), sl__law_pick⟩)
    (e__law_pick : PySem.W.codeIn K cd__law_pick "_law_pick" = true) (p__law_pick : PySem.W.keepIn K (.ref f__law_pick) = true)
    {f__law_same : Addr} {od__law_same an__law_same : Option Addr} {sl__law_same : Array (Option Value)} {oc__law_same kV__law_same dc__law_same pm__law_same cd__law_same ct__law_same : Value}
    (a__law_same : PySem.W.nsIn K mainGlobals "_law_same" = some (some (.ref f__law_same)))
    (l__law_same : K.lookup f__law_same = some ⟨oc__law_same, od__law_same, .func (PySem.W.fnOf "_law_same" "_law_same" (defArgs st__law_same) (defBody st__law_same) (defScope st__law_same) .none kV__law_same dc__law_same pm__law_same an__law_same cd__law_same ct__law_same), sl__law_same⟩)
    (e__law_same : PySem.W.codeIn K cd__law_same "_law_same" = true) (p__law_same : PySem.W.keepIn K (.ref f__law_same) = true)
    {f__law_list : Addr} {od__law_list an__law_list : Option Addr} {sl__law_list : Array (Option Value)} {oc__law_list kV__law_list dc__law_list pm__law_list cd__law_list ct__law_list : Value}
    (a__law_list : PySem.W.nsIn K mainGlobals "_law_list" = some (some (.ref f__law_list)))
    (l__law_list : K.lookup f__law_list = some ⟨oc__law_list, od__law_list, .func (PySem.W.fnOf "_law_list" "_law_list" (defArgs st__law_list) (defBody st__law_list) (defScope st__law_list) .none kV__law_list dc__law_list pm__law_list an__law_list cd__law_list ct__law_list), sl__law_list⟩)
    (e__law_list : PySem.W.codeIn K cd__law_list "_law_list" = true) (p__law_list : PySem.W.keepIn K (.ref f__law_list) = true)
    {f__law_near : Addr} {od__law_near an__law_near : Option Addr} {sl__law_near : Array (Option Value)} {oc__law_near kV__law_near dc__law_near pm__law_near cd__law_near ct__law_near : Value}
    (a__law_near : PySem.W.nsIn K mainGlobals "_law_near" = some (some (.ref f__law_near)))
    (l__law_near : K.lookup f__law_near = some ⟨oc__law_near, od__law_near, .func (PySem.W.fnOf "_law_near" "_law_near" (defArgs st__law_near) (defBody st__law_near) (defScope st__law_near) .none kV__law_near dc__law_near pm__law_near an__law_near cd__law_near ct__law_near), sl__law_near⟩)
    (e__law_near : PySem.W.codeIn K cd__law_near "_law_near" = true) (p__law_near : PySem.W.keepIn K (.ref f__law_near) = true)
    {f__law_digits : Addr} {od__law_digits an__law_digits : Option Addr} {sl__law_digits : Array (Option Value)} {oc__law_digits kV__law_digits dc__law_digits pm__law_digits cd__law_digits ct__law_digits : Value}
    (a__law_digits : PySem.W.nsIn K mainGlobals "_law_digits" = some (some (.ref f__law_digits)))
    (l__law_digits : K.lookup f__law_digits = some ⟨oc__law_digits, od__law_digits, .func (PySem.W.fnOf "_law_digits" "_law_digits" (defArgs st__law_digits) (defBody st__law_digits) (defScope st__law_digits) .none kV__law_digits dc__law_digits pm__law_digits an__law_digits cd__law_digits ct__law_digits), sl__law_digits⟩)
    (e__law_digits : PySem.W.codeIn K cd__law_digits "_law_digits" = true) (p__law_digits : PySem.W.keepIn K (.ref f__law_digits) = true)
    {f__law_number : Addr} {od__law_number an__law_number : Option Addr} {sl__law_number : Array (Option Value)} {oc__law_number kV__law_number dc__law_number pm__law_number cd__law_number ct__law_number : Value}
    (a__law_number : PySem.W.nsIn K mainGlobals "_law_number" = some (some (.ref f__law_number)))
    (l__law_number : K.lookup f__law_number = some ⟨oc__law_number, od__law_number, .func (PySem.W.fnOf "_law_number" "_law_number" (defArgs st__law_number) (defBody st__law_number) (defScope st__law_number) .none kV__law_number dc__law_number pm__law_number an__law_number cd__law_number ct__law_number), sl__law_number⟩)
    (e__law_number : PySem.W.codeIn K cd__law_number "_law_number" = true) (p__law_number : PySem.W.keepIn K (.ref f__law_number) = true)
    {f__law_chosen_refused : Addr} {od__law_chosen_refused an__law_chosen_refused : Option Addr} {sl__law_chosen_refused : Array (Option Value)} {oc__law_chosen_refused kV__law_chosen_refused dc__law_chosen_refused pm__law_chosen_refused cd__law_chosen_refused ct__law_chosen_refused : Value}
    (a__law_chosen_refused : PySem.W.nsIn K mainGlobals "_law_chosen_refused" = some (some (.ref f__law_chosen_refused)))
    (l__law_chosen_refused : K.lookup f__law_chosen_refused = some ⟨oc__law_chosen_refused, od__law_chosen_refused, .func (PySem.W.fnOf "_law_chosen_refused" "_law_chosen_refused" (defArgs st__law_chosen_refused) (defBody st__law_chosen_refused) (defScope st__law_chosen_refused) .none kV__law_chosen_refused dc__law_chosen_refused pm__law_chosen_refused an__law_chosen_refused cd__law_chosen_refused ct__law_chosen_refused), sl__law_chosen_refused⟩)
    (e__law_chosen_refused : PySem.W.codeIn K cd__law_chosen_refused "_law_chosen_refused" = true) (p__law_chosen_refused : PySem.W.keepIn K (.ref f__law_chosen_refused) = true)
    {f__law_number_refused : Addr} {od__law_number_refused an__law_number_refused : Option Addr} {sl__law_number_refused : Array (Option Value)} {oc__law_number_refused kV__law_number_refused dc__law_number_refused pm__law_number_refused cd__law_number_refused ct__law_number_refused : Value}
    (a__law_number_refused : PySem.W.nsIn K mainGlobals "_law_number_refused" = some (some (.ref f__law_number_refused)))
    (l__law_number_refused : K.lookup f__law_number_refused = some ⟨oc__law_number_refused, od__law_number_refused, .func (PySem.W.fnOf "_law_number_refused" "_law_number_refused" (defArgs st__law_number_refused) (defBody st__law_number_refused) (defScope st__law_number_refused) .none kV__law_number_refused dc__law_number_refused pm__law_number_refused an__law_number_refused cd__law_number_refused ct__law_number_refused), sl__law_number_refused⟩)
    (e__law_number_refused : PySem.W.codeIn K cd__law_number_refused "_law_number_refused" = true) (p__law_number_refused : PySem.W.keepIn K (.ref f__law_number_refused) = true)
    {f__law_numbered_refused : Addr} {od__law_numbered_refused an__law_numbered_refused : Option Addr} {sl__law_numbered_refused : Array (Option Value)} {oc__law_numbered_refused kV__law_numbered_refused dc__law_numbered_refused pm__law_numbered_refused cd__law_numbered_refused ct__law_numbered_refused : Value}
    (a__law_numbered_refused : PySem.W.nsIn K mainGlobals "_law_numbered_refused" = some (some (.ref f__law_numbered_refused)))
    (l__law_numbered_refused : K.lookup f__law_numbered_refused = some ⟨oc__law_numbered_refused, od__law_numbered_refused, .func (PySem.W.fnOf "_law_numbered_refused" "_law_numbered_refused" (defArgs st__law_numbered_refused) (defBody st__law_numbered_refused) (defScope st__law_numbered_refused) .none kV__law_numbered_refused dc__law_numbered_refused pm__law_numbered_refused an__law_numbered_refused cd__law_numbered_refused ct__law_numbered_refused), sl__law_numbered_refused⟩)
    (e__law_numbered_refused : PySem.W.codeIn K cd__law_numbered_refused "_law_numbered_refused" = true) (p__law_numbered_refused : PySem.W.keepIn K (.ref f__law_numbered_refused) = true)
    {f__law_numbers_asked : Addr} {od__law_numbers_asked an__law_numbers_asked : Option Addr} {sl__law_numbers_asked : Array (Option Value)} {oc__law_numbers_asked kV__law_numbers_asked dc__law_numbers_asked pm__law_numbers_asked cd__law_numbers_asked ct__law_numbers_asked : Value}
    (a__law_numbers_asked : PySem.W.nsIn K mainGlobals "_law_numbers_asked" = some (some (.ref f__law_numbers_asked)))
    (l__law_numbers_asked : K.lookup f__law_numbers_asked = some ⟨oc__law_numbers_asked, od__law_numbers_asked, .func (PySem.W.fnOf "_law_numbers_asked" "_law_numbers_asked" (defArgs st__law_numbers_asked) (defBody st__law_numbers_asked) (defScope st__law_numbers_asked) .none kV__law_numbers_asked dc__law_numbers_asked pm__law_numbers_asked an__law_numbers_asked cd__law_numbers_asked ct__law_numbers_asked), sl__law_numbers_asked⟩)
    (e__law_numbers_asked : PySem.W.codeIn K cd__law_numbers_asked "_law_numbers_asked" = true) (p__law_numbers_asked : PySem.W.keepIn K (.ref f__law_numbers_asked) = true)
    {f_law : Addr} {od_law an_law : Option Addr} {sl_law : Array (Option Value)} {oc_law kV_law dc_law pm_law cd_law ct_law : Value}
    (a_law : PySem.W.nsIn K mainGlobals "law" = some (some (.ref f_law)))
    (l_law : K.lookup f_law = some ⟨oc_law, od_law, .func (PySem.W.fnOf "law" "law" (defArgs st_law) (defBody st_law) (defScope st_law) .none kV_law dc_law pm_law an_law cd_law ct_law), sl_law⟩)
    (e_law : PySem.W.codeIn K cd_law "law" = true) (p_law : PySem.W.keepIn K (.ref f_law) = true)
    {f_FormroadsError : Addr} (a_FormroadsError : PySem.W.nsIn K mainGlobals "FormroadsError" = some (some (.ref f_FormroadsError)))
    {f_InvalidNote : Addr} (a_InvalidNote : PySem.W.nsIn K mainGlobals "InvalidNote" = some (some (.ref f_InvalidNote)))
    {f_Unreached : Addr} (a_Unreached : PySem.W.nsIn K mainGlobals "Unreached" = some (some (.ref f_Unreached)))
    (x_InvalidNote : PySem.W.excIn K f_InvalidNote [.type "ValueError", .type "Exception", .type "BaseException", .type "object"] "ValueError.__new__" = true) (kp_InvalidNote : PySem.W.keepIn K (.ref f_InvalidNote) = true) (be_InvalidNote : PySem.W.subIn K (.ref f_InvalidNote) (.type "BaseException") = some true) (ty_InvalidNote : PySem.W.typeIn K (.ref f_InvalidNote) = some (.type "type"))
    (hd_FormroadsError : PySem.W.hasDictIn K f_FormroadsError = true)
    (be_FormroadsError : PySem.W.subIn K (.ref f_FormroadsError) (.type "BaseException") = some true) (ty_FormroadsError : PySem.W.typeIn K (.ref f_FormroadsError) = some (.type "type"))
    (hd_InvalidNote : PySem.W.hasDictIn K f_InvalidNote = true)
    (hd_Unreached : PySem.W.hasDictIn K f_Unreached = true)
    (be_Unreached : PySem.W.subIn K (.ref f_Unreached) (.type "BaseException") = some true) (ty_Unreached : PySem.W.typeIn K (.ref f_Unreached) = some (.type "type"))
    (hg_InvalidNote : PySem.W.findIn K (.ref f_InvalidNote) "__getattribute__" = some (some (.builtin "BaseException.__getattribute__")))
    (hk_InvalidNote : PySem.W.findIn K (.ref f_InvalidNote) "__getattr__" = some none)
    (ha_InvalidNote : PySem.W.findIn K (.ref f_InvalidNote) "__class__" = some (some (.builtin "object.__class__")))
    (hm_InvalidNote : PySem.W.mroIn K f_InvalidNote (.type "object") = some true)
    (hn0 : PySem.W.specialIn K (.builtin "object.__class__") "__get__" = some (some (.builtin "getset_descriptor.__get__"))) (ht0 : PySem.W.takesIn K (.builtin "object.__class__") = some true)
    (su_FormroadsError_InvalidNote : PySem.W.subIn K (.ref f_InvalidNote) (.ref f_FormroadsError) = some true)
    (su_InvalidNote_InvalidNote : PySem.W.subIn K (.ref f_InvalidNote) (.ref f_InvalidNote) = some true)
    (su_Unreached_InvalidNote : PySem.W.subIn K (.ref f_InvalidNote) (.ref f_Unreached) = some false)
    (ne_Unreached_InvalidNote : (Value.ref f_InvalidNote == .ref f_Unreached) = false)
    (su_ValueError_InvalidNote : PySem.W.subIn K (.ref f_InvalidNote) (.type "ValueError") = some true)
    (z_ValueError : PySem.W.nsIn K mainGlobals "ValueError" = some none)
    (z_bool : PySem.W.nsIn K mainGlobals "bool" = some none)
    (z_divmod : PySem.W.nsIn K mainGlobals "divmod" = some none)
    (z_int : PySem.W.nsIn K mainGlobals "int" = some none)
    (z_isinstance : PySem.W.nsIn K mainGlobals "isinstance" = some none)
    (z_len : PySem.W.nsIn K mainGlobals "len" = some none)
    (z_list : PySem.W.nsIn K mainGlobals "list" = some none)
    (z_range : PySem.W.nsIn K mainGlobals "range" = some none)
    (z_reversed : PySem.W.nsIn K mainGlobals "reversed" = some none)
    (z_str : PySem.W.nsIn K mainGlobals "str" = some none)
    (z_tuple : PySem.W.nsIn K mainGlobals "tuple" = some none)
    (z_zip : PySem.W.nsIn K mainGlobals "zip" = some none) :
    ∃ fd : FuncData, (∀ (s : Shared) (v : Value), BindsTo s fd ⟨[v], []⟩ [("_law_script", v)]) ∧ ∀ base : Heap, K.In base → base.Ns mainGlobals mg → FnOk l.prog w K mg base (L2.CX l.prog w) 7 fa fd ["_law_script"] (spLaw K) := by
  have e := hfa.symm.trans (PySem.W.mg_of X G a_law)
  cases e
  let t : Tx K mg := ⟨f_sizes_of, _, fun_mk (st := st_sizes_of) l_sizes_of e_sizes_of p_sizes_of, (fun_mk (st := st_sizes_of) l_sizes_of e_sizes_of p_sizes_of).binds (ps := ["lists"]) (fun _ _ _ _ _ _ us hl => match us, hl with | [_], _ => rfl), PySem.W.mg_of X G a_sizes_of, f_note_of, _, fun_mk (st := st_note_of) l_note_of e_note_of p_note_of, (fun_mk (st := st_note_of) l_note_of e_note_of p_note_of).binds (ps := ["lists", "chosen"]) (fun _ _ _ _ _ _ us hl => match us, hl with | [_, _], _ => rfl), PySem.W.mg_of X G a_note_of, f_check_note, _, fun_mk (st := st_check_note) l_check_note e_check_note p_check_note, (fun_mk (st := st_check_note) l_check_note e_check_note p_check_note).binds (ps := ["sizes", "note"]) (fun _ _ _ _ _ _ us hl => match us, hl with | [_, _], _ => rfl), PySem.W.mg_of X G a_check_note, f_chosen_by, _, fun_mk (st := st_chosen_by) l_chosen_by e_chosen_by p_chosen_by, (fun_mk (st := st_chosen_by) l_chosen_by e_chosen_by p_chosen_by).binds (ps := ["lists", "note"]) (fun _ _ _ _ _ _ us hl => match us, hl with | [_, _], _ => rfl), PySem.W.mg_of X G a_chosen_by, f_product_of, _, fun_mk (st := st_product_of) l_product_of e_product_of p_product_of, (fun_mk (st := st_product_of) l_product_of e_product_of p_product_of).binds (ps := ["sizes"]) (fun _ _ _ _ _ _ us hl => match us, hl with | [_], _ => rfl), PySem.W.mg_of X G a_product_of, f_note_number, _, fun_mk (st := st_note_number) l_note_number e_note_number p_note_number, (fun_mk (st := st_note_number) l_note_number e_note_number p_note_number).binds (ps := ["sizes", "note"]) (fun _ _ _ _ _ _ us hl => match us, hl with | [_, _], _ => rfl), PySem.W.mg_of X G a_note_number, f_numbered_note, _, fun_mk (st := st_numbered_note) l_numbered_note e_numbered_note p_numbered_note, (fun_mk (st := st_numbered_note) l_numbered_note e_numbered_note p_numbered_note).binds (ps := ["sizes", "number"]) (fun _ _ _ _ _ _ us hl => match us, hl with | [_, _], _ => rfl), PySem.W.mg_of X G a_numbered_note, f__law_draws, _, fun_mk (st := st__law_draws) l__law_draws e__law_draws p__law_draws, (fun_mk (st := st__law_draws) l__law_draws e__law_draws p__law_draws).binds (ps := ["_law_script"]) (fun _ _ _ _ _ _ us hl => match us, hl with | [_], _ => rfl), PySem.W.mg_of X G a__law_draws, f__law_draw, _, fun_mk (st := st__law_draw) l__law_draw e__law_draw p__law_draw, (fun_mk (st := st__law_draw) l__law_draw e__law_draw p__law_draw).binds (ps := ["_law_draws_here", "_law_many"]) (fun _ _ _ _ _ _ us hl => match us, hl with | [_, _], _ => rfl), PySem.W.mg_of X G a__law_draw, f__law_pick, _, fun_mk (st := st__law_pick) l__law_pick e__law_pick p__law_pick, (fun_mk (st := st__law_pick) l__law_pick e__law_pick p__law_pick).binds (ps := ["_law_draws_here", "_law_things"]) (fun _ _ _ _ _ _ us hl => match us, hl with | [_, _], _ => rfl), PySem.W.mg_of X G a__law_pick, f__law_same, _, fun_mk (st := st__law_same) l__law_same e__law_same p__law_same, (fun_mk (st := st__law_same) l__law_same e__law_same p__law_same).binds (ps := ["_law_actual", "_law_due"]) (fun _ _ _ _ _ _ us hl => match us, hl with | [_, _], _ => rfl), PySem.W.mg_of X G a__law_same, f__law_list, _, fun_mk (st := st__law_list) l__law_list e__law_list p__law_list, (fun_mk (st := st__law_list) l__law_list e__law_list p__law_list).binds (ps := ["_law_draws_here"]) (fun _ _ _ _ _ _ us hl => match us, hl with | [_], _ => rfl), PySem.W.mg_of X G a__law_list, f__law_near, _, fun_mk (st := st__law_near) l__law_near e__law_near p__law_near, (fun_mk (st := st__law_near) l__law_near e__law_near p__law_near).binds (ps := ["_law_draws_here", "_law_sizes", "_law_note"]) (fun _ _ _ _ _ _ us hl => match us, hl with | [_, _, _], _ => rfl), PySem.W.mg_of X G a__law_near, f__law_digits, _, fun_mk (st := st__law_digits) l__law_digits e__law_digits p__law_digits, (fun_mk (st := st__law_digits) l__law_digits e__law_digits p__law_digits).binds (ps := ["_law_sizes", "_law_note"]) (fun _ _ _ _ _ _ us hl => match us, hl with | [_, _], _ => rfl), PySem.W.mg_of X G a__law_digits, f__law_number, _, fun_mk (st := st__law_number) l__law_number e__law_number p__law_number, (fun_mk (st := st__law_number) l__law_number e__law_number p__law_number).binds (ps := ["_law_sizes", "_law_note"]) (fun _ _ _ _ _ _ us hl => match us, hl with | [_, _], _ => rfl), PySem.W.mg_of X G a__law_number, f__law_chosen_refused, _, fun_mk (st := st__law_chosen_refused) l__law_chosen_refused e__law_chosen_refused p__law_chosen_refused, (fun_mk (st := st__law_chosen_refused) l__law_chosen_refused e__law_chosen_refused p__law_chosen_refused).binds (ps := ["_law_lists", "_law_note"]) (fun _ _ _ _ _ _ us hl => match us, hl with | [_, _], _ => rfl), PySem.W.mg_of X G a__law_chosen_refused, f__law_number_refused, _, fun_mk (st := st__law_number_refused) l__law_number_refused e__law_number_refused p__law_number_refused, (fun_mk (st := st__law_number_refused) l__law_number_refused e__law_number_refused p__law_number_refused).binds (ps := ["_law_sizes", "_law_note"]) (fun _ _ _ _ _ _ us hl => match us, hl with | [_, _], _ => rfl), PySem.W.mg_of X G a__law_number_refused, f__law_numbered_refused, _, fun_mk (st := st__law_numbered_refused) l__law_numbered_refused e__law_numbered_refused p__law_numbered_refused, (fun_mk (st := st__law_numbered_refused) l__law_numbered_refused e__law_numbered_refused p__law_numbered_refused).binds (ps := ["_law_sizes", "_law_number_here"]) (fun _ _ _ _ _ _ us hl => match us, hl with | [_, _], _ => rfl), PySem.W.mg_of X G a__law_numbered_refused, f__law_numbers_asked, _, fun_mk (st := st__law_numbers_asked) l__law_numbers_asked e__law_numbers_asked p__law_numbers_asked, (fun_mk (st := st__law_numbers_asked) l__law_numbers_asked e__law_numbers_asked p__law_numbers_asked).binds (ps := ["_law_draws_here", "_law_sizes"]) (fun _ _ _ _ _ _ us hl => match us, hl with | [_, _], _ => rfl), PySem.W.mg_of X G a__law_numbers_asked, _, _, fun_mk (st := st_law) l_law e_law p_law, (fun_mk (st := st_law) l_law e_law p_law).binds (ps := ["_law_script"]) (fun _ _ _ _ _ _ us hl => match us, hl with | [_], _ => rfl), PySem.W.mg_of X G a_law, f_FormroadsError, PySem.W.mg_of X G a_FormroadsError, f_InvalidNote, PySem.W.mg_of X G a_InvalidNote, f_Unreached, PySem.W.mg_of X G a_Unreached, x_InvalidNote, kp_InvalidNote, be_InvalidNote, ty_InvalidNote, (xtab_cons (PySem.W.mg_of X G a_InvalidNote) (exm_kit be_FormroadsError (kitCls_ref hd_FormroadsError ty_FormroadsError su_FormroadsError_InvalidNote)) xtab_nil), (xtab_cons (PySem.W.mg_of X G a_InvalidNote) (exm_kit be_InvalidNote (kitCls_ref hd_InvalidNote ty_InvalidNote su_InvalidNote_InvalidNote)) xtab_nil), (ktab_cons (PySem.W.mg_of X G a_InvalidNote) ⟨hg_InvalidNote, hk_InvalidNote, be_InvalidNote, hd_InvalidNote, ha_InvalidNote, hn0, ht0, hm_InvalidNote⟩ (kit_sub (kitCls_ref hd_InvalidNote ty_InvalidNote su_InvalidNote_InvalidNote) (.inr rfl)) ktab_nil), (ktab_cons (PySem.W.mg_of X G a_InvalidNote) ⟨hg_InvalidNote, hk_InvalidNote, be_InvalidNote, hd_InvalidNote, ha_InvalidNote, hn0, ht0, hm_InvalidNote⟩ (kit_sub (kitCls_ref hd_Unreached ty_Unreached su_Unreached_InvalidNote) (.inl ne_Unreached_InvalidNote)) ktab_nil), (ktab_cons (PySem.W.mg_of X G a_InvalidNote) ⟨hg_InvalidNote, hk_InvalidNote, be_InvalidNote, hd_InvalidNote, ha_InvalidNote, hn0, ht0, hm_InvalidNote⟩ (kit_sub (kitCls_ty (by decide +kernel) su_ValueError_InvalidNote) (.inr rfl)) ktab_nil), PySem.W.mg_none_of X G z_ValueError, PySem.W.mg_none_of X G z_bool, PySem.W.mg_none_of X G z_divmod, PySem.W.mg_none_of X G z_int, PySem.W.mg_none_of X G z_isinstance, PySem.W.mg_none_of X G z_len, PySem.W.mg_none_of X G z_list, PySem.W.mg_none_of X G z_range, PySem.W.mg_none_of X G z_reversed, PySem.W.mg_none_of X G z_str, PySem.W.mg_none_of X G z_tuple, PySem.W.mg_none_of X G z_zip⟩
  exact ⟨t.d_law, fun s v => .of_eq rfl, fun base _ _ => law_end (ok_law t) plain⟩
end Lw_k16

open PySem PySem.W PyProof.Rows
set_option maxHeartbeats 0 in
theorem PySem.Challenge.cw_formroads_k16_notes_as_numbers_holds : PySem.Challenge.rw_formroads_k16_notes_as_numbers.Holds := by
  w_on; o_law; k_head; (case hw => w_witness2)
  k_fill
  refine L2.walk_of (l := PySem.Challenge.rw_formroads_k16_notes_as_numbers) (n := 63) (k := 7) (x := "_law_script") (CX := fun w => L2.CX PySem.Challenge.rw_formroads_k16_notes_as_numbers.prog w) (sp := fun w => Fr.spLaw _) rfl (by decide) rfl ⟨rfl, by decide, by decide⟩ (fun w h Y => PySem.W.kIn_of Y) ?F (fun _ _ a ns hl ho hS => ⟨a, ns, rfl, hS, hl, ho, fun _ => rfl⟩) (fun _ _ _ _ _ h => Fr.no_exc h)
  case F =>
    intro w mg fa h KX G hmg
    refine' Lw_k16.all_mk KX G hmg Lw_k16.plain ?a_sizes_of ?l_sizes_of ?e_sizes_of ?p_sizes_of ?a_note_of ?l_note_of ?e_note_of ?p_note_of ?a_check_note ?l_check_note ?e_check_note ?p_check_note ?a_chosen_by ?l_chosen_by ?e_chosen_by ?p_chosen_by ?a_product_of ?l_product_of ?e_product_of ?p_product_of ?a_note_number ?l_note_number ?e_note_number ?p_note_number ?a_numbered_note ?l_numbered_note ?e_numbered_note ?p_numbered_note ?a__law_draws ?l__law_draws ?e__law_draws ?p__law_draws ?a__law_draw ?l__law_draw ?e__law_draw ?p__law_draw ?a__law_pick ?l__law_pick ?e__law_pick ?p__law_pick ?a__law_same ?l__law_same ?e__law_same ?p__law_same ?a__law_list ?l__law_list ?e__law_list ?p__law_list ?a__law_near ?l__law_near ?e__law_near ?p__law_near ?a__law_digits ?l__law_digits ?e__law_digits ?p__law_digits ?a__law_number ?l__law_number ?e__law_number ?p__law_number ?a__law_chosen_refused ?l__law_chosen_refused ?e__law_chosen_refused ?p__law_chosen_refused ?a__law_number_refused ?l__law_number_refused ?e__law_number_refused ?p__law_number_refused ?a__law_numbered_refused ?l__law_numbered_refused ?e__law_numbered_refused ?p__law_numbered_refused ?a__law_numbers_asked ?l__law_numbers_asked ?e__law_numbers_asked ?p__law_numbers_asked ?a_law ?l_law ?e_law ?p_law ?a_FormroadsError ?a_InvalidNote ?a_Unreached ?x_InvalidNote ?kp_InvalidNote ?be_InvalidNote ?ty_InvalidNote ?hd_FormroadsError ?be_FormroadsError ?ty_FormroadsError ?hd_InvalidNote ?hd_Unreached ?be_Unreached ?ty_Unreached ?hg_InvalidNote ?hk_InvalidNote ?ha_InvalidNote ?hm_InvalidNote ?hn0 ?ht0 ?su_FormroadsError_InvalidNote ?su_InvalidNote_InvalidNote ?su_Unreached_InvalidNote ?ne_Unreached_InvalidNote ?su_ValueError_InvalidNote ?z_ValueError ?z_bool ?z_divmod ?z_int ?z_isinstance ?z_len ?z_list ?z_range ?z_reversed ?z_str ?z_tuple ?z_zip
    (case a_sizes_of => k_is); (case l_sizes_of => k_is); (case e_sizes_of => k_is); (case p_sizes_of => k_is); (case a_note_of => k_is); (case l_note_of => k_is); (case e_note_of => k_is); (case p_note_of => k_is); (case a_check_note => k_is); (case l_check_note => k_is); (case e_check_note => k_is); (case p_check_note => k_is); (case a_chosen_by => k_is); (case l_chosen_by => k_is); (case e_chosen_by => k_is); (case p_chosen_by => k_is); (case a_product_of => k_is); (case l_product_of => k_is); (case e_product_of => k_is); (case p_product_of => k_is); (case a_note_number => k_is); (case l_note_number => k_is); (case e_note_number => k_is); (case p_note_number => k_is); (case a_numbered_note => k_is); (case l_numbered_note => k_is); (case e_numbered_note => k_is); (case p_numbered_note => k_is); (case a__law_draws => k_is); (case l__law_draws => k_is); (case e__law_draws => k_is); (case p__law_draws => k_is); (case a__law_draw => k_is); (case l__law_draw => k_is); (case e__law_draw => k_is); (case p__law_draw => k_is); (case a__law_pick => k_is); (case l__law_pick => k_is); (case e__law_pick => k_is); (case p__law_pick => k_is); (case a__law_same => k_is); (case l__law_same => k_is); (case e__law_same => k_is); (case p__law_same => k_is); (case a__law_list => k_is); (case l__law_list => k_is); (case e__law_list => k_is); (case p__law_list => k_is); (case a__law_near => k_is); (case l__law_near => k_is); (case e__law_near => k_is); (case p__law_near => k_is); (case a__law_digits => k_is); (case l__law_digits => k_is); (case e__law_digits => k_is); (case p__law_digits => k_is); (case a__law_number => k_is); (case l__law_number => k_is); (case e__law_number => k_is); (case p__law_number => k_is); (case a__law_chosen_refused => k_is); (case l__law_chosen_refused => k_is); (case e__law_chosen_refused => k_is); (case p__law_chosen_refused => k_is); (case a__law_number_refused => k_is); (case l__law_number_refused => k_is); (case e__law_number_refused => k_is); (case p__law_number_refused => k_is); (case a__law_numbered_refused => k_is); (case l__law_numbered_refused => k_is); (case e__law_numbered_refused => k_is); (case p__law_numbered_refused => k_is); (case a__law_numbers_asked => k_is); (case l__law_numbers_asked => k_is); (case e__law_numbers_asked => k_is); (case p__law_numbers_asked => k_is); (case a_law => k_is); (case l_law => k_is); (case e_law => k_is); (case p_law => k_is); (case a_FormroadsError => k_is); (case a_InvalidNote => k_is); (case a_Unreached => k_is); (case x_InvalidNote => k_exc); (case kp_InvalidNote => k_is); (case be_InvalidNote => k_is); (case ty_InvalidNote => k_is); (case hd_FormroadsError => k_is); (case be_FormroadsError => k_is); (case ty_FormroadsError => k_is); (case hd_InvalidNote => k_is); (case hd_Unreached => k_is); (case be_Unreached => k_is); (case ty_Unreached => k_is); (case hg_InvalidNote => k_is); (case hk_InvalidNote => k_is); (case ha_InvalidNote => k_is); (case hm_InvalidNote => k_is); (case hn0 => k_is); (case ht0 => k_is); (case su_FormroadsError_InvalidNote => k_is); (case su_InvalidNote_InvalidNote => k_is); (case su_Unreached_InvalidNote => k_is); (case ne_Unreached_InvalidNote => decide); (case su_ValueError_InvalidNote => k_is); (case z_ValueError => k_is); (case z_bool => k_is); (case z_divmod => k_is); (case z_int => k_is); (case z_isinstance => k_is); (case z_len => k_is); (case z_list => k_is); (case z_range => k_is); (case z_reversed => k_is); (case z_str => k_is); (case z_tuple => k_is); (case z_zip => k_is)
