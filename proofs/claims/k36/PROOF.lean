import PyProof.Rows.All
import HandS.ForMost
import HandS.ForExc
import HandS.Lambda
import HandS.ExcSuper
import HandS.Wide
import HandS.Codes
import HandS.TryMany
import HandS.RaiseMore
import HandS.Flow
import HandS.Conv
import HandS.Gcd
import HandS.TupAny
import HandS.TupMul
import KE.KExcSuper
import HandS.ExcIs
import KE.KExcIs
import HandS.EndTab
import HandS.EndOwn
import HandS.IsInst
import HandS.Style
import PySem.Challenge.RW_skeinturns_k36_rows_of_a_lot_counted
set_option Elab.async false
set_option linter.all false
set_option maxRecDepth 100000
namespace SK
open PySem PySem.Spec PyProof.Rows L2
/-! ### values, own heap, results -/
inductive D where
  | non | bl (b : Bool) | int (i : Int) | str (s : Str) | tup (l : List D) | ref (n : Nat) | adr (a : Addr)
inductive Cell where
  | lst (l : List D)
  | ro (l : List D)
  | tbls (T : List (Addr × Str))
abbrev OH := List Cell
inductive R (α : Type) where
  | ok (a : α) (oh : OH)
  | exc (c : Str) (w : D) (oh : OH)
  | bad
abbrev M (α : Type) := OH → R α
def R.bnd {α β : Type} (r : R α) (f : α → OH → R β) : R β := match r with
  | .ok a oh => f a oh
  | .exc c w oh => .exc c w oh
  | .bad => .bad
theorem bnd_ok {α β : Type} {a : α} {oh : OH} {f : α → OH → R β} : (R.ok a oh).bnd f = f a oh := rfl
theorem bnd_exc {α β : Type} {c : Str} {w : D} {oh : OH} {f : α → OH → R β} : (R.exc c w oh : R α).bnd f = .exc c w oh := rfl
theorem bnd_bad {α β : Type} {f : α → OH → R β} : (R.bad : R α).bnd f = .bad := rfl
abbrev Ev := List (Option D)
inductive RS where
  | nx (s : Ev) (oh : OH)
  | rt (d : D) (oh : OH)
  | bk (s : Ev) (oh : OH)
  | ct (s : Ev) (oh : OH)
  | exc (c : Str) (w : D) (s : Ev) (oh : OH)
  | bad
/-! ### what they stand for -/
/-- a list of the written part -/
def KLst (K : PySem.W.Frag) (a : Addr) (xs : List V) : Prop := ∃ (o : Obj) (its : Array Value) (n : Nat), K.lookup a = some o ∧ o.cls = .type "list" ∧ o.dict = none ∧ o.data = .seq its n ∧ its.size ≤ sizeLine ∧ Vals xs its.toList
section
variable (K : PySem.W.Frag) (H : Hp) (ρ : List Addr)
mutual
def Rep : D → V → Prop
  | .non, v => v = .non
  | .bl b, v => v = .bl b
  | .int i, v => v = .int i
  | .str s, v => v = .str s
  | .tup l, v => ∃ a xs, v = .ref a ∧ SqT K H a xs ∧ RepL l xs
  | .ref n, v => ∃ a, v = .ref a ∧ ρ[n]? = some a
  | .adr a, v => v = .ref a
def RepL : List D → List V → Prop
  | [], vs => vs = []
  | d :: ds, vs => ∃ v vs', vs = v :: vs' ∧ Rep d v ∧ RepL ds vs'
end
def RepC : Cell → Addr → Prop
  | .lst l, a => ∃ xs, H a = some (.lst xs) ∧ RepL K H ρ l xs
  | .ro l, a => ∃ xs, ((∃ o, H a = some (.frz o (.lst xs))) ∨ KLst K a xs) ∧ RepL K H ρ l xs
  | .tbls T, a => (∃ ps, H a = some (.tbl ps)) ∧ ∃ p ∈ T, p.1 = a
def RepS : Ev → L2.St → Prop
  | [], σ => σ = []
  | none :: s, σ => ∃ v σ', σ = v :: σ' ∧ RepS s σ'
  | some d :: s, σ => ∃ v σ', σ = some v :: σ' ∧ Rep K H ρ d v ∧ RepS s σ'
structure RH (oh : OH) : Prop where
  len : ρ.length = oh.length
  nd : ∀ (m n : Nat) (a : Addr) (l l' : List D), oh[m]? = some (.lst l) → oh[n]? = some (.lst l') → ρ[m]? = some a → ρ[n]? = some a → m = n
  cell : ∀ (n : Nat) (c : Cell) (a : Addr), oh[n]? = some c → ρ[n]? = some a → RepC K H ρ c a
  tab : ∀ T, oh[1]? = some (.tbls T) → LamX.Tabs T H
  tab1 : ∀ (n : Nat) T, oh[n]? = some (.tbls T) → n = 1
end
structure Later (K : PySem.W.Frag) (ρ : List Addr) (H : Hp) (ρ' : List Addr) (H' : Hp) : Prop where
  pre : ρ <+: ρ'
  tup : ∀ (a : Addr) (xs : List V), SqT K H a xs → SqT K H' a xs
  frz : ∀ (a : Addr) (o : Obj) (u : HO), H a = some (.frz o u) → H' a = some (.frz o u)
section
variable {K : PySem.W.Frag} {H H1 H2 : Hp} {ρ ρ1 ρ2 : List Addr}
theorem Later.refl : Later K ρ H ρ H := ⟨List.prefix_rfl, fun _ _ h => h, fun _ _ _ h => h⟩
theorem Later.trans (a : Later K ρ H ρ1 H1) (b : Later K ρ1 H1 ρ2 H2) : Later K ρ H ρ2 H2 := ⟨a.pre.trans b.pre, fun x xs h => b.tup _ _ (a.tup _ _ h), fun x o u h => b.frz _ _ _ (a.frz _ _ _ h)⟩
theorem pre_get {ρ ρ1 : List Addr} (h : ρ <+: ρ1) {n : Nat} {a : Addr} (e : ρ[n]? = some a) : ρ1[n]? = some a := by
  obtain ⟨t, rfl⟩ := h
  rw [List.getElem?_append_left]
  · exact e
  · exact (List.getElem?_eq_some_iff.mp e).1
mutual
theorem Rep.mono (L : Later K ρ H ρ1 H1) : ∀ (d : D) {v : V}, Rep K H ρ d v → Rep K H1 ρ1 d v
  | .non, _, h => by simpa only [Rep] using h
  | .bl _, _, h => by simpa only [Rep] using h
  | .int _, _, h => by simpa only [Rep] using h
  | .str _, _, h => by simpa only [Rep] using h
  | .tup l, _, h => by
    simp only [Rep] at h ⊢
    obtain ⟨a, xs, e, s, r⟩ := h
    exact ⟨a, xs, e, L.tup _ _ s, RepL.mono L l r⟩
  | .ref n, _, h => by
    simp only [Rep] at h ⊢
    obtain ⟨a, e, q⟩ := h
    exact ⟨a, e, pre_get L.pre q⟩
  | .adr _, _, h => by simpa only [Rep] using h
theorem RepL.mono (L : Later K ρ H ρ1 H1) : ∀ (ds : List D) {vs : List V}, RepL K H ρ ds vs → RepL K H1 ρ1 ds vs
  | [], _, h => by simpa only [RepL] using h
  | d :: ds, _, h => by
    simp only [RepL] at h ⊢
    obtain ⟨v, vs', e, r, t⟩ := h
    exact ⟨v, vs', e, Rep.mono L d r, RepL.mono L ds t⟩
end
theorem RepS.mono (L : Later K ρ H ρ1 H1) : ∀ (s : Ev) {σ : L2.St}, RepS K H ρ s σ → RepS K H1 ρ1 s σ
  | [], _, h => h
  | none :: s, _, h => by
    obtain ⟨v, σ', e, r⟩ := h
    exact ⟨v, σ', e, RepS.mono L s r⟩
  | some d :: s, _, h => by
    obtain ⟨v, σ', e, r, t⟩ := h
    exact ⟨v, σ', e, Rep.mono L d r, RepS.mono L s t⟩
theorem RepS.get : ∀ {s : Ev} {σ : L2.St} {i : Nat} {d : D}, RepS K H ρ s σ → s[i]? = some (some d) → ∃ v, σ[i]? = some (some v) ∧ Rep K H ρ d v
  | [], _, _, _, _, e => by simp at e
  | none :: s, _, 0, _, _, e => by simp at e
  | some x :: s, _, 0, d, h, e => by
    obtain ⟨v, σ', rfl, r, _⟩ := h
    simp at e
    subst e
    exact ⟨v, rfl, r⟩
  | none :: s, _, i + 1, d, h, e => by
    obtain ⟨v, σ', rfl, t⟩ := h
    exact RepS.get (i := i) t e
  | some x :: s, _, i + 1, d, h, e => by
    obtain ⟨v, σ', rfl, r, t⟩ := h
    exact RepS.get (i := i) t e
theorem RepS.set {d : D} {v : V} (r : Rep K H ρ d v) : ∀ {s : Ev} {σ : L2.St} (i : Nat), RepS K H ρ s σ → RepS K H ρ (s.set i (some d)) (σ.set i (some v))
  | [], _, _, h => by
    simp only [RepS] at h
    subst h
    exact rfl
  | none :: s, _, 0, h => by
    obtain ⟨v', σ', rfl, t⟩ := h
    exact ⟨v, σ', rfl, r, t⟩
  | some x :: s, _, 0, h => by
    obtain ⟨v', σ', rfl, _, t⟩ := h
    exact ⟨v, σ', rfl, r, t⟩
  | none :: s, _, i + 1, h => by
    obtain ⟨v', σ', rfl, t⟩ := h
    exact ⟨v', σ'.set i (some v), rfl, RepS.set r i t⟩
  | some x :: s, _, i + 1, h => by
    obtain ⟨v', σ', rfl, q, t⟩ := h
    exact ⟨v', σ'.set i (some v), rfl, q, RepS.set r i t⟩
theorem RepL.length : ∀ {ds : List D} {vs : List V}, RepL K H ρ ds vs → ds.length = vs.length
  | [], _, h => by
    simp only [RepL] at h
    subst h; rfl
  | d :: ds, _, h => by
    simp only [RepL] at h
    obtain ⟨v, vs', rfl, r, t⟩ := h
    show ds.length + 1 = vs'.length + 1
    rw [RepL.length t]
theorem RepL.get : ∀ {ds : List D} {vs : List V} {i : Nat} {d : D}, RepL K H ρ ds vs → ds[i]? = some d → ∃ v, vs[i]? = some v ∧ Rep K H ρ d v
  | [], _, _, _, _, e => by simp at e
  | x :: ds, _, 0, d, h, e => by
    simp only [RepL] at h
    obtain ⟨v, vs', rfl, r, t⟩ := h
    simp at e; subst e
    exact ⟨v, rfl, r⟩
  | x :: ds, _, i + 1, d, h, e => by
    simp only [RepL] at h
    obtain ⟨v, vs', rfl, r, t⟩ := h
    exact RepL.get (i := i) t e
theorem RepL.append : ∀ {ds es : List D} {vs ws : List V}, RepL K H ρ ds vs → RepL K H ρ es ws → RepL K H ρ (ds ++ es) (vs ++ ws)
  | [], _, _, _, h, h2 => by
    simp only [RepL] at h
    subst h; exact h2
  | x :: ds, _, _, _, h, h2 => by
    simp only [RepL] at h
    obtain ⟨v, vs', rfl, r, t⟩ := h
    show RepL K H ρ (x :: (ds ++ _)) _
    simp only [RepL]
    exact ⟨v, _, rfl, r, RepL.append t h2⟩
theorem RepL.set {d : D} {v : V} (r : Rep K H ρ d v) : ∀ {ds : List D} {vs : List V} (i : Nat), RepL K H ρ ds vs → RepL K H ρ (ds.set i d) (vs.set i v)
  | [], _, _, h => by
    simp only [RepL] at h
    subst h; simp [RepL]
  | x :: ds, _, 0, h => by
    simp only [RepL] at h
    obtain ⟨v', vs', rfl, _, t⟩ := h
    show RepL K H ρ (d :: ds) _
    simp only [RepL]
    exact ⟨v, _, rfl, r, t⟩
  | x :: ds, _, i + 1, h => by
    simp only [RepL] at h
    obtain ⟨v', vs', rfl, q, t⟩ := h
    show RepL K H ρ (x :: ds.set i d) _
    simp only [RepL]
    exact ⟨v', _, rfl, q, RepL.set r i t⟩
theorem RepL.take : ∀ {ds : List D} {vs : List V} (i : Nat), RepL K H ρ ds vs → RepL K H ρ (ds.take i) (vs.take i)
  | _, _, 0, _ => by simp [RepL]
  | [], _, i + 1, h => by
    simp only [RepL] at h
    subst h; simp [RepL]
  | x :: ds, _, i + 1, h => by
    simp only [RepL] at h
    obtain ⟨v', vs', rfl, q, t⟩ := h
    show RepL K H ρ (x :: ds.take i) _
    simp only [RepL]
    exact ⟨v', _, rfl, q, RepL.take i t⟩
theorem RepL.drop : ∀ {ds : List D} {vs : List V} (i : Nat), RepL K H ρ ds vs → RepL K H ρ (ds.drop i) (vs.drop i)
  | _, _, 0, h => h
  | [], _, i + 1, h => by
    simp only [RepL] at h
    subst h; simp [RepL]
  | x :: ds, _, i + 1, h => by
    simp only [RepL] at h
    obtain ⟨v', vs', rfl, q, t⟩ := h
    exact RepL.drop i t
theorem Later.rep (L : Later K ρ H ρ1 H1) {d : D} {v : V} (h : Rep K H ρ d v) : Rep K H1 ρ1 d v := Rep.mono L d h
theorem Later.repl (L : Later K ρ H ρ1 H1) {d : List D} {v : List V} (h : RepL K H ρ d v) : RepL K H1 ρ1 d v := RepL.mono L d h
theorem Later.reps (L : Later K ρ H ρ1 H1) {d : Ev} {v : L2.St} (h : RepS K H ρ d v) : RepS K H1 ρ1 d v := RepS.mono L d h
/-- a new object that is no own cell -/
theorem Later.fresh {p : Addr} {o : HO} (hp : H p = none) : Later K ρ H ρ (upd H p o) := by
  refine ⟨List.prefix_rfl, fun a xs h => ?_, fun a ob u h => ?_⟩
  · rcases h with (h | ⟨ob, h⟩) | h
    · exact .inl (.inl (by rw [upd_ne (ne_of_none h hp)]; exact h))
    · exact .inl (.inr ⟨ob, by rw [upd_ne (ne_of_none h hp)]; exact h⟩)
    · exact .inr h
  · rw [upd_ne (ne_of_none h hp)]; exact h
/-- a list is written -/
theorem Later.write {p : Addr} {xs : List V} {o : HO} (hp : H p = some (.lst xs)) : Later K ρ H ρ (upd H p o) := by
  refine ⟨List.prefix_rfl, fun a xs h => ?_, fun a ob u h => ?_⟩
  · rcases h with (h | ⟨ob, h⟩) | h
    · exact .inl (.inl (by rw [upd_ne (ne_of h hp (fun z => nomatch z))]; exact h))
    · exact .inl (.inr ⟨ob, by rw [upd_ne (ne_of h hp (fun z => nomatch z))]; exact h⟩)
    · exact .inr h
  · rw [upd_ne (ne_of h hp (fun z => nomatch z))]; exact h
theorem tabs_write {T : List (Addr × Str)} {p : Addr} {xs : List V} {o : HO} (hp : H p = some (.lst xs)) (t : LamX.Tabs T H) : LamX.Tabs T (upd H p o) := fun q hq => by
  obtain ⟨ps, h1, h2, h3⟩ := t q hq
  refine ⟨ps, by rw [upd_ne (ne_of h1 hp (fun z => nomatch z))]; exact h1, h2, fun pos cv hc => ?_⟩
  obtain ⟨c, e1, e2⟩ := h3 pos cv hc
  refine ⟨c, e1, ?_⟩
  rw [upd_ne (ne_of e2 hp (fun z => by unfold LamX.CodeO at z; cases z))]
  exact e2
theorem RepC.mono (L : Later K ρ H ρ1 H1) {c : Cell} {a : Addr} (h : RepC K H ρ c a) (hh : ∀ xs, H a = some (.lst xs) → H1 a = some (.lst xs)) (hp : ∀ ps, H a = some (.tbl ps) → ∃ qs, H1 a = some (.tbl qs)) : RepC K H1 ρ1 c a := by
  cases c with
  | lst l =>
    obtain ⟨xs, e, r⟩ := h
    exact ⟨xs, hh _ e, L.repl r⟩
  | ro l =>
    obtain ⟨xs, e, r⟩ := h
    refine ⟨xs, ?_, L.repl r⟩
    rcases e with ⟨o, e⟩ | e
    · exact .inl ⟨o, L.frz _ _ _ e⟩
    · exact .inr e
  | tbls T => exact ⟨hp _ h.1.choose_spec, h.2⟩
theorem tabs_fresh {T : List (Addr × Str)} {p : Addr} {o : HO} (hp : H p = none) (t : LamX.Tabs T H) : LamX.Tabs T (upd H p o) := t.ext fun b u e => by rw [upd_ne (ne_of_none e hp)]; exact e
/-- the cells stand through a new object -/
theorem RH.fresh {oh : OH} {p : Addr} {o : HO} (h : RH K H ρ oh) (hp : H p = none) : RH K (upd H p o) ρ oh :=
  ⟨h.len, h.nd, fun n c a e1 e2 => (h.cell n c a e1 e2).mono (.fresh hp) (fun xs e => by rw [upd_ne (ne_of_none e hp)]; exact e) fun ps e => ⟨ps, by rw [upd_ne (ne_of_none e hp)]; exact e⟩, fun T e => tabs_fresh hp (h.tab T e), h.tab1⟩
theorem RepC.sq {l : List D} {a : Addr} (h : RepC K H ρ (.ro l) a) : ∃ xs, SqL K H a xs ∧ RepL K H ρ l xs := by
  obtain ⟨xs, e, r⟩ := h
  rcases e with e | e
  · exact ⟨xs, .inl (.inr e), r⟩
  · exact ⟨xs, .inr e, r⟩
/-- a new own cell: the address is told -/
theorem RH.push {oh : OH} {p : Addr} {xs : List V} {l : List D} (h : RH K H ρ oh) (hp : H p = none) (r : RepL K H ρ l xs) :
    RH K (upd H p (.lst xs)) (ρ ++ [p]) (oh ++ [.lst l]) ∧ Later K ρ H (ρ ++ [p]) (upd H p (.lst xs)) ∧ (ρ ++ [p])[oh.length]? = some p := by
  have L1 : Later K ρ H ρ (upd H p (.lst xs)) := .fresh hp
  have L2 : Later K ρ (upd H p (.lst xs)) (ρ ++ [p]) (upd H p (.lst xs)) := ⟨List.prefix_append _ _, fun _ _ h => h, fun _ _ _ h => h⟩
  have L := L1.trans L2
  have gl : (ρ ++ [p])[oh.length]? = some p := by
    rw [← h.len]; simp
  refine ⟨⟨by simp [h.len], ?_, fun n c a e1 e2 => ?_, fun T e => ?_, fun n T e => ?_⟩, L, gl⟩
  · intro m n b l1 l2 e1 e2 e3 e4
    have old : ∀ (m : Nat) (l1 : List D), (oh ++ [Cell.lst l])[m]? = some (.lst l1) → (ρ ++ [p])[m]? = some b → (m < oh.length ∧ oh[m]? = some (.lst l1) ∧ ρ[m]? = some b ∧ b ≠ p) ∨ (m = oh.length ∧ b = p) := fun m l1 e1 e3 => by
      by_cases hm : m < oh.length
      · rw [List.getElem?_append_left hm] at e1
        rw [List.getElem?_append_left (by rw [h.len]; exact hm)] at e3
        obtain ⟨xs', e, _⟩ := h.cell m _ b e1 e3
        exact .inl ⟨hm, e1, e3, ne_of_none e hp⟩
      · have hm' := (List.getElem?_eq_some_iff.mp e1).1
        simp at hm'
        have em : m = oh.length := by omega
        subst em
        rw [gl] at e3
        cases e3
        exact .inr ⟨rfl, rfl⟩
    rcases old m l1 e1 e3 with ⟨h1, k1, k2, k3⟩ | ⟨h1, k1⟩ <;> rcases old n l2 e2 e4 with ⟨h2, k4, k5, k6⟩ | ⟨h2, k4⟩
    · exact h.nd m n b _ _ k1 k4 k2 k5
    · exact absurd k4 k3
    · exact absurd k1 k6
    · omega
  · by_cases hn : n < oh.length
    · rw [List.getElem?_append_left hn] at e1
      rw [List.getElem?_append_left (by rw [h.len]; exact hn)] at e2
      exact (h.cell n c a e1 e2).mono L (fun xs e => by rw [upd_ne (ne_of_none e hp)]; exact e) fun ps e => ⟨ps, by rw [upd_ne (ne_of_none e hp)]; exact e⟩
    · have hn' : n = oh.length := by
        have := (List.getElem?_eq_some_iff.mp e1).1
        simp at this
        omega
      subst hn'
      rw [gl] at e2
      cases e2
      simp at e1
      subst e1
      exact ⟨xs, upd_same, L.repl r⟩
  · refine tabs_fresh hp (h.tab T ?_)
    by_cases hn : 1 < oh.length
    · rw [List.getElem?_append_left hn] at e
      exact e
    · have hn' := (List.getElem?_eq_some_iff.mp e).1
      simp at hn'
      have e1 : oh.length = 1 := by omega
      rw [List.getElem?_append_right (by omega), e1] at e
      simp at e
  · by_cases hn : n < oh.length
    · rw [List.getElem?_append_left hn] at e
      exact h.tab1 n T e
    · have hn' := (List.getElem?_eq_some_iff.mp e).1
      simp at hn'
      have e1 : n = oh.length := by omega
      rw [List.getElem?_append_right (by omega), e1] at e
      simp at e
/-- an own cell is written -/
theorem RH.write {oh : OH} {n : Nat} {p : Addr} {l0 l : List D} {xs0 xs : List V} (h : RH K H ρ oh) (e : oh[n]? = some (.lst l0)) (ep : ρ[n]? = some p) (ex : H p = some (.lst xs0)) (r : RepL K H ρ l xs) :
    RH K (upd H p (.lst xs)) ρ (oh.set n (.lst l)) ∧ Later K ρ H ρ (upd H p (.lst xs)) := by
  have L : Later K ρ H ρ (upd H p (.lst xs)) := .write ex
  have eqn : ∀ (m : Nat) (l1 : List D), (oh.set n (Cell.lst l))[m]? = some (.lst l1) → ∃ l2, oh[m]? = some (.lst l2) := fun m l1 e1 => by
    by_cases hm : m = n
    · subst hm; exact ⟨_, e⟩
    · rw [List.getElem?_set_ne (Ne.symm hm)] at e1
      exact ⟨_, e1⟩
  refine ⟨⟨by simp [h.len], fun m k b l1 l2 e1 e2 e3 e4 => by
    obtain ⟨l3, k1⟩ := eqn m l1 e1
    obtain ⟨l4, k2⟩ := eqn k l2 e2
    exact h.nd m k b _ _ k1 k2 e3 e4, fun m c a e1 e2 => ?_, fun T eT => tabs_write ex (h.tab T ?_), fun m T eT => h.tab1 m T ?_⟩, L⟩
  rotate_left
  · by_cases hn : n = 1
    · subst hn
      rw [List.getElem?_set_self (List.getElem?_eq_some_iff.mp e).1] at eT
      cases eT
    · rw [List.getElem?_set_ne hn] at eT
      exact eT
  · by_cases hn : n = m
    · subst hn
      rw [List.getElem?_set_self (List.getElem?_eq_some_iff.mp e).1] at eT
      cases eT
    · rw [List.getElem?_set_ne hn] at eT
      exact eT
  by_cases hm : m = n
  · subst hm
    rw [ep] at e2
    cases e2
    rw [List.getElem?_set_self (List.getElem?_eq_some_iff.mp e).1] at e1
    cases e1
    exact ⟨xs, upd_same, L.repl r⟩
  · rw [List.getElem?_set_ne (Ne.symm hm)] at e1
    cases c with
    | lst l1 =>
      have ha : a ≠ p := fun z => by
        subst z
        exact hm (h.nd m n a _ _ e1 e e2 ep)
      obtain ⟨ys, ey, r1⟩ := h.cell m _ a e1 e2
      exact ⟨ys, by rw [upd_ne ha]; exact ey, L.repl r1⟩
    | ro l1 =>
      obtain ⟨ys, ey, r1⟩ := h.cell m _ a e1 e2
      refine ⟨ys, ?_, L.repl r1⟩
      rcases ey with ⟨o, ey⟩ | ey
      · exact .inl ⟨o, L.frz _ _ _ ey⟩
      · exact .inr ey
    | tbls T =>
      obtain ⟨⟨ps, ep'⟩, q⟩ := h.cell m _ a e1 e2
      exact ⟨⟨ps, by rw [upd_ne (ne_of ep' ex (fun z => nomatch z))]; exact ep'⟩, q⟩
end
/-! ### ends -/
section
variable (K : PySem.W.Frag) (mg : Str → Option Value)
def Out {α : Type} (W : XK) (ρ : List Addr) (H : Hp) (r : R α) (T : α → OH → List Addr → Hp → Prop) : Prop := match r with
  | .ok a oh => ∀ ρ' H', Later K ρ H ρ' H' → RH K H' ρ' oh → T a oh ρ' H'
  | .exc c w oh => ∀ ρ' H' dd v C, Later K ρ H ρ' H' → RH K H' ρ' oh → Rep K H' ρ' w v → mg c = some (.ref C) → H' dd = some (.xd [("what", v)]) → W (.ref C) (some dd) H'
  | .bad => False
def OutS (W : WX) (ρ : List Addr) (H : Hp) (r : RS) (E : Ends) : Prop := match r with
  | .nx s oh => ∀ ρ' H' σ', Later K ρ H ρ' H' → RH K H' ρ' oh → RepS K H' ρ' s σ' → E.nx σ' H'
  | .rt d oh => ∀ ρ' H' v, Later K ρ H ρ' H' → RH K H' ρ' oh → Rep K H' ρ' d v → E.rt v H'
  | .bk s oh => ∀ ρ' H' σ', Later K ρ H ρ' H' → RH K H' ρ' oh → RepS K H' ρ' s σ' → E.bk σ' H'
  | .ct s oh => ∀ ρ' H' σ', Later K ρ H ρ' H' → RH K H' ρ' oh → RepS K H' ρ' s σ' → E.ct σ' H'
  | .exc c w s oh => ∀ ρ' H' σ' dd v C, Later K ρ H ρ' H' → RH K H' ρ' oh → RepS K H' ρ' s σ' → Rep K H' ρ' w v → mg c = some (.ref C) → H' dd = some (.xd [("what", v)]) → W (.ref C) (some dd) σ' H'
  | .bad => False
end
section
variable {K : PySem.W.Frag} {mg : Str → Option Value} {W : XK} {ρ ρ1 : List Addr} {H H1 : Hp}
theorem Out.later {α : Type} {r : R α} {T : α → OH → List Addr → Hp → Prop} (h : Out K mg W ρ H r T) (L : Later K ρ H ρ1 H1) : Out K mg W ρ1 H1 r T := by
  cases r with
  | ok a oh => exact fun ρ' H' L' => h ρ' H' (L.trans L')
  | exc c w oh => exact fun ρ' H' dd v C L' => h ρ' H' dd v C (L.trans L')
  | bad => exact h
theorem Out.imp {α : Type} {r : R α} {T T' : α → OH → List Addr → Hp → Prop} (h : Out K mg W ρ H r T) (f : ∀ a oh ρ' H', Later K ρ H ρ' H' → RH K H' ρ' oh → T a oh ρ' H' → T' a oh ρ' H') : Out K mg W ρ H r T' := by
  cases r with
  | ok a oh => exact fun ρ' H' L' rh => f _ _ _ _ L' rh (h ρ' H' L' rh)
  | exc c w oh => exact h
  | bad => exact h
theorem Out.bnd {α β : Type} {r : R α} {f : α → OH → R β} {T : β → OH → List Addr → Hp → Prop} (h : Out K mg W ρ H (r.bnd f) T) :
    Out K mg W ρ H r (fun a oh ρ' H' => RH K H' ρ' oh ∧ Later K ρ H ρ' H' ∧ Out K mg W ρ' H' (f a oh) T) := by
  cases r with
  | ok a oh => exact fun ρ' H' L' rh => ⟨rh, L', Out.later (r := f a oh) h L'⟩
  | exc c w oh => exact h
  | bad => exact h
theorem OutS.later {W : WX} {r : RS} {E : Ends} (h : OutS K mg W ρ H r E) (L : Later K ρ H ρ1 H1) : OutS K mg W ρ1 H1 r E := by
  cases r with
  | nx s oh => exact fun ρ' H' σ' L' => h ρ' H' σ' (L.trans L')
  | rt d oh => exact fun ρ' H' σ' L' => h ρ' H' σ' (L.trans L')
  | bk s oh => exact fun ρ' H' σ' L' => h ρ' H' σ' (L.trans L')
  | ct s oh => exact fun ρ' H' σ' L' => h ρ' H' σ' (L.trans L')
  | exc c w s oh => exact fun ρ' H' σ' dd v C L' => h ρ' H' σ' dd v C (L.trans L')
  | bad => exact h
end
/-! ### readings that are programs -/
abbrev TV := D → OH → List Addr → Hp → Prop
def tE (X : Cx) (W : WX) (m : Ev → M D) : TE := fun σ H Q => ∃ ρ oh s, RH X.K H ρ oh ∧ RepS X.K H ρ s σ ∧
  Out X.K X.mg (fun c d H' => W c d σ H') ρ H (m s oh) fun d _ ρ' H' => ∀ v, Rep X.K H' ρ' d v → Q v H'
def tT (X : Cx) (W : WX) (m : Ev → M Bool) : TT := fun σ H Q => ∃ ρ oh s, RH X.K H ρ oh ∧ RepS X.K H ρ s σ ∧
  Out X.K X.mg (fun c d H' => W c d σ H') ρ H (m s oh) fun b _ ρ' H' => Q b H'
def tA (X : Cx) (W : WX) (m : Ev → M (List D)) : TA := fun σ H Q => ∃ ρ oh s, RH X.K H ρ oh ∧ RepS X.K H ρ s σ ∧
  Out X.K X.mg (fun c d H' => W c d σ H') ρ H (m s oh) fun ds _ ρ' H' => ∀ vs, RepL X.K H' ρ' ds vs → Q vs H'
def tS (X : Cx) (W : WX) (m : Ev → OH → RS) : TS := fun D σ H => ∃ ρ oh s, RH X.K H ρ oh ∧ RepS X.K H ρ s σ ∧ OutS X.K X.mg W ρ H (m s oh) D
abbrev RE (X : Cx) (W : WX) (e : Expr) (m : Ev → M D) : Prop := PE X e (tE X W m)
abbrev RT (X : Cx) (W : WX) (e : Expr) (m : Ev → M Bool) : Prop := PT X e (tT X W m)
abbrev RA (X : Cx) (W : WX) (e : List Expr) (m : Ev → M (List D)) : Prop := PA X e (tA X W m)
abbrev RSt (X : Cx) (W : WX) (e : Stmt) (m : Ev → OH → RS) : Prop := PS X e (tS X W m)
abbrev RSs (X : Cx) (W : WX) (e : List Stmt) (m : Ev → OH → RS) : Prop := PSs X e (tS X W m)
end SK
namespace L2
open PySem PySem.Spec PyProof.Rows
theorem PE.imp {X : Cx} {e : Expr} {t t' : TE} (h : PE X e t) (f : ∀ σ H Q, t' σ H Q → t σ H Q) : PE X e t' := ⟨fun pins s σ H Q I q => h.run pins s σ H Q I (f _ _ _ q)⟩
theorem PT.imp {X : Cx} {e : Expr} {t t' : TT} (h : PT X e t) (f : ∀ σ H Q, t' σ H Q → t σ H Q) : PT X e t' := ⟨fun pins s σ H Q I q => h.run pins s σ H Q I (f _ _ _ q)⟩
theorem PW.imp {X : Cx} {e : Expr} {t t' : TT} (h : PW X e t) (f : ∀ σ H Q, t' σ H Q → t σ H Q) : PW X e t' := ⟨fun wh pins s σ H Q I q => h.run wh pins s σ H Q I (f _ _ _ q)⟩
theorem PA.imp {X : Cx} {e : List Expr} {t t' : TA} (h : PA X e t) (f : ∀ σ H Q, t' σ H Q → t σ H Q) : PA X e t' := ⟨fun pos pins s σ H Q I q => h.run pos pins s σ H Q I (f _ _ _ q)⟩
theorem PS.imp {X : Cx} {e : Stmt} {t t' : TS} (h : PS X e t) (f : ∀ D σ H, t' D σ H → t D σ H) : PS X e t' := ⟨fun pins s σ H D I q => h.run pins s σ H D I (f _ _ _ q)⟩
theorem PSs.imp {X : Cx} {e : List Stmt} {t t' : TS} (h : PSs X e t) (f : ∀ D σ H, t' D σ H → t D σ H) : PSs X e t' := ⟨fun pins s σ H D I q => h.run pins s σ H D I (f _ _ _ q)⟩
end L2
namespace SK
open PySem PySem.Spec PyProof.Rows L2
/-! ### names, constants -/
def eVar (i : Nat) : Ev → M D := fun s oh => match s[i]? with
  | some (some d) => .ok d oh
  | _ => .bad
def eC (d : D) : Ev → M D := fun _ oh => .ok d oh
section
variable {X : Cx} {W : WX}
theorem re_var {i : Nat} {x : Str} {pos : Pos} (hN : X.N[i]? = some x) (hv : Vis X.env.scope x) (hd : (x == ("__debug__" : Str)) = false := by decide) (hcd : (x == ("__classdict__" : Str)) = false := by decide) : RE X W (.Name x pos) (eVar i) := by
  refine (pe_var hN hv hd hcd).imp fun σ H Q ⟨ρ, oh, s, rh, rs, h⟩ => ?_
  unfold eVar at h
  cases e : s[i]? with
  | none => rw [e] at h; exact h.elim
  | some o =>
    cases o with
    | none => rw [e] at h; exact h.elim
    | some d =>
      rw [e] at h
      obtain ⟨v, ev, r⟩ := rs.get e
      exact ⟨v, ev, h ρ H .refl rh v r⟩
theorem tC_imp {v : V} {d : D} (hr : ∀ K H ρ, Rep K H ρ d v) : ∀ σ H Q, tE X W (eC d) σ H Q → tC v σ H Q := fun σ H Q ⟨ρ, oh, s, rh, rs, h⟩ => h ρ H .refl rh v (hr _ _ _)
theorem re_int {i j pos} : RE X W (.Constant (.int i) j pos) (eC (.int i)) := pe_int.imp (tC_imp fun _ _ _ => by simp [Rep])
theorem re_bl {b j pos} : RE X W (.Constant (.bool b) j pos) (eC (.bl b)) := pe_bl.imp (tC_imp fun _ _ _ => by simp [Rep])
theorem re_non {j pos} : RE X W (.Constant .none j pos) (eC .non) := pe_non.imp (tC_imp fun _ _ _ => by simp [Rep])
theorem re_str {x j pos} : RE X W (.Constant (.str x) j pos) (eC (.str x)) := pe_str.imp (tC_imp fun _ _ _ => by simp [Rep])
theorem re_gint {x : Str} {i : Int} {tk : Tok} {pos : Pos} (hm : X.mg x = some (.int i tk)) (hg : Gl X x) (hd : (x == ("__debug__" : Str)) = false := by decide) : RE X W (.Name x pos) (eC (.int i)) :=
  (pe_glob hg hm (v := .int i) ⟨tk, rfl⟩ hd).imp (tC_imp fun _ _ _ => by simp [Rep])
theorem re_gstr {x i : Str} {tk : Tok} {pos : Pos} (hm : X.mg x = some (.str i tk)) (hg : Gl X x) (hd : (x == ("__debug__" : Str)) = false := by decide) : RE X W (.Name x pos) (eC (.str i)) :=
  (pe_glob hg hm (v := .str i) ⟨tk, rfl⟩ hd).imp (tC_imp fun _ _ _ => by simp [Rep])
end
/-! ### operators of values -/
abbrev P1 := D → OH → Option (D × OH)
abbrev P2 := D → D → OH → Option (D × OH)
def lf (o : Option (D × OH)) : R D := match o with
  | some (d, oh) => .ok d oh
  | none => .bad
def e1 (p : P1) (a : Ev → M D) : Ev → M D := fun s oh => (a s oh).bnd fun x oh => lf (p x oh)
def e2 (p : P2) (a b : Ev → M D) : Ev → M D := fun s oh => (a s oh).bnd fun x oh => (b s oh).bnd fun y oh => lf (p x y oh)
/-- what is told of an answer -/
def OutP (X : Cx) (ρ : List Addr) (H : Hp) (o : Option (D × OH)) (Q : VK) : Prop := match o with
  | some (d, oh) => ∀ ρ' H' v, Later X.K ρ H ρ' H' → RH X.K H' ρ' oh → Rep X.K H' ρ' d v → Q v H'
  | none => False
theorem OutP.of {X : Cx} {W : XK} {ρ : List Addr} {H : Hp} {o : Option (D × OH)} {Q : VK} (h : Out X.K X.mg W ρ H (lf o) fun d _ ρ' H' => ∀ v, Rep X.K H' ρ' d v → Q v H') : OutP X ρ H o Q := by
  cases o with
  | none => exact h
  | some p =>
    obtain ⟨d, oh⟩ := p
    exact fun ρ' H' v L rh r => h ρ' H' L rh v r
def rP1 (X : Cx) (p : P1) : V → Hp → VK → Prop := fun x H Q => ∃ ρ oh dx, RH X.K H ρ oh ∧ Rep X.K H ρ dx x ∧ OutP X ρ H (p dx oh) Q
def rP (X : Cx) (p : P2) : R2 := fun x y H Q => ∃ ρ oh dx dy, RH X.K H ρ oh ∧ Rep X.K H ρ dx x ∧ Rep X.K H ρ dy y ∧ OutP X ρ H (p dx dy oh) Q
section
variable {X : Cx} {W : WX} {a b : Expr} {ma mb : Ev → M D} {pos : Pos}
theorem tOp_imp {p : P2} : ∀ σ H Q, tE X W (e2 p ma mb) σ H Q → tOp (rP X p) (tE X W ma) (tE X W mb) σ H Q := fun σ H Q ⟨ρ, oh, s, rh, rs, h⟩ => by
  refine ⟨ρ, oh, s, rh, rs, (Out.bnd h).imp fun dx oh1 ρ1 H1 L1 rh1 ⟨_, _, h1⟩ v rv => ?_⟩
  refine ⟨ρ1, oh1, s, rh1, L1.reps rs, (Out.bnd h1).imp fun dy oh2 ρ2 H2 L2 rh2 ⟨_, _, h2⟩ u ru => ?_⟩
  exact ⟨ρ2, oh2, dx, dy, rh2, L2.rep rv, ru, .of h2⟩
theorem re_op {op : Operator} {p : P2} (ho : OpR X (binaryOp op) (rP X p)) (ha : RE X W a ma) (hb : RE X W b mb) : RE X W (.BinOp a op b pos) (e2 p ma mb) := (pe_op ho ha hb).imp tOp_imp
theorem re_un {op : UnaryOp} {p : P1} (ho : UnR X (unaryOp op) (rP1 X p)) (ha : RE X W a ma) : RE X W (.UnaryOp op a pos) (e1 p ma) := (pe_un ho ha).imp fun σ H Q ⟨ρ, oh, s, rh, rs, h⟩ => by
  refine ⟨ρ, oh, s, rh, rs, (Out.bnd h).imp fun dx oh1 ρ1 H1 L1 rh1 ⟨_, _, h1⟩ v rv => ?_⟩
  exact ⟨ρ1, oh1, dx, rh1, rv, .of h1⟩
theorem re_cmp {op : CmpOp} {p : P2} (ho : OpR X (compareOp op) (rP X p)) (ha : RE X W a ma) (hb : RE X W b mb) (hm : behindInMarks op b = false) : RE X W (.Compare a [op] [b] pos) (e2 p ma mb) := (pe_cmpR ho ha hb hm).imp tOp_imp
theorem re_ix {p : P2} (hr : IxR X (rP X p)) (ha : RE X W a ma) (hb : RE X W b mb) (hs : PlainIx b := by intro _ _; rfl) : RE X W (.Subscript a b pos) (e2 p ma mb) := (pe_ix hr ha hb hs).imp tOp_imp
/-- tests -/
def tB1 (m : Ev → M D) : Ev → M Bool := fun s oh => (m s oh).bnd fun d oh => match d with
  | .bl b => .ok b oh
  | _ => .bad
theorem rt_cmp {op : CmpOp} {p : P2} (ho : OpR X (compareOp op) (rP X p)) (ha : RE X W a ma) (hb : RE X W b mb) (hm : behindInMarks op b = false) : RT X W (.Compare a [op] [b] pos) (tB1 (e2 p ma mb)) := by
  refine (pt_cmpR ho ha hb hm).imp fun σ H Q ⟨ρ, oh, s, rh, rs, h⟩ => ?_
  refine tOp_imp σ H _ ⟨ρ, oh, s, rh, rs, (Out.bnd h).imp fun d oh1 ρ1 H1 L1 rh1 ⟨_, _, h1⟩ v rv => ?_⟩
  cases d with
  | bl k =>
    simp only [Rep] at rv
    exact ⟨k, rv, h1 ρ1 H1 .refl rh1⟩
  | _ => exact h1.elim
theorem rt_val (h : RE X W a ma) (he : ∀ whole, isTrue a X.env whole = (do let v ← whole; standAt a.pos; holding [v] (truthy v)) := by intro _; rfl) : RT X W a (tB1 ma) := by
  refine (pt_val h he).imp fun σ H Q ⟨ρ, oh, s, rh, rs, h⟩ => ?_
  refine ⟨ρ, oh, s, rh, rs, (Out.bnd h).imp fun d oh1 ρ1 H1 L1 rh1 ⟨_, _, h1⟩ v rv => ?_⟩
  cases d with
  | bl k =>
    simp only [Rep] at rv
    exact ⟨k, rv, h1 ρ1 H1 .refl rh1⟩
  | _ => exact h1.elim
/-- truth of a value -/
def truD (oh : OH) : D → Option Bool
  | .non => some false
  | .bl b => some b
  | .int i => some (i != 0)
  | .str s => if s.length ≤ sizeLine then some (s.length != 0) else none
  | .tup l => some (!l.isEmpty)
  | .ref n => match oh[n]? with
    | some (.lst l) => some (!l.isEmpty)
    | some (.ro l) => some (!l.isEmpty)
    | _ => none
  | .adr _ => none
def tTru (m : Ev → M D) : Ev → M Bool := fun s oh => (m s oh).bnd fun d oh => match truD oh d with
  | some b => .ok b oh
  | none => .bad
theorem RepL.empty {K : PySem.W.Frag} {H : Hp} {ρ : List Addr} {l : List D} {vs : List V} (h : RepL K H ρ l vs) : vs.isEmpty = l.isEmpty := by
  have := h.length
  cases l <;> cases vs <;> simp_all
theorem rt_tru (h : RE X W a ma) (he : ∀ whole, isTrue a X.env whole = (do let v ← whole; standAt a.pos; holding [v] (truthy v)) := by intro _; rfl) : RT X W a (tTru ma) := by
  refine (pt_truth h he).imp fun σ H Q ⟨ρ, oh, s, rh, rs, h⟩ => ?_
  refine ⟨ρ, oh, s, rh, rs, (Out.bnd h).imp fun d oh1 ρ1 H1 L1 rh1 ⟨_, _, h1⟩ v rv => ?_⟩
  cases e : truD oh1 d with
  | none => simp only [e] at h1; exact h1.elim
  | some k =>
    simp only [e] at h1
    refine ⟨k, ?_, h1 ρ1 H1 .refl rh1⟩
    cases d with
    | non => simp only [Rep] at rv; subst rv; cases e; rfl
    | bl b => simp only [Rep] at rv; subst rv; cases e; rfl
    | int b => simp only [Rep] at rv; subst rv; cases e; rfl
    | str b =>
      simp only [Rep] at rv; subst rv
      simp only [truD] at e
      split at e
      · rename_i hz
        cases e
        exact ⟨hz, by cases hb : b.length <;> simp <;> omega⟩
      · cases e
    | tup l =>
      simp only [Rep] at rv
      obtain ⟨p, xs, rfl, hs, r⟩ := rv
      cases e
      exact .inr (.inl ⟨xs, hs, by rw [r.empty]⟩)
    | ref n =>
      simp only [Rep] at rv
      obtain ⟨p, rfl, hp⟩ := rv
      simp only [truD] at e
      cases ec : oh1[n]? with
      | none => simp only [ec] at e; cases e
      | some c =>
        cases c with
        | lst l =>
          simp only [ec] at e
          cases e
          obtain ⟨xs, hx, r⟩ := rh1.cell n _ p ec hp
          exact .inl ⟨xs, SqL.of hx, by rw [r.empty]⟩
        | ro l =>
          simp only [ec] at e
          cases e
          obtain ⟨xs, hx, r⟩ := (rh1.cell n _ p ec hp).sq
          exact .inl ⟨xs, hx, by rw [r.empty]⟩
        | tbls T => simp only [ec] at e; cases e
    | adr p => cases e
def tAndD (a b : Ev → M Bool) : Ev → M Bool := fun s oh => (a s oh).bnd fun c oh => if c then b s oh else .ok false oh
def tOrD (a b : Ev → M Bool) : Ev → M Bool := fun s oh => (a s oh).bnd fun c oh => if c then .ok true oh else b s oh
def tNotD (a : Ev → M Bool) : Ev → M Bool := fun s oh => (a s oh).bnd fun c oh => .ok (!c) oh
variable {na nb : Ev → M Bool} {rest : List Expr}
theorem rw_and1 (ha : RT X W a na) : PW X (.BoolOp .And [a] pos) (tT X W na) := pw_and1 ha
theorem rw_or1 (ha : RT X W a na) : PW X (.BoolOp .Or [a] pos) (tT X W na) := pw_or1 ha
theorem rw_and (ha : RT X W a na) (hb : PW X (.BoolOp .And (b :: rest) pos) (tT X W nb)) : PW X (.BoolOp .And (a :: b :: rest) pos) (tT X W (tAndD na nb)) := (pw_and ha hb).imp fun σ H Q ⟨ρ, oh, s, rh, rs, h⟩ => by
  refine ⟨ρ, oh, s, rh, rs, (Out.bnd h).imp fun c oh1 ρ1 H1 L1 rh1 ⟨_, _, h1⟩ => ?_⟩
  cases c with
  | true => exact ⟨ρ1, oh1, s, rh1, L1.reps rs, h1⟩
  | false => exact h1 ρ1 H1 .refl rh1
theorem rw_or (ha : RT X W a na) (hb : PW X (.BoolOp .Or (b :: rest) pos) (tT X W nb)) : PW X (.BoolOp .Or (a :: b :: rest) pos) (tT X W (tOrD na nb)) := (pw_or ha hb).imp fun σ H Q ⟨ρ, oh, s, rh, rs, h⟩ => by
  refine ⟨ρ, oh, s, rh, rs, (Out.bnd h).imp fun c oh1 ρ1 H1 L1 rh1 ⟨_, _, h1⟩ => ?_⟩
  cases c with
  | false => exact ⟨ρ1, oh1, s, rh1, L1.reps rs, h1⟩
  | true => exact h1 ρ1 H1 .refl rh1
theorem rt_w (h : PW X a (tT X W na)) : RT X W a na := h.pt
theorem rt_not (ha : RT X W a na) : RT X W (.UnaryOp .Not a pos) (tNotD na) := (pt_not ha).imp fun σ H Q ⟨ρ, oh, s, rh, rs, h⟩ => by
  refine ⟨ρ, oh, s, rh, rs, (Out.bnd h).imp fun c oh1 ρ1 H1 L1 rh1 ⟨_, _, h1⟩ => ?_⟩
  exact h1 ρ1 H1 .refl rh1
/-- and, or, not as values: of bools -/
def eAndD (a b : Ev → M D) : Ev → M D := fun s oh => (a s oh).bnd fun c oh => match c with
  | .bl true => b s oh
  | .bl false => .ok (.bl false) oh
  | _ => .bad
def eOrD (a b : Ev → M D) : Ev → M D := fun s oh => (a s oh).bnd fun c oh => match c with
  | .bl false => b s oh
  | .bl true => .ok (.bl true) oh
  | _ => .bad
def pNot : P1 := fun d oh => match d with
  | .bl b => some (.bl (!b), oh)
  | _ => none
theorem re_one {op} (h : RE X W a ma) : RE X W (.BoolOp op [a] pos) ma := pe_one h
theorem re_and (ha : RE X W a ma) (hb : RE X W (.BoolOp .And (b :: rest) pos) mb) : RE X W (.BoolOp .And (a :: b :: rest) pos) (eAndD ma mb) := (pe_and ha hb).imp fun σ H Q ⟨ρ, oh, s, rh, rs, h⟩ => by
  refine ⟨ρ, oh, s, rh, rs, (Out.bnd h).imp fun c oh1 ρ1 H1 L1 rh1 ⟨_, _, h1⟩ v rv => ?_⟩
  cases c with
  | bl k =>
    simp only [Rep] at rv
    subst rv
    cases k with
    | true => exact ⟨true, rfl, ρ1, oh1, s, rh1, L1.reps rs, h1⟩
    | false => exact ⟨false, rfl, h1 ρ1 H1 .refl rh1 _ (by simp [Rep])⟩
  | _ => exact h1.elim
theorem re_or (ha : RE X W a ma) (hb : RE X W (.BoolOp .Or (b :: rest) pos) mb) : RE X W (.BoolOp .Or (a :: b :: rest) pos) (eOrD ma mb) := (pe_or ha hb).imp fun σ H Q ⟨ρ, oh, s, rh, rs, h⟩ => by
  refine ⟨ρ, oh, s, rh, rs, (Out.bnd h).imp fun c oh1 ρ1 H1 L1 rh1 ⟨_, _, h1⟩ v rv => ?_⟩
  cases c with
  | bl k =>
    simp only [Rep] at rv
    subst rv
    cases k with
    | false => exact ⟨false, rfl, ρ1, oh1, s, rh1, L1.reps rs, h1⟩
    | true => exact ⟨true, rfl, h1 ρ1 H1 .refl rh1 _ (by simp [Rep])⟩
  | _ => exact h1.elim
theorem re_not (ha : RE X W a ma) : RE X W (.UnaryOp .Not a pos) (e1 pNot ma) := (pe_not ha).imp fun σ H Q ⟨ρ, oh, s, rh, rs, h⟩ => by
  refine ⟨ρ, oh, s, rh, rs, (Out.bnd h).imp fun c oh1 ρ1 H1 L1 rh1 ⟨_, _, h1⟩ v rv => ?_⟩
  cases c with
  | bl k =>
    simp only [Rep] at rv
    subst rv
    exact ⟨k, rfl, h1 ρ1 H1 .refl rh1 _ (by simp [Rep])⟩
  | _ => exact h1.elim
/-- a if t else b -/
def eIf (t : Ev → M Bool) (a b : Ev → M D) : Ev → M D := fun s oh => (t s oh).bnd fun c oh => if c then a s oh else b s oh
theorem re_if {c : Expr} (hc : RT X W c na) (ha : RE X W a ma) (hb : RE X W b mb) : RE X W (.IfExp c a b pos) (eIf na ma mb) := (pe_ifExp hc ha hb).imp fun σ H Q ⟨ρ, oh, s, rh, rs, h⟩ => by
  refine ⟨ρ, oh, s, rh, rs, (Out.bnd h).imp fun c oh1 ρ1 H1 L1 rh1 ⟨_, _, h1⟩ => ?_⟩
  cases c with
  | true => exact ⟨ρ1, oh1, s, rh1, L1.reps rs, h1⟩
  | false => exact ⟨ρ1, oh1, s, rh1, L1.reps rs, h1⟩
/-- a < b < c -/
def eCh (p q : P2) (a b c : Ev → M D) : Ev → M D := fun s oh => (a s oh).bnd fun x oh => (b s oh).bnd fun y oh => (lf (p x y oh)).bnd fun k oh => match k with
  | .bl true => (c s oh).bnd fun z oh => lf (q y z oh)
  | .bl false => .ok (.bl false) oh
  | _ => .bad
theorem lfout {W' : XK} {ρ : List Addr} {H : Hp} {o : Option (D × OH)} {T : TV} (h : Out X.K X.mg W' ρ H (lf o) T) : OutP X ρ H o (fun v H' => ∃ d ρ' oh', Later X.K ρ H ρ' H' ∧ RH X.K H' ρ' oh' ∧ o = some (d, oh') ∧ Rep X.K H' ρ' d v ∧ T d oh' ρ' H') := by
  cases o with
  | none => exact h
  | some p =>
    obtain ⟨d, oh⟩ := p
    exact fun ρ' H' v L rh r => ⟨d, ρ', oh, L, rh, rfl, r, h ρ' H' L rh⟩
theorem tChain_imp {p q : P2} {mc : Ev → M D} : ∀ σ H Q, tE X W (eCh p q ma mb mc) σ H Q → tChain (rP X p) (rP X q) (tE X W ma) (tE X W mb) (tE X W mc) σ H Q := fun σ H Q ⟨ρ, oh, s, rh, rs, h⟩ => by
  refine ⟨ρ, oh, s, rh, rs, (Out.bnd h).imp fun dx oh1 ρ1 H1 L1 rh1 ⟨_, _, h1⟩ v rv => ?_⟩
  refine ⟨ρ1, oh1, s, rh1, L1.reps rs, (Out.bnd h1).imp fun dy oh2 ρ2 H2 L2 rh2 ⟨_, _, h2⟩ u ru => ?_⟩
  refine ⟨ρ2, oh2, dx, dy, rh2, L2.rep rv, ru, ?_⟩
  have h3 := lfout (Out.bnd h2)
  cases e : p dx dy oh2 with
  | none => rw [e] at h3; exact h3
  | some pr =>
    obtain ⟨k, oh3⟩ := pr
    rw [e] at h3
    intro ρ3 H3 z L3 rh3 rz
    obtain ⟨d', ρ4, oh4, L4, rh4, e4, rz4, rh4', L4', h4⟩ := h3 ρ3 H3 z L3 rh3 rz
    cases e4
    cases k with
    | bl k =>
      simp only [Rep] at rz
      subst rz
      refine ⟨k, rfl, ?_⟩
      cases k with
      | true =>
        refine ⟨ρ4, oh3, s, rh4, (L1.trans (L2.trans L4)).reps rs, (Out.bnd h4).imp fun dz oh5 ρ5 H5 L5 rh5 ⟨_, _, h5⟩ w rw5 => ?_⟩
        exact ⟨ρ5, oh5, dy, dz, rh5, (L4.trans L5).rep ru, rw5, .of h5⟩
      | false => exact h4 ρ4 H3 .refl rh4 _ (by simp [Rep])
    | _ => exact h4.elim
theorem re_chain {op op' : CmpOp} {p q : P2} {c : Expr} {mc : Ev → M D} (ho : OpR X (compareOp op) (rP X p)) (ho' : OpR X (compareOp op') (rP X q)) (ha : RE X W a ma) (hb : RE X W b mb) (hc : RE X W c mc)
    (hm : lastMarks [op, op'] [b, c] = false := by with_unfolding_all rfl) : RE X W (.Compare a [op, op'] [b, c] pos) (eCh p q ma mb mc) := (pe_chain ho ho' ha hb hc hm).imp tChain_imp
theorem rt_chain {op op' : CmpOp} {p q : P2} {c : Expr} {mc : Ev → M D} (ho : OpR X (compareOp op) (rP X p)) (ho' : OpR X (compareOp op') (rP X q)) (ha : RE X W a ma) (hb : RE X W b mb) (hc : RE X W c mc)
    (hm : lastMarks [op, op'] [b, c] = false := by with_unfolding_all rfl) : RT X W (.Compare a [op, op'] [b, c] pos) (tB1 (eCh p q ma mb mc)) := by
  refine (pt_chain ho ho' ha hb hc hm).imp fun σ H Q ⟨ρ, oh, s, rh, rs, h⟩ => ?_
  refine tChain_imp σ H _ ⟨ρ, oh, s, rh, rs, (Out.bnd h).imp fun d oh1 ρ1 H1 L1 rh1 ⟨_, _, h1⟩ v rv => ?_⟩
  cases d with
  | bl k =>
    simp only [Rep] at rv
    exact ⟨k, rv, h1 ρ1 H1 .refl rh1⟩
  | _ => exact h1.elim
end
end SK
namespace SK
open PySem PySem.Spec PyProof.Rows L2
/-! ### int operators -/
def pI (f : Int → Int → Option D) : P2 := fun x y oh => match x, y with
  | .int i, .int j => (f i j).map fun d => (d, oh)
  | _, _ => none
section
variable {X : Cx}
theorem OutP.here {ρ : List Addr} {H : Hp} {d : D} {oh : OH} {Q : VK} (h : OutP X ρ H (some (d, oh)) Q) (rh : RH X.K H ρ oh) {v : V} (r : Rep X.K H ρ d v) : Q v H := h ρ H v .refl rh r
/-- a rule of two ints: C i j -> the value -/
theorem opr_I {op : Value → Value → Sem Value} {C : Int → Int → Prop} {g : Int → Int → V} {f : Int → Int → Option D} (ho : OpR X op (rI C g)) (hf : ∀ i j d, f i j = some d → C i j ∧ ∀ K H ρ, Rep K H ρ d (g i j)) : OpR X op (rP X (pI f)) := by
  intro pins s σ H x y v u Q I rx ry ⟨ρ, oh, dx, dy, rh, r1, r2, h⟩
  cases dx with
  | int i =>
    cases dy with
    | int j =>
      simp only [Rep] at r1 r2
      subst r1; subst r2
      simp only [pI] at h
      cases e : f i j with
      | none => rw [e] at h; exact h.elim
      | some d =>
        rw [e] at h
        obtain ⟨hc, hr⟩ := hf i j d e
        exact ho pins s σ H _ _ v u Q I rx ry ⟨i, j, rfl, rfl, hc, OutP.here h rh (hr _ _ _)⟩
    | _ => exact h.elim
  | _ => exact h.elim
theorem opr_I0 {op : Value → Value → Sem Value} {g : Int → Int → V} {f : Int → Int → D} (ho : OpR X op (rI0 g)) (hf : ∀ i j K H ρ, Rep K H ρ (f i j) (g i j)) : OpR X op (rP X (pI fun i j => some (f i j))) := by
  intro pins s σ H x y v u Q I rx ry ⟨ρ, oh, dx, dy, rh, r1, r2, h⟩
  cases dx with
  | int i =>
    cases dy with
    | int j =>
      simp only [Rep] at r1 r2
      subst r1; subst r2
      exact ho pins s σ H _ _ v u Q I rx ry ⟨i, j, rfl, rfl, OutP.here h rh (hf _ _ _ _ _)⟩
    | _ => exact h.elim
  | _ => exact h.elim
def pSub : P2 := pI fun i j => some (.int (i - j))
def pLt : P2 := pI fun i j => some (.bl (decide (i < j)))
def pLe : P2 := pI fun i j => some (.bl (decide (i ≤ j)))
def pGt : P2 := pI fun i j => some (.bl (decide (j < i)))
def pGe : P2 := pI fun i j => some (.bl (decide (j ≤ i)))
def pMod : P2 := pI fun i j => if 0 < j then some (.int (i % j)) else none
def pDiv : P2 := pI fun i j => if 0 < j ∧ j.natAbs.log2 < 9000 then some (.int (i / j)) else none
def pPow : P2 := pI fun i j => if 0 ≤ j ∧ j ≤ 1000000 ∧ i.natAbs < 2 ^ 64 then some (.int (i ^ j.toNat)) else none
theorem o_sub : OpR X (binaryOp .Sub) (rP X pSub) := opr_I0 op_sub fun _ _ _ _ _ => by simp [Rep]
theorem o_lt : OpR X (compareOp .Lt) (rP X pLt) := opr_I0 op_lt fun _ _ _ _ _ => by simp [Rep]
theorem o_le : OpR X (compareOp .LtE) (rP X pLe) := opr_I0 op_le fun _ _ _ _ _ => by simp [Rep]
theorem o_gt : OpR X (compareOp .Gt) (rP X pGt) := opr_I0 op_gt fun _ _ _ _ _ => by simp [Rep]
theorem o_ge : OpR X (compareOp .GtE) (rP X pGe) := opr_I0 op_ge fun _ _ _ _ _ => by simp [Rep]
theorem o_mod : OpR X (binaryOp .Mod) (rP X pMod) := opr_I op_mod fun i j d e => by
  split at e
  · rename_i h
    cases e
    exact ⟨h, fun _ _ _ => by simp [Rep]⟩
  · cases e
theorem o_div : OpR X (binaryOp .FloorDiv) (rP X pDiv) := opr_I op_fdivW fun i j d e => by
  split at e
  · rename_i h
    cases e
    exact ⟨h, fun _ _ _ => by simp [Rep]⟩
  · cases e
theorem o_pow : OpR X (binaryOp .Pow) (rP X pPow) := opr_I op_pow fun i j d e => by
  split at e
  · rename_i h
    cases e
    exact ⟨h, fun _ _ _ => by simp [Rep]⟩
  · cases e
/-! ### + and * -/
def itemsOf (oh : OH) : D → Option (List D)
  | .tup l => some l
  | .ref n => match oh[n]? with
    | some (.lst l) => some l
    | some (.ro l) => some l
    | _ => none
  | _ => none
def mulOk (i j : Int) : Bool := decide (i.natAbs.log2 + j.natAbs.log2 < 1000000) || (decide (-(2 ^ 64) < i) && decide (i < 2 ^ 64)) || (decide (-(2 ^ 64) < j) && decide (j < 2 ^ 64))
def pAdd : P2 := fun x y oh => match x, y with
  | .int i, .int j => some (.int (i + j), oh)
  | .str a, .str b => if a.length + b.length ≤ sizeLine then some (.str (a ++ b), oh) else none
  | .tup l, .tup m => if l.length + m.length ≤ sizeLine then some (.tup (l ++ m), oh) else none
  | .ref a, .ref b => match oh[a]?, oh[b]? with
    | some (.lst l), some (.lst m) => if l.length + m.length ≤ sizeLine then some (.ref oh.length, oh ++ [.lst (l ++ m)]) else none
    | _, _ => none
  | _, _ => none
def pMul : P2 := fun x y oh => match x, y with
  | .int i, .int j => if mulOk i j then some (.int (i * j), oh) else none
  | .ref a, .int k => match oh[a]? with
    | some (.lst l) => if -(2 ^ 63) ≤ k ∧ k < 2 ^ 63 ∧ l.length * k.toNat ≤ sizeLine then some (.ref oh.length, oh ++ [.lst (List.replicate k.toNat l).flatten]) else none
    | _ => none
  | _, _ => none
theorem RepL.of_len {K : PySem.W.Frag} {H : Hp} {ρ : List Addr} {ds : List D} {vs : List V} (h : RepL K H ρ ds vs) (e : ds ≠ []) : vs ≠ [] := fun z => by
  subst z
  have := h.length
  cases ds with
  | nil => exact e rfl
  | cons => simp at this
/-- a new list as an answer -/
theorem OutP.pushL {ρ : List Addr} {H : Hp} {oh : OH} {l : List D} {xs : List V} {Q : VK} (h : OutP X ρ H (some (.ref oh.length, oh ++ [.lst l])) Q) (rh : RH X.K H ρ oh) (r : RepL X.K H ρ l xs) : ∀ p, H p = none → Q (.ref p) (upd H p (.lst xs)) := fun p hp => by
  obtain ⟨rh', L, g⟩ := rh.push hp r
  exact h _ _ _ L rh' (by simp only [Rep]; exact ⟨p, rfl, g⟩)
/-- a new tuple as an answer -/
theorem OutP.tup {ρ : List Addr} {H : Hp} {oh : OH} {l : List D} {xs : List V} {Q : VK} (h : OutP X ρ H (some (.tup l, oh)) Q) (rh : RH X.K H ρ oh) (r : RepL X.K H ρ l xs) : ∀ p, H p = none → Q (.ref p) (upd H p (.tup xs)) := fun p hp =>
  h _ _ _ (.fresh hp) (rh.fresh hp) (by simp only [Rep]; exact ⟨p, xs, rfl, SqT.of upd_same, Later.repl (.fresh hp) r⟩)
theorem RepL.rep {K : PySem.W.Frag} {H : Hp} {ρ : List Addr} {l : List D} {xs : List V} (r : RepL K H ρ l xs) : ∀ k : Nat, RepL K H ρ (List.replicate k l).flatten (List.replicate k xs).flatten
  | 0 => by simp [RepL]
  | k + 1 => by
    rw [List.replicate_succ, List.replicate_succ, List.flatten_cons, List.flatten_cons]
    exact r.append (RepL.rep r k)
theorem o_add : OpR X (binaryOp .Add) (rP X pAdd) := by
  intro pins s σ H x y v u Q I rx ry ⟨ρ, oh, dx, dy, rh, r1, r2, h⟩
  cases dx with
  | int i =>
    cases dy with
    | int j =>
      simp only [Rep] at r1 r2
      subst r1; subst r2
      exact op_add pins s σ H _ _ v u Q I rx ry ⟨i, j, rfl, rfl, OutP.here h rh (by simp [Rep])⟩
    | _ => exact h.elim
  | str i =>
    cases dy with
    | str j =>
      simp only [Rep] at r1 r2
      subst r1; subst r2
      simp only [pAdd] at h
      split at h
      · rename_i hz
        exact op_add_str pins s σ H _ _ v u Q I rx ry ⟨i, j, rfl, rfl, hz, OutP.here h rh (by simp [Rep])⟩
      · exact h.elim
    | _ => exact h.elim
  | tup l =>
    cases dy with
    | tup m =>
      simp only [Rep] at r1 r2
      obtain ⟨a, xs, rfl, s1, q1⟩ := r1
      obtain ⟨b, ys, rfl, s2, q2⟩ := r2
      simp only [pAdd] at h
      split at h
      · rename_i hz
        have hlen : xs.length + ys.length ≤ sizeLine := by rw [← q1.length, ← q2.length]; exact hz
        have nilD : ∀ {ds : List D} {vs : List V}, RepL X.K H ρ ds vs → vs = [] → ds = [] := fun {ds vs} r e => by
          subst e
          have := r.length
          cases ds with
          | nil => rfl
          | cons => simp at this
        refine op_catA pins s σ H _ _ v u Q I rx ry ⟨a, b, xs, ys, rfl, rfl, s1, s2, hlen, fun e => ?_, fun _ e => ?_, fun _ _ p hp => ?_⟩
        · rw [nilD q1 e, List.nil_append] at h
          exact OutP.here h rh (by simp only [Rep]; exact ⟨b, ys, rfl, s2, q2⟩)
        · rw [nilD q2 e, List.append_nil] at h
          exact OutP.here h rh (by simp only [Rep]; exact ⟨a, xs, rfl, s1, q1⟩)
        · exact OutP.tup h rh (q1.append q2) p hp
      · exact h.elim
    | _ => exact h.elim
  | ref n =>
    cases dy with
    | ref m =>
      simp only [Rep] at r1 r2
      obtain ⟨a, rfl, ga⟩ := r1
      obtain ⟨b, rfl, gb⟩ := r2
      simp only [pAdd] at h
      split at h
      · rename_i l m' e1 e2
        obtain ⟨xs, hx, q1⟩ := rh.cell _ _ a e1 ga
        obtain ⟨ys, hy, q2⟩ := rh.cell _ _ b e2 gb
        split at h
        · rename_i hz
          exact op_cat pins s σ H _ _ v u Q I rx ry ⟨a, b, xs, ys, rfl, rfl, hx, hy, by rw [← q1.length, ← q2.length]; exact hz, OutP.pushL h rh (q1.append q2)⟩
        · exact h.elim
      · exact h.elim
    | _ => exact h.elim
  | _ => exact h.elim
theorem o_mul : OpR X (binaryOp .Mult) (rP X pMul) := by
  intro pins s σ H x y v u Q I rx ry ⟨ρ, oh, dx, dy, rh, r1, r2, h⟩
  cases dx with
  | int i =>
    cases dy with
    | int j =>
      simp only [Rep] at r1 r2
      subst r1; subst r2
      simp only [pMul] at h
      split at h
      · rename_i hz
        unfold mulOk at hz
        simp only [Bool.or_eq_true, Bool.and_eq_true, decide_eq_true_eq] at hz
        rcases hz with (hz | hz) | hz
        · exact op_mulW pins s σ H _ _ v u Q I rx ry ⟨i, j, rfl, rfl, hz, OutP.here h rh (by simp [Rep])⟩
        · exact op_mul pins s σ H _ _ v u Q I rx ry ⟨i, j, rfl, rfl, .inl hz, OutP.here h rh (by simp [Rep])⟩
        · exact op_mul pins s σ H _ _ v u Q I rx ry ⟨i, j, rfl, rfl, .inr hz, OutP.here h rh (by simp [Rep])⟩
      · exact h.elim
    | _ => exact h.elim
  | ref n =>
    cases dy with
    | int k =>
      simp only [Rep] at r1 r2
      obtain ⟨a, rfl, ga⟩ := r1
      subst r2
      simp only [pMul] at h
      split at h
      · rename_i l e1
        obtain ⟨xs, hx, q1⟩ := rh.cell _ _ a e1 ga
        split at h
        · rename_i hz
          exact op_rep pins s σ H _ _ v u Q I rx ry ⟨a, k, xs, rfl, rfl, hx, hz.1, hz.2.1, by rw [← q1.length]; exact hz.2.2, OutP.pushL h rh (q1.rep _)⟩
        · exact h.elim
      · exact h.elim
    | _ => exact h.elim
  | _ => exact h.elim
/-! ### == and != over data -/
def toPys (f : D → Option PyData) : List D → Option (List PyData)
  | [] => some []
  | d :: ds => match f d, toPys f ds with
    | some p, some ps => some (p :: ps)
    | _, _ => none
def toPy (oh : OH) : Nat → D → Option PyData
  | _, .non => some .none
  | _, .bl b => some (.bool b)
  | _, .int i => some (.int i)
  | _, .str x => some (.str x)
  | 0, _ => none
  | k + 1, .tup l => (toPys (toPy oh k) l).map .tuple
  | k + 1, .ref n => match oh[n]? with
    | some (.lst l) => (toPys (toPy oh k) l).map .list
    | some (.ro l) => (toPys (toPy oh k) l).map .list
    | _ => none
  | _, .adr _ => none
theorem toPys_dp {K : PySem.W.Frag} {H : Hp} {ρ : List Addr} {f : D → Option PyData} (hf : ∀ d p v, f d = some p → Rep K H ρ d v → Dp K H v p) : ∀ (l : List D) (ps : List PyData) (vs : List V), toPys f l = some ps → RepL K H ρ l vs → DpAll K H vs ps
  | [], ps, vs, e, r => by
    cases e
    simp only [RepL] at r
    subst r
    exact .nil
  | d :: ds, ps, vs, e, r => by
    simp only [RepL] at r
    obtain ⟨v, vs', rfl, r1, r2⟩ := r
    simp only [toPys] at e
    cases e1 : f d with
    | none => simp [e1] at e
    | some p =>
      cases e2 : toPys f ds with
      | none => simp [e1, e2] at e
      | some qs =>
        simp only [e1, e2] at e
        cases e
        exact .cons (hf _ _ _ e1 r1) (toPys_dp hf ds qs vs' e2 r2)
theorem toPy_dp {K : PySem.W.Frag} {H : Hp} {ρ : List Addr} {oh : OH} (rh : RH K H ρ oh) : ∀ (k : Nat) (d : D) (p : PyData) (v : V), toPy oh k d = some p → Rep K H ρ d v → Dp K H v p := by
  intro k
  induction k with
  | zero =>
    intro d p v e r
    cases d with
    | non => cases e; simp only [Rep] at r; subst r; exact .non
    | bl b => cases e; simp only [Rep] at r; subst r; exact .bl b
    | int b => cases e; simp only [Rep] at r; subst r; exact .int b
    | str b => cases e; simp only [Rep] at r; subst r; exact .str b
    | _ => cases e
  | succ k ih =>
    intro d p v e r
    cases d with
    | non => cases e; simp only [Rep] at r; subst r; exact .non
    | bl b => cases e; simp only [Rep] at r; subst r; exact .bl b
    | int b => cases e; simp only [Rep] at r; subst r; exact .int b
    | str b => cases e; simp only [Rep] at r; subst r; exact .str b
    | tup l =>
      simp only [Rep] at r
      obtain ⟨a, xs, rfl, hs, r⟩ := r
      simp only [toPy, Option.map_eq_some_iff] at e
      obtain ⟨ps, e1, rfl⟩ := e
      exact .tup hs (toPys_dp (fun d p v => ih d p v) l ps xs e1 r)
    | ref n =>
      simp only [Rep] at r
      obtain ⟨a, rfl, ga⟩ := r
      simp only [toPy] at e
      split at e
      · rename_i l el
        obtain ⟨xs, hx, q⟩ := rh.cell _ _ a el ga
        simp only [Option.map_eq_some_iff] at e
        obtain ⟨ps, e1, rfl⟩ := e
        exact .lst (SqL.of hx) (toPys_dp (fun d p v => ih d p v) l ps xs e1 q)
      · rename_i l el
        obtain ⟨xs, hx, q⟩ := (rh.cell _ _ a el ga).sq
        simp only [Option.map_eq_some_iff] at e
        obtain ⟨ps, e1, rfl⟩ := e
        exact .lst hx (toPys_dp (fun d p v => ih d p v) l ps xs e1 q)
      · cases e
    | adr a => cases e
def eqS : D → D → Option Bool
  | .int i, .int j => some (decide (i = j))
  | .str i, .str j => some (decide (i = j))
  | _, _ => none
def eqDp (oh : OH) (x y : D) : Option Bool := match toPy oh 60 x, toPy oh 60 y with
  | some a, some b => if SeqAt.shaped a && SeqAt.shaped b then some (PyData.eqv a b) else none
  | _, _ => none
def eqD (oh : OH) (x y : D) : Option Bool := match eqS x y with
  | some b => some b
  | none => eqDp oh x y
def pEq : P2 := fun x y oh => (eqD oh x y).map fun b => (.bl b, oh)
def pNe : P2 := fun x y oh => (eqD oh x y).map fun b => (.bl (!b), oh)
theorem eqD_dp {ρ : List Addr} {H : Hp} {oh : OH} {dx dy : D} {x y : V} {b : Bool} (rh : RH X.K H ρ oh) (r1 : Rep X.K H ρ dx x) (r2 : Rep X.K H ρ dy y) (e : eqDp oh dx dy = some b) : ∃ d e, Dp X.K H x d ∧ Dp X.K H y e ∧ SeqAt.shaped d = true ∧ SeqAt.shaped e = true ∧ b = PyData.eqv d e := by
  unfold eqDp at e
  split at e
  · rename_i p q e1 e2
    split at e
    · rename_i hs
      rw [Bool.and_eq_true] at hs
      cases e
      exact ⟨p, q, toPy_dp rh _ _ _ _ e1 r1, toPy_dp rh _ _ _ _ e2 r2, hs.1, hs.2, rfl⟩
    · cases e
  · cases e
theorem eqS_sc {K : PySem.W.Frag} {ρ : List Addr} {H : Hp} {dx dy : D} {x y : V} {b : Bool} (r1 : Rep K H ρ dx x) (r2 : Rep K H ρ dy y) (e : eqS dx dy = some b) : scal x y = true ∧ b = decide (x = y) := by
  unfold eqS at e
  split at e
  · cases e
    simp only [Rep] at r1 r2
    subst r1; subst r2
    exact ⟨rfl, by simp⟩
  · cases e
    simp only [Rep] at r1 r2
    subst r1; subst r2
    exact ⟨rfl, by simp⟩
  · cases e
theorem o_eq (hu : X.A.units + 64 < cLine) : OpR X (compareOp .Eq) (rP X pEq) := by
  intro pins s σ H x y v u Q I rx ry ⟨ρ, oh, dx, dy, rh, r1, r2, h⟩
  unfold pEq eqD at h
  cases es : eqS dx dy with
  | some b =>
    rw [es] at h
    obtain ⟨h1, rfl⟩ := eqS_sc r1 r2 es
    exact op_eq pins s σ H _ _ v u Q I rx ry ⟨h1, OutP.here h rh (by simp [Rep])⟩
  | none =>
    rw [es] at h
    cases e : eqDp oh dx dy with
    | none => rw [e] at h; exact h.elim
    | some b =>
      rw [e] at h
      obtain ⟨p, q, h1, h2, s1, s2, rfl⟩ := eqD_dp rh r1 r2 e
      exact op_eqD hu pins s σ H _ _ v u Q I rx ry ⟨p, q, h1, h2, s1, s2, OutP.here h rh (by simp [Rep])⟩
theorem o_ne (hu : X.A.units + 64 < cLine) : OpR X (compareOp .NotEq) (rP X pNe) := by
  intro pins s σ H x y v u Q I rx ry ⟨ρ, oh, dx, dy, rh, r1, r2, h⟩
  unfold pNe eqD at h
  cases es : eqS dx dy with
  | some b =>
    rw [es] at h
    obtain ⟨h1, rfl⟩ := eqS_sc r1 r2 es
    exact op_ne pins s σ H _ _ v u Q I rx ry ⟨h1, OutP.here h rh (by simp [Rep])⟩
  | none =>
    rw [es] at h
    cases e : eqDp oh dx dy with
    | none => rw [e] at h; exact h.elim
    | some b =>
      rw [e] at h
      obtain ⟨p, q, h1, h2, s1, s2, rfl⟩ := eqD_dp rh r1 r2 e
      exact op_neD hu pins s σ H _ _ v u Q I rx ry ⟨p, q, h1, h2, s1, s2, OutP.here h rh (by simp [Rep])⟩
/-- is None -/
def pIsN (neg : Bool) : P2 := fun x y oh => match y with
  | .non => some (.bl (match x with | .non => !neg | _ => neg), oh)
  | _ => none
theorem rep_non {K : PySem.W.Frag} {H : Hp} {ρ : List Addr} {d : D} {v : V} (r : Rep K H ρ d v) : decide (v = V.non) = (match d with | .non => true | _ => false) := by
  cases d with
  | non => simp only [Rep] at r; subst r; rfl
  | bl b => simp only [Rep] at r; subst r; rfl
  | int b => simp only [Rep] at r; subst r; rfl
  | str b => simp only [Rep] at r; subst r; rfl
  | tup l => simp only [Rep] at r; obtain ⟨a, xs, rfl, _⟩ := r; rfl
  | ref l => simp only [Rep] at r; obtain ⟨a, rfl, _⟩ := r; rfl
  | adr l => simp only [Rep] at r; subst r; rfl
theorem o_isN : OpR X (compareOp .Is) (rP X (pIsN false)) := by
  intro pins s σ H x y v u Q I rx ry ⟨ρ, oh, dx, dy, rh, r1, r2, h⟩
  cases dy with
  | non =>
    simp only [Rep] at r2
    subst r2
    refine op_isN pins s σ H _ _ v u Q I rx ry ⟨rfl, ?_⟩
    rw [rep_non r1]
    simp only [pIsN] at h
    refine OutP.here h rh ?_
    cases dx <;> simp [Rep]
  | _ => exact h.elim
theorem o_notN : OpR X (compareOp .IsNot) (rP X (pIsN true)) := by
  intro pins s σ H x y v u Q I rx ry ⟨ρ, oh, dx, dy, rh, r1, r2, h⟩
  cases dy with
  | non =>
    simp only [Rep] at r2
    subst r2
    refine op_notN pins s σ H _ _ v u Q I rx ry ⟨rfl, ?_⟩
    rw [rep_non r1]
    simp only [pIsN] at h
    refine OutP.here h rh ?_
    cases dx <;> simp [Rep]
  | _ => exact h.elim
def pNeg : P1 := fun x oh => match x with
  | .int i => some (.int (-i), oh)
  | _ => none
theorem o_neg : UnR X (unaryOp .USub) (rP1 X pNeg) := by
  intro pins s σ H x v Q I rx hh
  obtain ⟨ρ, oh, dx, rh, r1, h⟩ := hh
  cases dx with
  | int i =>
    simp only [Rep] at r1
    subst r1
    exact (L2.un_neg (X := X)) pins s σ H (.int i) v Q I rx ⟨i, rfl, OutP.here h rh (by simp [Rep])⟩
  | _ => exact h.elim
/-! ### subscripts -/
def pIx : P2 := fun x y oh => match x, y with
  | .str z, .int i => if z.length ≤ sizeLine then (atI z.cps.toList i).map fun c => (.str ⟨#[c]⟩, oh) else none
  | d, .int i => match itemsOf oh d with
    | some l => (atI l i).map fun c => (c, oh)
    | none => none
  | _, _ => none
theorem atI_rep {K : PySem.W.Frag} {H : Hp} {ρ : List Addr} {l : List D} {xs : List V} {i : Int} {d : D} (r : RepL K H ρ l xs) (e : atI l i = some d) : ∃ v, atI xs i = some v ∧ Rep K H ρ d v := by
  unfold atI at e ⊢
  rw [← r.length]
  cases en : ixN l.length i with
  | none => rw [en] at e; cases e
  | some j =>
    rw [en] at e
    obtain ⟨v, ev, q⟩ := r.get (i := j) e
    exact ⟨v, ev, q⟩
theorem itemsOf_rep {ρ : List Addr} {H : Hp} {oh : OH} {d : D} {x : V} {l : List D} (rh : RH X.K H ρ oh) (r : Rep X.K H ρ d x) (e : itemsOf oh d = some l) : ∃ p xs, x = .ref p ∧ (SqL X.K H p xs ∨ SqT X.K H p xs) ∧ RepL X.K H ρ l xs := by
  cases d with
  | tup m =>
    cases e
    simp only [Rep] at r
    obtain ⟨a, xs, rfl, hs, q⟩ := r
    exact ⟨a, xs, rfl, .inr hs, q⟩
  | ref n =>
    simp only [Rep] at r
    obtain ⟨a, rfl, ga⟩ := r
    simp only [itemsOf] at e
    split at e
    · rename_i m el
      cases e
      obtain ⟨xs, hx, q⟩ := rh.cell _ _ a el ga
      exact ⟨a, xs, rfl, .inl (SqL.of hx), q⟩
    · rename_i m el
      cases e
      obtain ⟨xs, hx, q⟩ := (rh.cell _ _ a el ga).sq
      exact ⟨a, xs, rfl, .inl hx, q⟩
    · cases e
  | _ => cases e
theorem o_ix : IxR X (rP X pIx) := by
  intro val sl pins s σ H x y v u Q I rx ry ⟨ρ, oh, dx, dy, rh, r1, r2, h⟩ hsub
  cases dy with
  | int i =>
    simp only [Rep] at r2
    subst r2
    have key : ∀ l, itemsOf oh dx = some l → OutP X ρ H ((atI l i).map fun c => (c, oh)) Q → rIx X.K x (.int i) H Q := fun l el h => by
      obtain ⟨p, xs, rfl, hs, q⟩ := itemsOf_rep rh r1 el
      cases ea : atI l i with
      | none => rw [ea] at h; exact h.elim
      | some d =>
        rw [ea] at h
        obtain ⟨w, ew, qw⟩ := atI_rep q ea
        rcases hs with hs | hs
        · exact .inl ⟨p, xs, i, w, rfl, rfl, hs, ew, OutP.here h rh qw⟩
        · exact .inr (.inl ⟨p, xs, i, w, rfl, rfl, hs, ew, OutP.here h rh qw⟩)
    refine ix_seq val sl pins s σ H x (.int i) v u Q I rx ry ?_ hsub
    cases dx with
    | str z =>
      simp only [Rep] at r1
      subst r1
      simp only [pIx] at h
      split at h
      · rename_i hz
        cases ea : atI z.cps.toList i with
        | none => rw [ea] at h; exact h.elim
        | some c =>
          rw [ea] at h
          exact .inr (.inr ⟨z, i, c, rfl, rfl, hz, ea, OutP.here h rh (by simp [Rep])⟩)
      · exact h.elim
    | tup l => exact key l rfl h
    | ref n =>
      cases el : itemsOf oh (.ref n) with
      | none => simp only [pIx, el] at h; exact h.elim
      | some l =>
        simp only [pIx, el] at h
        exact key l el h
    | _ => exact h.elim
  | _ => cases dx <;> exact h.elim
end
end SK
namespace SK
open PySem PySem.Spec PyProof.Rows L2
section
variable {X : Cx} {W : WX} {e b : Expr} {es : List Expr} {ma mb : Ev → M D} {ms : Ev → M (List D)} {pos : Pos}
/-! ### argument lists, displays -/
def aNil : Ev → M (List D) := fun _ oh => .ok [] oh
def aCons (a : Ev → M D) (r : Ev → M (List D)) : Ev → M (List D) := fun s oh => (a s oh).bnd fun x oh => (r s oh).bnd fun xs oh => .ok (x :: xs) oh
theorem ra_nil : RA X W [] aNil := pa_nil.imp fun σ H Q ⟨ρ, oh, s, rh, rs, h⟩ => h ρ H .refl rh [] (by simp [RepL])
theorem ra_cons (ha : RE X W e ma) (hr : RA X W es ms) (hs : starEach (e :: es) X.env = (false, eval e X.env) :: starEach es X.env := by rfl) : RA X W (e :: es) (aCons ma ms) := (pa_cons ha hr hs).imp fun σ H Q ⟨ρ, oh, s, rh, rs, h⟩ => by
  refine ⟨ρ, oh, s, rh, rs, (Out.bnd h).imp fun dx oh1 ρ1 H1 L1 rh1 ⟨_, _, h1⟩ v rv => ?_⟩
  refine ⟨ρ1, oh1, s, rh1, L1.reps rs, (Out.bnd h1).imp fun ds oh2 ρ2 H2 L2 rh2 ⟨_, _, h2⟩ vs rvs => ?_⟩
  exact h2 ρ2 H2 .refl rh2 (v :: vs) (by simp only [RepL]; exact ⟨v, vs, rfl, L2.rep rv, rvs⟩)
def eTup (m : Ev → M (List D)) : Ev → M D := fun s oh => (m s oh).bnd fun ds oh => if ds.length ≤ sizeLine then .ok (.tup ds) oh else .bad
def eLst (m : Ev → M (List D)) : Ev → M D := fun s oh => (m s oh).bnd fun ds oh => if ds.length ≤ sizeLine then .ok (.ref oh.length) (oh ++ [.lst ds]) else .bad
theorem re_tup {x1} (h : RA X W es ms) : RE X W (.Tuple es x1 pos) (eTup ms) := (pe_tup h).imp fun σ H Q ⟨ρ, oh, s, rh, rs, h⟩ => by
  refine ⟨ρ, oh, s, rh, rs, (Out.bnd h).imp fun ds oh1 ρ1 H1 L1 rh1 ⟨_, _, h1⟩ vs rvs => ?_⟩
  split at h1
  · rename_i hz
    refine ⟨by rw [← rvs.length]; exact hz, fun p hp => ?_⟩
    exact h1 ρ1 _ (.fresh hp) (rh1.fresh hp) _ (by simp only [Rep]; exact ⟨p, vs, rfl, SqT.of upd_same, Later.repl (.fresh hp) rvs⟩)
  · exact h1.elim
theorem re_lst (h : RA X W es ms) : RE X W (.List es pos) (eLst ms) := (pe_lst h).imp fun σ H Q ⟨ρ, oh, s, rh, rs, h⟩ => by
  refine ⟨ρ, oh, s, rh, rs, (Out.bnd h).imp fun ds oh1 ρ1 H1 L1 rh1 ⟨_, _, h1⟩ vs rvs => ?_⟩
  split at h1
  · rename_i hz
    refine ⟨by rw [← rvs.length]; exact hz, fun p hp => ?_⟩
    obtain ⟨rh2, L2, g⟩ := rh1.push hp rvs
    exact h1 _ _ L2 rh2 _ (by simp only [Rep]; exact ⟨p, rfl, g⟩)
  · exact h1.elim
/-! ### calls of built-ins -/
abbrev PL := List D → OH → Option (D × OH)
def rPL (X : Cx) (p : PL) : List V → Hp → VK → Prop := fun xs H Q => ∃ ρ oh ds, RH X.K H ρ oh ∧ RepL X.K H ρ ds xs ∧ OutP X ρ H (p ds oh) Q
def eCB (p : PL) (m : Ev → M (List D)) : Ev → M D := fun s oh => (m s oh).bnd fun ds oh => lf (p ds oh)
theorem tCB_imp {p : PL} : ∀ σ H Q, tE X W (eCB p ms) σ H Q → tCB (rPL X p) (tA X W ms) σ H Q := fun σ H Q ⟨ρ, oh, s, rh, rs, h⟩ =>
  ⟨ρ, oh, s, rh, rs, (Out.bnd h).imp fun ds oh1 ρ1 H1 L1 rh1 ⟨_, _, h1⟩ vs rvs => ⟨ρ1, oh1, ds, rh1, rvs, .of h1⟩⟩
theorem re_cb {x : Str} {p : Pos} {id : String} {f : PL} (hc : CallR X (.builtin id) (rPL X f)) (hm : X.mg x = none) (hv : bootBuiltins x = some (.builtin id)) (ha : RA X W (e :: es) ms) (hg : Gl X x := by rfl) (hn : x ≠ "__name__" := by decide) (hdb : (x == ("__debug__" : Str)) = false := by decide)
    (he : starEach (e :: es) X.env = (false, eval e X.env) :: starEach es X.env := by rfl) (hpl : (backTo pos (starEach es X.env)).any (·.1) = false := by rfl) : RE X W (.Call (.Name x p) (e :: es) [] pos) (eCB f ms) := (pe_callB hc hg hm hv ha hn hdb he hpl).imp tCB_imp
theorem re_ct {x : Str} {p : Pos} {T : String} {f : PL} (hc : CallR X (.type T) (rPL X f)) (hm : X.mg x = none) (hv : bootBuiltins x = some (.type T)) (ha : RA X W (e :: es) ms) (hg : Gl X x := by rfl) (hn : x ≠ "__name__" := by decide) (hdb : (x == ("__debug__" : Str)) = false := by decide)
    (he : starEach (e :: es) X.env = (false, eval e X.env) :: starEach es X.env := by rfl) (hpl : (backTo pos (starEach es X.env)).any (·.1) = false := by rfl) : RE X W (.Call (.Name x p) (e :: es) [] pos) (eCB f ms) := (pe_callTy hc hg hm hv ha hn hdb he hpl).imp tCB_imp
theorem RepL.one {K : PySem.W.Frag} {H : Hp} {ρ : List Addr} {d : D} {xs : List V} (r : RepL K H ρ [d] xs) : ∃ v, xs = [v] ∧ Rep K H ρ d v := by
  simp only [RepL] at r
  obtain ⟨v, vs, rfl, r, rfl⟩ := r
  exact ⟨v, rfl, r⟩
theorem RepL.two {K : PySem.W.Frag} {H : Hp} {ρ : List Addr} {d d' : D} {xs : List V} (r : RepL K H ρ [d, d'] xs) : ∃ v w, xs = [v, w] ∧ Rep K H ρ d v ∧ Rep K H ρ d' w := by
  simp only [RepL] at r
  obtain ⟨v, vs, rfl, r, w, ws, rfl, r', rfl⟩ := r
  exact ⟨v, w, rfl, r, r'⟩
def bLen : PL := fun ds oh => match ds with
  | [.str x] => if x.length ≤ sizeLine then some (.int x.length, oh) else none
  | [d] => (itemsOf oh d).map fun l => (.int l.length, oh)
  | _ => none
theorem c_len : CallR X (.builtin "len") (rPL X bLen) := by
  intro pins s σ H xs us Q I rv ⟨ρ, oh, ds, rh, r, h⟩
  have key : ∀ d l v, itemsOf oh d = some l → Rep X.K H ρ d v → xs = [v] → OutP X ρ H ((itemsOf oh d).map fun l => ((.int l.length : D), oh)) Q → wpAny (model X.prog X.w) X.A (call (.builtin "len") us) (EP X pins σ Q) X.xe s := fun d l v el r1 ex h => by
    subst ex
    rw [el] at h
    obtain ⟨p, ys, rfl, hs, q⟩ := itemsOf_rep rh r1 el
    exact call_len_seq pins s σ H [.ref p] us Q I rv ⟨p, ys, rfl, hs, by rw [← q.length]; exact OutP.here h rh (by simp [Rep])⟩
  cases ds with
  | nil => exact h.elim
  | cons d ds =>
    cases ds with
    | cons _ _ => cases d <;> exact h.elim
    | nil =>
      obtain ⟨v, rfl, r1⟩ := r.one
      cases d with
      | str x =>
        simp only [Rep] at r1
        subst r1
        simp only [bLen] at h
        split at h
        · rename_i hz
          exact call_len pins s σ H _ us Q I rv ⟨.str x, x.length, rfl, ⟨hz, rfl⟩, OutP.here h rh (by simp [Rep])⟩
        · exact h.elim
      | tup l => exact key _ l v rfl r1 rfl h
      | ref n =>
        cases el : itemsOf oh (.ref n) with
        | none => simp only [bLen, el] at h; exact h.elim
        | some l => exact key _ l v el r1 rfl h
      | _ => exact h.elim
def bInt : PL := fun ds oh => match ds with
  | [.int i] => some (.int i, oh)
  | [.bl b] => some (.int (if b then 1 else 0), oh)
  | _ => none
theorem c_int : CallR X (.type "int") (rPL X bInt) := by
  intro pins s σ H xs us Q I rv ⟨ρ, oh, ds, rh, r, h⟩
  unfold bInt at h
  split at h
  · obtain ⟨v, rfl, r1⟩ := r.one
    simp only [Rep] at r1
    subst r1
    exact call_int1 pins s σ H _ us Q I rv (.inl ⟨_, rfl, OutP.here h rh (by simp [Rep])⟩)
  · obtain ⟨v, rfl, r1⟩ := r.one
    simp only [Rep] at r1
    subst r1
    exact call_int1 pins s σ H _ us Q I rv (.inr ⟨_, rfl, OutP.here h rh (by simp [Rep])⟩)
  · exact h.elim
def bAbs : PL := fun ds oh => match ds with
  | [.int i] => some (.int (if i < 0 then -i else i), oh)
  | _ => none
theorem c_abs : CallR X (.builtin "abs") (rPL X bAbs) := by
  intro pins s σ H xs us Q I rv ⟨ρ, oh, ds, rh, r, h⟩
  unfold bAbs at h
  split at h
  · obtain ⟨v, rfl, r1⟩ := r.one
    simp only [Rep] at r1
    subst r1
    exact call_abs pins s σ H _ us Q I rv ⟨_, rfl, OutP.here h rh (by simp [Rep])⟩
  · exact h.elim
def bMax2 : PL := fun ds oh => match ds with
  | [.int i, .int j] => some (.int (if j > i then j else i), oh)
  | _ => none
def bMin2 : PL := fun ds oh => match ds with
  | [.int i, .int j] => some (.int (if j < i then j else i), oh)
  | _ => none
theorem c_max2 (hc : X.calm = true) : CallR X (.builtin "max") (rPL X bMax2) := by
  intro pins s σ H xs us Q I rv ⟨ρ, oh, ds, rh, r, h⟩
  unfold bMax2 at h
  split at h
  · obtain ⟨v, w, rfl, r1, r2⟩ := r.two
    simp only [Rep] at r1 r2
    subst r1; subst r2
    exact call_max2 hc pins s σ H _ us Q I rv ⟨_, _, rfl, OutP.here h rh (by simp [Rep])⟩
  · exact h.elim
theorem c_min2 (hc : X.calm = true) : CallR X (.builtin "min") (rPL X bMin2) := by
  intro pins s σ H xs us Q I rv ⟨ρ, oh, ds, rh, r, h⟩
  unfold bMin2 at h
  split at h
  · obtain ⟨v, w, rfl, r1, r2⟩ := r.two
    simp only [Rep] at r1 r2
    subst r1; subst r2
    exact call_min2 hc pins s σ H _ us Q I rv ⟨_, _, rfl, OutP.here h rh (by simp [Rep])⟩
  · exact h.elim
def bGcd : PL := fun ds oh => match ds with
  | [.int i, .int j] => some (.int ((Nat.gcd i.natAbs j.natAbs : Nat) : Int), oh)
  | _ => none
theorem c_gcd : CallR X (.builtin "math.gcd") (rPL X bGcd) := by
  intro pins s σ H xs us Q I rv ⟨ρ, oh, ds, rh, r, h⟩
  unfold bGcd at h
  split at h
  · obtain ⟨v, w, rfl, r1, r2⟩ := r.two
    simp only [Rep] at r1 r2
    subst r1; subst r2
    exact cr_gcd pins s σ H _ us Q I rv ⟨_, _, rfl, OutP.here h rh (by simp [Rep])⟩
  · exact h.elim
def bTuple : PL := fun ds oh => match ds with
  | [d] => (itemsOf oh d).map fun l => (.tup l, oh)
  | _ => none
theorem c_tuple : CallR X (.type "tuple") (rPL X bTuple) := by
  intro pins s σ H xs us Q I rv ⟨ρ, oh, ds, rh, r, h⟩
  cases ds with
  | nil => exact h.elim
  | cons d ds =>
    cases ds with
    | cons _ _ => exact h.elim
    | nil =>
      obtain ⟨v, rfl, r1⟩ := r.one
      simp only [bTuple] at h
      cases el : itemsOf oh d with
      | none => rw [el] at h; exact h.elim
      | some l =>
        rw [el] at h
        obtain ⟨p, ys, rfl, hs, q⟩ := itemsOf_rep rh r1 el
        refine call_tuple_of pins s σ H _ us Q I rv ⟨p, ys, rfl, ?_⟩
        rcases hs with hs | hs
        · exact .inl ⟨hs, OutP.tup h rh q⟩
        · exact .inr ⟨hs, OutP.here h rh (by simp only [Rep]; exact ⟨p, ys, rfl, hs, q⟩)⟩
def bList : PL := fun ds oh => match ds with
  | [d] => (itemsOf oh d).map fun l => (.ref oh.length, oh ++ [.lst l])
  | _ => none
theorem c_list : CallR X (.type "list") (rPL X bList) := by
  intro pins s σ H xs us Q I rv ⟨ρ, oh, ds, rh, r, h⟩
  cases ds with
  | nil => exact h.elim
  | cons d ds =>
    cases ds with
    | cons _ _ => exact h.elim
    | nil =>
      obtain ⟨v, rfl, r1⟩ := r.one
      simp only [bList] at h
      cases el : itemsOf oh d with
      | none => rw [el] at h; exact h.elim
      | some l =>
        rw [el] at h
        obtain ⟨p, ys, rfl, hs, q⟩ := itemsOf_rep rh r1 el
        exact call_list_of pins s σ H _ us Q I rv ⟨p, ys, rfl, hs, OutP.pushL h rh q⟩
def toInts : List D → Option (List Int)
  | [] => some []
  | .int i :: ds => (toInts ds).map (i :: ·)
  | _ => none
theorem toInts_rep {K : PySem.W.Frag} {H : Hp} {ρ : List Addr} : ∀ {l : List D} {ns : List Int} {xs : List V}, toInts l = some ns → RepL K H ρ l xs → xs = ns.map V.int
  | [], ns, xs, e, r => by
    cases e
    simp only [RepL] at r
    rw [r]
    rfl
  | .int i :: ds, ns, xs, e, r => by
    simp only [toInts, Option.map_eq_some_iff] at e
    obtain ⟨ms, e1, rfl⟩ := e
    simp only [RepL, Rep] at r
    obtain ⟨v, vs, rfl, rfl, r2⟩ := r
    rw [toInts_rep e1 r2]
    rfl
  | .non :: _, _, _, e, _ => by cases e
  | .bl _ :: _, _, _, e, _ => by cases e
  | .str _ :: _, _, _, e, _ => by cases e
  | .tup _ :: _, _, _, e, _ => by cases e
  | .ref _ :: _, _, _, e, _ => by cases e
  | .adr _ :: _, _, _, e, _ => by cases e
def bSum : PL := fun ds oh => match ds with
  | [.ref n] => match itemsOf oh (.ref n) with
    | some l => (toInts l).map fun ns => (.int ns.sum, oh)
    | none => none
  | _ => none
theorem items_ref {ρ : List Addr} {H : Hp} {oh : OH} {n : Nat} {x : V} {l : List D} (rh : RH X.K H ρ oh) (r : Rep X.K H ρ (.ref n) x) (e : itemsOf oh (.ref n) = some l) : ∃ p xs, x = .ref p ∧ SqL X.K H p xs ∧ RepL X.K H ρ l xs := by
  simp only [Rep] at r
  obtain ⟨a, rfl, ga⟩ := r
  simp only [itemsOf] at e
  split at e
  · rename_i m el
    cases e
    obtain ⟨xs, hx, q⟩ := rh.cell _ _ a el ga
    exact ⟨a, xs, rfl, SqL.of hx, q⟩
  · rename_i m el
    cases e
    obtain ⟨xs, hx, q⟩ := (rh.cell _ _ a el ga).sq
    exact ⟨a, xs, rfl, hx, q⟩
  · cases e
theorem c_sum (hc : X.calm = true) : CallR X (.builtin "sum") (rPL X bSum) := by
  intro pins s σ H xs us Q I rv ⟨ρ, oh, ds, rh, r, h⟩
  unfold bSum at h
  split at h
  · rename_i n
    obtain ⟨v, rfl, r1⟩ := r.one
    split at h
    · rename_i l el
      obtain ⟨p, ys, rfl, hs, q⟩ := items_ref rh r1 el
      cases e : toInts l with
      | none => rw [e] at h; exact h.elim
      | some ns =>
        rw [e] at h
        have ey := toInts_rep e q
        subst ey
        exact cr_sum hc pins s σ H _ us Q I rv ⟨p, ns, rfl, hs, OutP.here h rh (by simp [Rep])⟩
    · exact h.elim
  · exact h.elim
theorem len_nil : ∀ (s : Ev) (oh : OH) (ds : List D) (oh' : OH), aNil s oh = .ok ds oh' → ds.length = 0 := fun s oh ds oh' e => by
  cases e; rfl
theorem len_cons {n : Nat} (h : ∀ (s : Ev) (oh : OH) (ds : List D) (oh' : OH), ms s oh = .ok ds oh' → ds.length = n) : ∀ (s : Ev) (oh : OH) (ds : List D) (oh' : OH), aCons ma ms s oh = .ok ds oh' → ds.length = n + 1 := fun s oh ds oh' e => by
  unfold aCons at e
  cases e1 : ma s oh with
  | ok d oh1 =>
    rw [e1, bnd_ok] at e
    cases e2 : ms s oh1 with
    | ok es oh2 =>
      rw [e2, bnd_ok] at e
      cases e
      rw [List.length_cons, h _ _ _ _ e2]
    | exc => rw [e2] at e; cases e
    | bad => rw [e2] at e; cases e
  | exc => rw [e1] at e; cases e
  | bad => rw [e1] at e; cases e
/-! ### calls of defs -/
abbrev Fn := List D → M D
def OutF (K : PySem.W.Frag) (mg : Str → Option Value) (ρ : List Addr) (H : Hp) (r : R D) (Q : VK) (E : XK) : Prop := Out K mg E ρ H r fun d _ ρ' H' => ∀ v, Rep K H' ρ' d v → Q v H'
def spF (K : PySem.W.Frag) (mg : Str → Option Value) (n : Nat) (f : Fn) : Sp := fun vs H Q E => ∃ ρ oh ds, vs.length = n ∧ RH K H ρ oh ∧ RepL K H ρ ds vs ∧ OutF K mg ρ H (f ds oh) Q E
def eCall (f : Fn) (m : Ev → M (List D)) : Ev → M D := fun s oh => (m s oh).bnd fun ds oh => f ds oh
theorem re_call {k n : Nat} {f : Addr} {fd : FuncData} {ps : List Str} {x : Str} {p : Pos} {g : Fn} (F : FnOk X.prog X.w X.K X.mg X.base (L2.CX X.prog X.w) k f fd ps (spF X.K X.mg ps.length g)) (hr : Room k X.A) (hm : X.mg x = some (.ref f)) (hk : PySem.W.keepIn X.K (.ref f) = true) (hb : Binds X.K fd ps []) (tk : Takes X W)
    (ha : RA X W (e :: es) ms) (hl : (e :: es).length = ps.length := by rfl) (hg : Gl X x := by rfl) (hdb : (x == ("__debug__" : Str)) = false := by decide) (he : starEach (e :: es) X.env = (false, eval e X.env) :: starEach es X.env := by rfl) (hpl : (backTo pos (starEach es X.env)).any (·.1) = false := by rfl)
    (hlen : ∀ s oh ds oh', ms s oh = .ok ds oh' → ds.length = (e :: es).length) :
    RE X W (.Call (.Name x p) (e :: es) [] pos) (eCall g ms) := (pe_callS (E := WE W) F hr hg hm hk hb (fun σ => passAt tk σ) ha hdb he hpl).imp fun σ H Q ⟨ρ, oh, s, rh, rs, h⟩ => by
  refine ⟨ρ, oh, s, rh, rs, ?_⟩
  have h2 := Out.bnd h
  cases em : ms s oh with
  | ok ds oh1 =>
    rw [em] at h2
    intro ρ1 H1 L1 rh1 vs rvs
    exact ⟨ρ1, oh1, ds, by rw [← rvs.length, hlen _ _ _ _ em, hl], rh1, rvs, (h2 ρ1 H1 L1 rh1).2.2⟩
  | exc c w oh1 => rw [em] at h2; exact h2
  | bad => rw [em] at h2; exact h2
end
end SK
namespace SK
open PySem PySem.Spec PyProof.Rows L2
abbrev SM := Ev → OH → RS
def RS.bnd (r : RS) (f : Ev → OH → RS) : RS := match r with
  | .nx s oh => f s oh
  | r => r
def R.st {α : Type} (s : Ev) (r : R α) (f : α → OH → RS) : RS := match r with
  | .ok a oh => f a oh
  | .exc c w oh => .exc c w s oh
  | .bad => .bad
section
variable {X : Cx} {W : WX} {e b : Expr} {es : List Expr} {st : Stmt} {rest : List Stmt} {ma mb : Ev → M D} {na : Ev → M Bool} {m1 m2 : SM} {pos : Pos}
theorem Out.toS {α : Type} {ρ : List Addr} {H : Hp} {σ : L2.St} {s : Ev} {r : R α} {f : α → OH → RS} {E : Ends} (h : OutS X.K X.mg W ρ H (r.st s f) E) (rs : RepS X.K H ρ s σ) :
    Out X.K X.mg (fun c d H' => W c d σ H') ρ H r fun a oh ρ' H' => OutS X.K X.mg W ρ' H' (f a oh) E := by
  cases r with
  | ok a oh => exact fun ρ' H' L _ => OutS.later (r := f a oh) h L
  | exc c w oh => exact fun ρ' H' dd v C L rh rv => h ρ' H' σ dd v C L rh (L.reps rs) rv
  | bad => exact h
def sSkip : SM := fun s oh => .nx s oh
def sSeq (a b : SM) : SM := fun s oh => (a s oh).bnd b
def sExpr (m : Ev → M D) : SM := fun s oh => (m s oh).st s fun _ oh => .nx s oh
def sRet (m : Ev → M D) : SM := fun s oh => (m s oh).st s fun d oh => .rt d oh
def sRetN : SM := fun _ oh => .rt .non oh
def sSet (i : Nat) (m : Ev → M D) : SM := fun s oh => (m s oh).st s fun d oh => .nx (s.set i (some d)) oh
def sIf (t : Ev → M Bool) (a b : SM) : SM := fun s oh => (t s oh).st s fun c oh => if c then a s oh else b s oh
theorem rss_nil : RSs X W [] sSkip := pss_nil.imp fun D σ H ⟨ρ, oh, s, rh, rs, h⟩ => h ρ H σ .refl rh rs
theorem rss_one (h : RSt X W st m1) : RSs X W [st] m1 := pss_one h
theorem rss_cons (h1 : RSt X W st m1) (h2 : RSs X W rest m2) : RSs X W (st :: rest) (sSeq m1 m2) := (pss_cons h1 h2).imp fun D σ H ⟨ρ, oh, s, rh, rs, h⟩ => by
  refine ⟨ρ, oh, s, rh, rs, ?_⟩
  show OutS _ _ _ _ _ _ _
  unfold sSeq at h
  cases er : m1 s oh with
  | nx s1 oh1 =>
    rw [er] at h
    exact fun ρ' H' σ' L rh' rs' => ⟨ρ', oh1, s1, rh', rs', OutS.later (r := m2 s1 oh1) h L⟩
  | rt d oh1 => rw [er] at h; exact h
  | bk d oh1 => rw [er] at h; exact h
  | ct d oh1 => rw [er] at h; exact h
  | exc c w s1 oh1 => rw [er] at h; exact h
  | bad => rw [er] at h; exact h
theorem rs_pass : RSt X W (.Pass pos) sSkip := ps_pass.imp fun D σ H ⟨ρ, oh, s, rh, rs, h⟩ => h ρ H σ .refl rh rs
def sBreak : SM := fun s oh => .bk s oh
def sCont : SM := fun s oh => .ct s oh
theorem rs_break : RSt X W (.Break pos) sBreak := ps_break.imp fun D σ H ⟨ρ, oh, s, rh, rs, h⟩ => h ρ H σ .refl rh rs
theorem rs_cont : RSt X W (.Continue pos) sCont := ps_continue.imp fun D σ H ⟨ρ, oh, s, rh, rs, h⟩ => h ρ H σ .refl rh rs
theorem rs_expr (he : RE X W e ma) (hs : swapsWith e none pos.line X.env = pure false := by rfl) : RSt X W (.Expr e pos) (sExpr ma) := (ps_expr he hs).imp fun D σ H ⟨ρ, oh, s, rh, rs, h⟩ =>
  ⟨ρ, oh, s, rh, rs, (Out.toS h rs).imp fun d oh1 ρ1 H1 L1 rh1 h1 v rv => h1 ρ1 H1 σ .refl rh1 (L1.reps rs)⟩
theorem rs_ret (he : RE X W e ma) : RSt X W (.Return (some e) pos) (sRet ma) := (ps_ret he).imp fun D σ H ⟨ρ, oh, s, rh, rs, h⟩ =>
  ⟨ρ, oh, s, rh, rs, (Out.toS h rs).imp fun d oh1 ρ1 H1 L1 rh1 h1 v rv => h1 ρ1 H1 v .refl rh1 rv⟩
theorem rs_retN : RSt X W (.Return none pos) sRetN := ps_retN.imp fun D σ H ⟨ρ, oh, s, rh, rs, h⟩ => h ρ H .non .refl rh (by simp [Rep])
theorem rs_set {i : Nat} {x : Str} {pos' : Pos} (hN : X.N.Nodup) (hi : X.N[i]? = some x) (hx : Loc X.env.scope x) (he : RE X W e ma) (hs : swapsWith e (some (.Name x pos')) pos.line X.env = pure false := by rfl) (hf : X.fn x = true ∨ X.env.scope.names.lookup x = some .local := by first | exact .inl rfl | exact .inr rfl | assumption) :
    RSt X W (.Assign [.Name x pos'] e pos) (sSet i ma) := (ps_set hN hi hx he hs hf).imp fun D σ H ⟨ρ, oh, s, rh, rs, h⟩ =>
  ⟨ρ, oh, s, rh, rs, (Out.toS h rs).imp fun d oh1 ρ1 H1 L1 rh1 h1 v rv => h1 ρ1 H1 (σ.set i (some v)) .refl rh1 (RepS.set rv i (L1.reps rs))⟩
theorem rs_if {c : Expr} {a b : List Stmt} (hc : RT X W c na) (ha : RSs X W a m1) (hb : RSs X W b m2) : RSt X W (.If c a b pos) (sIf na m1 m2) := (ps_if hc ha hb).imp fun D σ H ⟨ρ, oh, s, rh, rs, h⟩ => by
  refine ⟨ρ, oh, s, rh, rs, (Out.toS h rs).imp fun c oh1 ρ1 H1 L1 rh1 h1 => ?_⟩
  cases c with
  | true => exact ⟨ρ1, oh1, s, rh1, L1.reps rs, h1⟩
  | false => exact ⟨ρ1, oh1, s, rh1, L1.reps rs, h1⟩
/-! ### targets -/
abbrev GM := D → Ev → OH → Option (Ev × OH)
abbrev GMs := List D → Ev → OH → Option (Ev × OH)
def OutG (X : Cx) (ρ : List Addr) (H : Hp) (o : Option (Ev × OH)) (Q : L2.St → Hp → Prop) : Prop := match o with
  | some (s, oh) => ∀ ρ' H' σ', Later X.K ρ H ρ' H' → RH X.K H' ρ' oh → RepS X.K H' ρ' s σ' → Q σ' H'
  | none => False
def tG (X : Cx) (g : GM) : TG := fun v σ H Q => ∃ ρ oh s d, RH X.K H ρ oh ∧ RepS X.K H ρ s σ ∧ Rep X.K H ρ d v ∧ OutG X ρ H (g d s oh) Q
def tGs (X : Cx) (g : GMs) : TGs := fun vs σ H Q => ∃ ρ oh s ds, RH X.K H ρ oh ∧ RepS X.K H ρ s σ ∧ RepL X.K H ρ ds vs ∧ OutG X ρ H (g ds s oh) Q
abbrev RG (X : Cx) (tg : Expr) (g : GM) : Prop := PG X tg (tG X g)
abbrev RGs (X : Cx) (tg : List Expr) (g : GMs) : Prop := PGs X tg (tGs X g)
end
end SK
namespace L2
open PySem PySem.Spec PyProof.Rows
theorem PG.imp {X : Cx} {e : Expr} {t t' : TG} (h : PG X e t) (f : ∀ v σ H Q, t' v σ H Q → t v σ H Q) : PG X e t' := ⟨fun pins s σ H v u Q I r q => h.run pins s σ H v u Q I r (f _ _ _ _ q)⟩
theorem PGs.imp {X : Cx} {e : List Expr} {t t' : TGs} (h : PGs X e t) (f : ∀ v σ H Q, t' v σ H Q → t v σ H Q) : PGs X e t' := ⟨fun pins s σ H v u Q I r q => h.run pins s σ H v u Q I r (f _ _ _ _ q)⟩
theorem PI.imp {X : Cx} {tg e : Expr} {t t' : TI} (h : PI X tg e t) (f : ∀ σ H R, t' σ H R → t σ H R) : PI X tg e t' := ⟨fun pins s σ H R I q => h.run pins s σ H R I (f _ _ _ q)⟩
end L2
namespace SK
open PySem PySem.Spec PyProof.Rows L2
section
variable {X : Cx} {W : WX} {e b : Expr} {es : List Expr} {st : Stmt} {rest : List Stmt} {ma mb : Ev → M D} {ms : Ev → M (List D)} {na : Ev → M Bool} {m1 m2 : SM} {pos : Pos} {g : GM} {gs : GMs}
def gN (i : Nat) : GM := fun d s oh => some (s.set i (some d), oh)
def gNil : GMs := fun ds s oh => match ds with
  | [] => some (s, oh)
  | _ => none
def gCons (g : GM) (gs : GMs) : GMs := fun ds s oh => match ds with
  | [] => none
  | d :: ds => match g d s oh with
    | some (s, oh) => gs ds s oh
    | none => none
def gT (n : Nat) (gs : GMs) : GM := fun d s oh => match d with
  | .tup l => if l.length = n then gs l s oh else none
  | _ => none
theorem rg_name {i : Nat} {x : Str} (hN : X.N.Nodup) (hi : X.N[i]? = some x) (hx : Loc X.env.scope x) (hf : X.fn x = true ∨ X.env.scope.names.lookup x = some .local := by first | exact .inl rfl | exact .inr rfl | assumption) : RG X (.Name x pos) (gN i) :=
  (pg_name hN hi hx hf).imp fun v σ H Q ⟨ρ, oh, s, d, rh, rs, r, h⟩ => h ρ H _ .refl rh (RepS.set r i rs)
theorem rgs_nil : RGs X [] gNil := pgs_nil.imp fun v σ H Q ⟨ρ, oh, s, ds, rh, rs, r, h⟩ => by
  cases ds with
  | nil =>
    simp only [RepL] at r
    exact ⟨r, h ρ H σ .refl rh rs⟩
  | cons => exact h.elim
theorem rgs_cons (h1 : RG X e g) (h2 : RGs X es gs) (hs : (assignEach (e :: es) X.env).map (·.2) = assign e X.env :: (assignEach es X.env).map (·.2) := by rfl) : RGs X (e :: es) (gCons g gs) := (pgs_cons h1 h2 hs).imp fun v σ H Q ⟨ρ, oh, s, ds, rh, rs, r, h⟩ => by
  cases ds with
  | nil => exact h.elim
  | cons d ds =>
    simp only [RepL] at r
    obtain ⟨w, ws, rfl, r1, r2⟩ := r
    refine ⟨w, ws, rfl, ρ, oh, s, d, rh, rs, r1, ?_⟩
    simp only [gCons] at h
    cases eg : g d s oh with
    | none => rw [eg] at h; exact h.elim
    | some p =>
      obtain ⟨s1, oh1⟩ := p
      rw [eg] at h
      intro ρ1 H1 σ1 L1 rh1 rs1
      refine ⟨ρ1, oh1, s1, ds, rh1, rs1, L1.repl r2, ?_⟩
      cases e2 : gs ds s1 oh1 with
      | none => simp only [e2] at h; exact h.elim
      | some q =>
        simp only [e2] at h
        exact fun ρ' H' σ' L => h ρ' H' σ' (L1.trans L)
theorem rg_tup {k n : Nat} (hc : X.calm = true) (h : RGs X es gs) (hn : (assignEach es X.env).length = n := by rfl) (hst : (assignEach es X.env).findIdx? (·.1) = none := by rfl) : RG X (.Tuple es k pos) (gT n gs) := (pg_tup hc h hn hst).imp fun v σ H Q ⟨ρ, oh, s, d, rh, rs, r, h⟩ => by
  cases d with
  | tup l =>
    simp only [Rep] at r
    obtain ⟨a, xs, rfl, hs, r⟩ := r
    simp only [gT] at h
    split at h
    · rename_i hl
      exact ⟨a, xs, rfl, hs, by rw [← r.length]; exact hl, ρ, oh, s, l, rh, rs, r, h⟩
    · exact h.elim
  | _ => exact h.elim
/-- o[i] = v -/
def pSetI (o i v : D) (oh : OH) : Option OH := match o, i with
  | .ref n, .int k => match oh[n]? with
    | some (.lst l) => (ixN l.length k).map fun j => oh.set n (.lst (l.set j v))
    | _ => none
  | _, _ => none
def gSub (mo mi : Ev → M D) : GM := fun d s oh => match mo s oh with
  | .ok o oh => match mi s oh with
    | .ok i oh => (pSetI o i d oh).map fun oh => (s, oh)
    | _ => none
  | _ => none
theorem rg_sub {o i : Expr} {mo mi : Ev → M D} (ho : RE X W o mo) (hi : RE X W i mi)
    (ha : ∀ v, assign (.Subscript o i pos) X.env v = (do
      let ov ← holding [v] (eval o X.env)
      let iv ← holding [v, ov] (eval i X.env)
      standAt pos
      holding [v, ov, iv] (setItem ov iv v)
      release [v, ov, iv] []) := by intro _; rfl) : RG X (.Subscript o i pos) (gSub mo mi) := (pg_sub ho hi set_list ha).imp fun v σ H Q ⟨ρ, oh, s, d, rh, rs, r, h⟩ => by
  refine ⟨ρ, oh, s, rh, rs, ?_⟩
  unfold gSub at h
  cases e1 : mo s oh with
  | ok o oh1 =>
    simp only [e1] at h
    intro ρ1 H1 L1 rh1 x rx
    refine ⟨ρ1, oh1, s, rh1, L1.reps rs, ?_⟩
    cases e2 : mi s oh1 with
    | ok j oh2 =>
      simp only [e2] at h
      intro ρ2 H2 L2 rh2 y ry
      have rx2 := L2.rep rx
      have rv2 := (L1.trans L2).rep r
      cases o with
      | ref n =>
        cases j with
        | int k =>
          simp only [Rep] at rx2 ry
          obtain ⟨a, rfl, ga⟩ := rx2
          subst ry
          simp only [pSetI] at h
          split at h
          · rename_i l el
            obtain ⟨xs, hx, q⟩ := rh2.cell _ _ a el ga
            cases ej : ixN l.length k with
            | none => rw [ej] at h; exact h.elim
            | some j =>
              rw [ej] at h
              refine ⟨a, xs, k, j, rfl, rfl, hx, by rw [← q.length]; exact ej, ?_⟩
              obtain ⟨rh3, L3⟩ := rh2.write el ga hx (RepL.set rv2 j q)
              exact h ρ2 _ σ (L1.trans (L2.trans L3)) rh3 ((L1.trans (L2.trans L3)).reps rs)
          · exact h.elim
        | _ => exact h.elim
      | _ => exact h.elim
    | exc c w oh2 => simp only [e2] at h; exact h.elim
    | bad => simp only [e2] at h; exact h.elim
  | exc c w oh2 => simp only [e1] at h; exact h.elim
  | bad => simp only [e1] at h; exact h.elim
def sAsg (m : Ev → M D) (g : GM) : SM := fun s oh => (m s oh).st s fun d oh => match g d s oh with
  | some (s, oh) => .nx s oh
  | none => .bad
theorem rs_asg {tg : Expr} (he : RE X W e ma) (hg : RG X tg g) (hs : swapsWithSole [tg] e pos.line X.env = pure false := by rfl) (hw : swappedStores [tg] e X.env = pure none := by rfl)
    (h1 : (assignEach [tg] X.env).map (·.2) = [assign tg X.env] := by rfl) : RSt X W (.Assign [tg] e pos) (sAsg ma g) := (ps_asg he hg hs hw h1).imp fun D σ H ⟨ρ, oh, s, rh, rs, h⟩ => by
  refine ⟨ρ, oh, s, rh, rs, (Out.toS h rs).imp fun d oh1 ρ1 H1 L1 rh1 h1 v rv => ?_⟩
  refine ⟨ρ1, oh1, s, d, rh1, L1.reps rs, rv, ?_⟩
  cases eg : g d s oh1 with
  | none => simp only [eg] at h1; exact h1.elim
  | some p => simp only [eg] at h1; exact h1
/-- a, b = e1, e2: two locals -/
def sPar2 (i j : Nat) (m : Ev → M (List D)) : SM := fun s oh => (m s oh).st s fun ds oh => match ds with
  | [d, d'] => .nx ((s.set i (some d)).set j (some d')) oh
  | _ => .bad
theorem rs_par {i j : Nat} {x y : Str} {px py pt : Pos} {kt k2 : Nat} {pt2 : Pos} (hc : X.calm = true) (hN : X.N.Nodup) (hi : X.N[i]? = some x) (hj : X.N[j]? = some y)
    (hx : X.env.scope.names.lookup x = some .local) (hy : X.env.scope.names.lookup y = some .local) (ha : RA X W [e, b] ms)
    (hw : swappedStores [.Tuple [.Name x px, .Name y py] kt pt] (.Tuple [e, b] k2 pt2) X.env = pure (some [x, y]) := by rfl) (hij : i ≠ j := by decide)
    (hs : swapsWithSole [.Tuple [.Name x px, .Name y py] kt pt] (.Tuple [e, b] k2 pt2) pos.line X.env = pure false := by rfl) :
    RSt X W (.Assign [.Tuple [.Name x px, .Name y py] kt pt] (.Tuple [e, b] k2 pt2) pos) (sPar2 i j ms) := (ps_par hc hN hi hj hij hx hy ha hw hs).imp fun D σ H ⟨ρ, oh, s, rh, rs, h⟩ => by
  refine ⟨ρ, oh, s, rh, rs, (Out.toS h rs).imp fun ds oh1 ρ1 H1 L1 rh1 h1 vs rv => ?_⟩
  split at h1
  · obtain ⟨v, w, rfl, r1, r2⟩ := rv.two
    exact ⟨v, w, rfl, h1 ρ1 H1 _ .refl rh1 (RepS.set r2 j (RepS.set r1 i (L1.reps rs)))⟩
  · exact h1.elim
/-! ### what is walked -/
inductive Src where
  | val (d : D)
  | rng (lo : Int) (n : Nat)
def SrcIt (K : PySem.W.Frag) (H : Hp) (ρ : List Addr) : Src → It → Prop
  | .val (.tup l), J => ∃ a xs, SqT K H a xs ∧ RepL K H ρ l xs ∧ J = Itt K a
  | .val (.ref n), J => ∃ a, ρ[n]? = some a ∧ J = Itl K a
  | .val _, _ => False
  | .rng lo n, J => J = Itr lo n
def okSrc (oh : OH) : Src → Bool
  | .val d => (itemsOf oh d).isSome
  | .rng _ _ => true
def tI (X : Cx) (W : WX) (m : Ev → M Src) : TI := fun σ H R => ∃ ρ oh s, RH X.K H ρ oh ∧ RepS X.K H ρ s σ ∧
  Out X.K X.mg (fun c d H' => W c d σ H') ρ H (m s oh) fun src oh' ρ' H' => okSrc oh' src = true ∧ ∀ J, SrcIt X.K H' ρ' src J → R J H'
abbrev RI (X : Cx) (W : WX) (tg iter : Expr) (m : Ev → M Src) : Prop := PI X tg iter (tI X W m)
def iVal (m : Ev → M D) : Ev → M Src := fun s oh => (m s oh).bnd fun d oh => .ok (.val d) oh
def iRange1 (m : Ev → M (List D)) : Ev → M Src := fun s oh => (m s oh).bnd fun ds oh => match ds with
  | [.int j] => if -(2 ^ 62) ≤ j ∧ j < 2 ^ 62 then .ok (.rng 0 j.toNat) oh else .bad
  | _ => .bad
def iRange2 (m : Ev → M (List D)) : Ev → M Src := fun s oh => (m s oh).bnd fun ds oh => match ds with
  | [.int i, .int j] => if -(2 ^ 62) ≤ i ∧ i < 2 ^ 62 ∧ -(2 ^ 62) ≤ j ∧ j < 2 ^ 62 then .ok (.rng i (j - i).toNat) oh else .bad
  | _ => .bad
theorem ri_seq {tg l : Expr} (hl : RE X W l ma) : RI X W tg l (iVal ma) := by
  refine ⟨fun pins s σ H R I hh => ?_⟩
  obtain ⟨ρ, oh, sv, rh, rs, h⟩ := hh
  refine thn (hl.run pins s σ H (fun x H1 => ∃ (a : Addr) (J : It), x = .ref a ∧ R J H1 ∧ ((J = Itl X.K a ∧ ∃ xs, SqL X.K H1 a xs) ∨ (J = Itt X.K a ∧ ∃ xs, SqT X.K H1 a xs))) I ⟨ρ, oh, sv, rh, rs, ?_⟩) fun v s1 ⟨x, H1, I1, r1, a, J, ex, qr, qj⟩ => ?_
  · refine (Out.bnd h).imp fun d oh1 ρ1 H1 L1 rh1 ⟨_, _, h1⟩ x rx => ?_
    obtain ⟨hk, hJ⟩ := h1 ρ1 H1 .refl rh1
    cases d with
    | tup l =>
      simp only [Rep] at rx
      obtain ⟨a, xs, rfl, hs, r⟩ := rx
      exact ⟨a, _, rfl, hJ (Itt X.K a) ⟨a, xs, hs, r, rfl⟩, .inr ⟨rfl, xs, hs⟩⟩
    | ref n =>
      simp only [okSrc, Option.isSome_iff_exists] at hk
      obtain ⟨l, el⟩ := hk
      obtain ⟨p, xs, rfl, hs, r⟩ := items_ref rh1 rx el
      simp only [Rep] at rx
      obtain ⟨p', e', gp⟩ := rx
      cases e'
      exact ⟨p, _, rfl, hJ (Itl X.K p) ⟨p, gp, rfl⟩, .inl ⟨rfl, xs, hs⟩⟩
    | _ => cases hk
  · subst ex
    obtain rfl : v = Value.ref a := r1
    have nw := I1.hok.fresh (Nat.le_refl s1.heap.objs.size)
    have fpk : ∀ b ∈ [s1.heap.objs.size], FpOk X pins H1 b := fun b hb => by
      rw [List.mem_singleton] at hb
      rw [hb]
      exact I1.fpOk (Nat.le_refl _) nw
    rcases qj with ⟨rfl, xs, hs⟩ | ⟨rfl, xs, hs⟩
    · obtain ⟨its, _, pl, _⟩ := I1.list hs
      exact wpAny_pyIter_list pl.isList ⟨_, _, _, _, H1, rfl, I1.kept (t' := s1.toks) (fun _ _ z => Heap.get?_push_of_some _ z), turn_list a _, ⟨_, Heap.get?_push_size _ rfl, rfl, rfl⟩, fpk, qr⟩
    · obtain ⟨its, _, pl, _⟩ := I1.tuple hs
      exact wpAny_pyIter_tuple (show s1.heap.IsTuple a its.toArray from pl) ⟨_, _, _, _, H1, rfl, I1.kept (t' := s1.toks) (fun _ _ z => Heap.get?_push_of_some _ z), turn_tuple a _, ⟨_, Heap.get?_push_size _ rfl, rfl, rfl⟩, fpk, qr⟩
theorem ri_range1 {tg : Expr} {p : Pos} (hm : X.mg "range" = none) (ha : RA X W [e] ms) (hg : Gl X "range" := by rfl) (hs : starEach [e] X.env = [(false, eval e X.env)] := by rfl) : RI X W tg (.Call (.Name "range" p) [e] [] pos) (iRange1 ms) := (pi_range1 hg hm ha hs).imp fun σ H R ⟨ρ, oh, s, rh, rs, h⟩ => by
  refine ⟨ρ, oh, s, rh, rs, (Out.bnd h).imp fun ds oh1 ρ1 H1 L1 rh1 ⟨_, _, h1⟩ vs rv => ?_⟩
  split at h1
  · obtain ⟨v, rfl, r1⟩ := rv.one
    simp only [Rep] at r1
    subst r1
    split at h1
    · rename_i hz
      exact ⟨_, rfl, hz.1, hz.2, (h1 ρ1 H1 .refl rh1).2 _ rfl⟩
    · exact h1.elim
  · exact h1.elim
theorem ri_range2 {tg : Expr} {p : Pos} (hm : X.mg "range" = none) (ha : RA X W [e, b] ms) (hg : Gl X "range" := by rfl) (hs : starEach [e, b] X.env = [(false, eval e X.env), (false, eval b X.env)] := by rfl) (hs2 : starEach [b] X.env = [(false, eval b X.env)] := by rfl) : RI X W tg (.Call (.Name "range" p) [e, b] [] pos) (iRange2 ms) := (pi_range2 hg hm ha hs hs2).imp fun σ H R ⟨ρ, oh, s, rh, rs, h⟩ => by
  refine ⟨ρ, oh, s, rh, rs, (Out.bnd h).imp fun ds oh1 ρ1 H1 L1 rh1 ⟨_, _, h1⟩ vs rv => ?_⟩
  split at h1
  · obtain ⟨v, w, rfl, r1, r2⟩ := rv.two
    simp only [Rep] at r1 r2
    subst r1; subst r2
    split at h1
    · rename_i hz
      exact ⟨_, _, rfl, hz, (h1 ρ1 H1 .refl rh1).2 _ rfl⟩
    · exact h1.elim
  · exact h1.elim
/-! ### loops -/
def loopT (g : GM) (body : SM) : List D → SM
  | [], s, oh => .nx s oh
  | d :: ds, s, oh => match g d s oh with
    | none => .bad
    | some (s1, oh1) => match body s1 oh1 with
      | .nx s2 oh2 => loopT g body ds s2 oh2
      | .ct s2 oh2 => loopT g body ds s2 oh2
      | .bk s2 oh2 => .nx s2 oh2
      | r => r
def loopR (g : GM) (body : SM) (k : Nat) : Nat → Nat → SM
  | 0, _, _, _ => .bad
  | f + 1, i, s, oh => match itemsOf oh (.ref k) with
    | none => .bad
    | some l => match l[i]? with
      | none => .nx s oh
      | some d => match g d s oh with
        | none => .bad
        | some (s1, oh1) => match body s1 oh1 with
          | .nx s2 oh2 => loopR g body k f (i + 1) s2 oh2
          | .ct s2 oh2 => loopR g body k f (i + 1) s2 oh2
          | .bk s2 oh2 => .nx s2 oh2
          | r => r
def sFor (m : Ev → M Src) (g : GM) (body : SM) : SM := fun s oh => (m s oh).st s fun src oh => match src with
  | .rng lo n => loopT g body ((List.range n).map fun (i : Nat) => D.int (lo + (i : Int))) s oh
  | .val (.tup l) => loopT g body l s oh
  | .val (.ref k) => match itemsOf oh (.ref k) with
    | some l => loopR g body k (l.length + 1) 0 s oh
    | none => .bad
  | .val _ => .bad
/-- one turn -/
theorem turn_of {ρ : List Addr} {H : Hp} {σ : L2.St} {s : Ev} {oh : OH} {d : D} {x : V} {k : SM} {D0 : Ends} {N : L2.St → Hp → Prop} (rh : RH X.K H ρ oh) (rs : RepS X.K H ρ s σ) (rx : Rep X.K H ρ d x)
    (h : OutS X.K X.mg W ρ H (match g d s oh with
      | none => .bad
      | some (s1, oh1) => match m1 s1 oh1 with
        | .nx s2 oh2 => k s2 oh2
        | .ct s2 oh2 => k s2 oh2
        | .bk s2 oh2 => .nx s2 oh2
        | r => r) D0) (hN : ∀ ρ' H' σ' s' oh', Later X.K ρ H ρ' H' → RH X.K H' ρ' oh' → RepS X.K H' ρ' s' σ' → OutS X.K X.mg W ρ' H' (k s' oh') D0 → N σ' H') :
    tG X g x σ H fun σ2 H2 => tS X W m1 { D0 with nx := N, ct := N, bk := D0.nx } σ2 H2 := by
  refine ⟨ρ, oh, s, d, rh, rs, rx, ?_⟩
  cases eg : g d s oh with
  | none => rw [eg] at h; exact h.elim
  | some p =>
    obtain ⟨s1, oh1⟩ := p
    rw [eg] at h
    intro ρ1 H1 σ1 L1 rh1 rs1
    refine ⟨ρ1, oh1, s1, rh1, rs1, ?_⟩
    dsimp only at h
    cases eb : m1 s1 oh1 with
    | nx s2 oh2 =>
      rw [eb] at h
      exact fun ρ2 H2 σ2 L2 rh2 rs2 => hN ρ2 H2 σ2 s2 oh2 (L1.trans L2) rh2 rs2 (OutS.later (r := k s2 oh2) h (L1.trans L2))
    | ct s2 oh2 =>
      rw [eb] at h
      exact fun ρ2 H2 σ2 L2 rh2 rs2 => hN ρ2 H2 σ2 s2 oh2 (L1.trans L2) rh2 rs2 (OutS.later (r := k s2 oh2) h (L1.trans L2))
    | bk s2 oh2 =>
      rw [eb] at h
      exact fun ρ2 H2 σ2 L2 => h ρ2 H2 σ2 (L1.trans L2)
    | rt d2 oh2 =>
      rw [eb] at h
      exact fun ρ2 H2 v L2 => h ρ2 H2 v (L1.trans L2)
    | exc c w s2 oh2 =>
      rw [eb] at h
      exact fun ρ2 H2 σ2 dd v C L2 => h ρ2 H2 σ2 dd v C (L1.trans L2)
    | bad => rw [eb] at h; exact h
theorem drop_at {l : List D} {i : Nat} {d : D} (h : l[i]? = some d) : l.drop i = d :: l.drop (i + 1) := by
  obtain ⟨hi, e⟩ := List.getElem?_eq_some_iff.mp h
  rw [List.drop_eq_getElem_cons hi, e]
/-- a walk over items that stand -/
theorem for_items {l : List D} {J : It} {ρ : List Addr} {H : Hp} {σ : L2.St} {s : Ev} {oh : OH} {D0 : Ends} (rh : RH X.K H ρ oh) (rs : RepS X.K H ρ s σ)
    (hgo : ∀ (i : Nat) d ρ' H', Later X.K ρ H ρ' H' → l[i]? = some d → J.go i H' ∧ ∀ x H'', J.yld i H' x H'' → H'' = H' ∧ Rep X.K H' ρ' d x)
    (hst : ∀ (i : Nat) ρ' H', Later X.K ρ H ρ' H' → l.length ≤ i → J.stop i H') (h : OutS X.K X.mg W ρ H (loopT g m1 l s oh) D0) :
    ∃ Wt : Nat → Nat → L2.St → Hp → Prop, (∃ m, Wt 0 m σ H) ∧ ∀ i m σ H, Wt i m σ H →
      (J.stop i H ∧ D0.nx σ H) ∨ (J.go i H ∧ ∃ N : L2.St → Hp → Prop, (∀ σ' H', N σ' H' → ∃ m', m' < m ∧ Wt (i + 1) m' σ' H') ∧ ∀ x H', J.yld i H x H' → tG X g x σ H' fun σ2 H2 => tS X W m1 { D0 with nx := N, ct := N, bk := D0.nx } σ2 H2) := by
  refine ⟨fun i m σ' H' => ∃ ρ' oh' s', Later X.K ρ H ρ' H' ∧ RH X.K H' ρ' oh' ∧ RepS X.K H' ρ' s' σ' ∧ m + i = l.length ∧ OutS X.K X.mg W ρ' H' (loopT g m1 (l.drop i) s' oh') D0,
    ⟨l.length, ρ, oh, s, .refl, rh, rs, by omega, by rw [List.drop_zero]; exact h⟩, ?_⟩
  rintro i m σ' H' ⟨ρ', oh', s', L', rh', rs', em, h'⟩
  cases ed : l[i]? with
  | none =>
    have hi : l.length ≤ i := List.getElem?_eq_none_iff.mp ed
    rw [List.drop_of_length_le hi] at h'
    exact .inl ⟨hst i ρ' H' L' hi, h' ρ' H' σ' .refl rh' rs'⟩
  | some d =>
    have hi : i < l.length := (List.getElem?_eq_some_iff.mp ed).1
    obtain ⟨g1, g2⟩ := hgo i d ρ' H' L' ed
    refine .inr ⟨g1, fun σ2 H2 => ∃ ρ2 oh2 s2, Later X.K ρ H ρ2 H2 ∧ RH X.K H2 ρ2 oh2 ∧ RepS X.K H2 ρ2 s2 σ2 ∧ OutS X.K X.mg W ρ2 H2 (loopT g m1 (l.drop (i + 1)) s2 oh2) D0, fun σ2 H2 ⟨ρ2, oh2, s2, a, b, c, d⟩ => ⟨m - 1, by omega, ρ2, oh2, s2, a, b, c, by omega, d⟩, fun x H'' y => ?_⟩
    obtain ⟨rfl, rx⟩ := g2 x H'' y
    rw [drop_at ed] at h'
    exact turn_of (k := loopT g m1 (l.drop (i + 1))) (D0 := D0) rh' rs' rx h' fun ρ2 H2 σ2 s2 oh2 L2 rh2 rs2 h2 => ⟨ρ2, oh2, s2, L'.trans L2, rh2, rs2, h2⟩
/-- a walk over an own list -/
theorem for_cell {k f : Nat} {a : Addr} {ρ : List Addr} {H : Hp} {σ : L2.St} {s : Ev} {oh : OH} {D0 : Ends} (rh : RH X.K H ρ oh) (rs : RepS X.K H ρ s σ) (ga : ρ[k]? = some a) (h : OutS X.K X.mg W ρ H (loopR g m1 k f 0 s oh) D0) :
    ∃ Wt : Nat → Nat → L2.St → Hp → Prop, (∃ m, Wt 0 m σ H) ∧ ∀ i m σ H, Wt i m σ H →
      ((Itl X.K a).stop i H ∧ D0.nx σ H) ∨ ((Itl X.K a).go i H ∧ ∃ N : L2.St → Hp → Prop, (∀ σ' H', N σ' H' → ∃ m', m' < m ∧ Wt (i + 1) m' σ' H') ∧ ∀ x H', (Itl X.K a).yld i H x H' → tG X g x σ H' fun σ2 H2 => tS X W m1 { D0 with nx := N, ct := N, bk := D0.nx } σ2 H2) := by
  refine ⟨fun i m σ' H' => ∃ ρ' oh' s', Later X.K ρ H ρ' H' ∧ RH X.K H' ρ' oh' ∧ RepS X.K H' ρ' s' σ' ∧ OutS X.K X.mg W ρ' H' (loopR g m1 k m i s' oh') D0, ⟨f, ρ, oh, s, .refl, rh, rs, h⟩, ?_⟩
  rintro i m σ' H' ⟨ρ', oh', s', L', rh', rs', h'⟩
  have ga' := pre_get L'.pre ga
  cases m with
  | zero => exact h'.elim
  | succ m =>
    unfold loopR at h'
    cases el : itemsOf oh' (.ref k) with
    | none => simp only [el] at h'; exact h'.elim
    | some l =>
      simp only [el] at h'
      obtain ⟨p, xs, ep, hs, r⟩ := items_ref rh' (x := .ref a) (by simp only [Rep]; exact ⟨a, rfl, ga'⟩) el
      cases ep
      cases ed : l[i]? with
      | none =>
        simp only [ed] at h'
        have hi : l.length ≤ i := List.getElem?_eq_none_iff.mp ed
        exact .inl ⟨⟨xs, hs, by rw [← r.length]; exact hi⟩, h' ρ' H' σ' .refl rh' rs'⟩
      | some d =>
        simp only [ed] at h'
        obtain ⟨v, ev, rv⟩ := r.get ed
        refine .inr ⟨⟨xs, v, hs, ev⟩, fun σ2 H2 => ∃ ρ2 oh2 s2, Later X.K ρ H ρ2 H2 ∧ RH X.K H2 ρ2 oh2 ∧ RepS X.K H2 ρ2 s2 σ2 ∧ OutS X.K X.mg W ρ2 H2 (loopR g m1 k m (i + 1) s2 oh2) D0, fun σ2 H2 q => ⟨m, by omega, q⟩, fun x H'' y => ?_⟩
        obtain ⟨rfl, fx⟩ := y
        have ex : v = x := Option.some.inj (ev.symm.trans (fx xs hs))
        subst ex
        exact turn_of (k := loopR g m1 k m (i + 1)) (D0 := D0) rh' rs' rv h' fun ρ2 H2 σ2 s2 oh2 L2 rh2 rs2 h2 => ⟨ρ2, oh2, s2, L'.trans L2, rh2, rs2, h2⟩
theorem rs_for {tg iter : Expr} {body : List Stmt} {mi : Ev → M Src} (hp : PassesOwn (model X.prog X.w) X.A X.env X.xe) (hc : X.calm = true) (hi : RI X W tg iter mi) (hg : RG X tg g) (hb : RSs X W body m1)
    (hs : ∀ x, foldedSetIterable iter X.env x = pure x := by intro _; rfl) : RSt X W (.For tg iter body [] pos) (sFor mi g m1) := (ps_for hp hc hi hg hb hs).imp fun D0 σ H ⟨ρ, oh, s, rh, rs, h⟩ => by
  refine ⟨ρ, oh, s, rh, rs, ((Out.toS h rs).imp fun src oh1 ρ1 H1 L1 rh1 h1 => ?_)⟩
  cases src with
  | rng lo n =>
    refine ⟨rfl, fun J eJ => ?_⟩
    have eJ : J = Itr lo n := eJ
    subst eJ
    refine for_items rh1 (L1.reps rs) (fun i d ρ' H' _ ed => ?_) (fun i ρ' H' _ hi => by
      have hi : n ≤ i := by simpa using hi
      exact hi) h1
    rw [List.getElem?_map] at ed
    cases er : (List.range n)[i]? with
    | none => rw [er] at ed; cases ed
    | some j =>
      rw [er] at ed
      cases ed
      have hj := (List.getElem?_eq_some_iff.mp er)
      obtain ⟨hi, ej⟩ := hj
      simp at hi ej
      subst ej
      exact ⟨hi, fun x H'' y => ⟨y.1, by rw [y.2]; simp [Rep]⟩⟩
  | val d =>
    cases d with
    | tup l =>
      refine ⟨rfl, fun J eJ => ?_⟩
      obtain ⟨a, xs, hs, r, rfl⟩ := eJ
      refine for_items rh1 (L1.reps rs) (fun i d ρ' H' L' ed => ?_) (fun i ρ' H' L' hi => ⟨xs, L'.tup _ _ hs, by rw [← r.length]; exact hi⟩) h1
      obtain ⟨v, ev, rv⟩ := r.get ed
      refine ⟨⟨xs, v, L'.tup _ _ hs, ev⟩, fun x H'' y => ⟨y.1, ?_⟩⟩
      have ex : v = x := Option.some.inj (ev.symm.trans (y.2 xs (L'.tup _ _ hs)))
      subst ex
      exact L'.rep rv
    | ref k =>
      dsimp only at h1
      cases el : itemsOf oh1 (.ref k) with
      | none => simp only [el] at h1; exact h1.elim
      | some l =>
        simp only [el] at h1
        refine ⟨by simp [okSrc, el], fun J eJ => ?_⟩
        obtain ⟨a, ga, rfl⟩ := eJ
        exact for_cell rh1 (L1.reps rs) ga h1
    | _ => exact h1.elim
def loopW (t : Ev → M Bool) (body : SM) : Nat → SM
  | 0, _, _ => .bad
  | f + 1, s, oh => (t s oh).st s fun c oh => if c then match body s oh with
      | .nx s2 oh2 => loopW t body f s2 oh2
      | .ct s2 oh2 => loopW t body f s2 oh2
      | .bk s2 oh2 => .nx s2 oh2
      | r => r else .nx s oh
open Classical in
noncomputable def sWhile (t : Ev → M Bool) (body : SM) : SM := fun s oh => if h : ∃ f, loopW t body f s oh ≠ .bad then loopW t body (Classical.choose h) s oh else .bad
theorem loopW_more (t : Ev → M Bool) (body : SM) : ∀ (f : Nat) (s : Ev) (oh : OH), loopW t body f s oh ≠ .bad → loopW t body (f + 1) s oh = loopW t body f s oh
  | 0, _, _, h => absurd rfl h
  | f + 1, s, oh, h => by
    rw [loopW.eq_2 (f := f)] at h ⊢
    rw [loopW.eq_2 (f := f + 1)]
    cases et : t s oh with
    | ok c oh1 =>
      rw [et] at h
      simp only [R.st] at h ⊢
      cases c with
      | false => rfl
      | true =>
        simp only [if_true] at h ⊢
        cases eb : body s oh1 with
        | nx s2 oh2 => simp only [eb] at h; exact loopW_more t body f s2 oh2 h
        | ct s2 oh2 => simp only [eb] at h; exact loopW_more t body f s2 oh2 h
        | _ => rfl
    | exc c w oh1 => rfl
    | bad => rfl
theorem loopW_le {t : Ev → M Bool} {body : SM} {f g : Nat} {s : Ev} {oh : OH} (h : loopW t body f s oh ≠ .bad) (hfg : f ≤ g) : loopW t body g s oh = loopW t body f s oh := by
  induction hfg with
  | refl => rfl
  | step _ ih => exact (loopW_more t body _ s oh (by rw [ih]; exact h)).trans ih
theorem sWhile_of {t : Ev → M Bool} {body : SM} {f : Nat} {s : Ev} {oh : OH} {r : RS} (h : loopW t body f s oh = r) (hr : r ≠ .bad) : sWhile t body s oh = r := by
  have hx : ∃ f, loopW t body f s oh ≠ .bad := ⟨f, by rw [h]; exact hr⟩
  unfold sWhile
  rw [dif_pos hx]
  have h1 := Classical.choose_spec hx
  have h2 : loopW t body f s oh ≠ .bad := by rw [h]; exact hr
  rw [← h]
  rcases Nat.le_total f (Classical.choose hx) with q | q
  · exact loopW_le h2 q
  · exact (loopW_le h1 q).symm
theorem sWhile_fuel {t : Ev → M Bool} {body : SM} {s : Ev} {oh : OH} (h : sWhile t body s oh ≠ .bad) : ∃ f, loopW t body f s oh = sWhile t body s oh := by
  unfold sWhile at h ⊢
  split at h
  · rename_i hx
    rw [dif_pos hx]
    exact ⟨_, rfl⟩
  · exact absurd rfl h
theorem rs_while {c : Expr} {body : List Stmt} (hp : PassesOwn (model X.prog X.w) X.A X.env X.xe) (hc : RT X W c na) (hb : RSs X W body m1) : RSt X W (.While c body [] pos) (sWhile na m1) := (ps_while hp hc hb).imp fun D0 σ H ⟨ρ, oh, s, rh, rs, h⟩ => by
  have hnb : sWhile na m1 s oh ≠ .bad := fun z => by rw [z] at h; exact h
  obtain ⟨f, ef⟩ := sWhile_fuel hnb
  rw [← ef] at h
  refine ⟨fun m σ' H' => ∃ ρ' oh' s', Later X.K ρ H ρ' H' ∧ RH X.K H' ρ' oh' ∧ RepS X.K H' ρ' s' σ' ∧ OutS X.K X.mg W ρ' H' (loopW na m1 m s' oh') D0, ⟨f, ρ, oh, s, .refl, rh, rs, h⟩, ?_⟩
  rintro m σ' H' ⟨ρ', oh', s', L', rh', rs', h'⟩
  cases m with
  | zero => exact h'.elim
  | succ m =>
    unfold loopW at h'
    refine ⟨ρ', oh', s', rh', rs', (Out.toS h' rs').imp fun c oh1 ρ1 H1 L1 rh1 h1 => ?_⟩
    cases c with
    | false => exact h1 ρ1 H1 σ' .refl rh1 (L1.reps rs')
    | true =>
      refine ⟨fun σ2 H2 => ∃ ρ2 oh2 s2, Later X.K ρ H ρ2 H2 ∧ RH X.K H2 ρ2 oh2 ∧ RepS X.K H2 ρ2 s2 σ2 ∧ OutS X.K X.mg W ρ2 H2 (loopW na m1 m s2 oh2) D0, fun σ2 H2 q => ⟨m, by omega, q⟩, ρ1, oh1, s', rh1, L1.reps rs', ?_⟩
      simp only [if_true] at h1
      cases eb : m1 s' oh1 with
      | nx s2 oh2 =>
        simp only [eb] at h1
        exact fun ρ2 H2 σ2 L2 rh2 rs2 => ⟨ρ2, oh2, s2, L'.trans (L1.trans L2), rh2, rs2, OutS.later (r := loopW na m1 m s2 oh2) h1 L2⟩
      | ct s2 oh2 =>
        simp only [eb] at h1
        exact fun ρ2 H2 σ2 L2 rh2 rs2 => ⟨ρ2, oh2, s2, L'.trans (L1.trans L2), rh2, rs2, OutS.later (r := loopW na m1 m s2 oh2) h1 L2⟩
      | bk s2 oh2 => simp only [eb] at h1; exact h1
      | rt d2 oh2 => simp only [eb] at h1; exact h1
      | exc c w s2 oh2 => simp only [eb] at h1; exact h1
      | bad => simp only [eb] at h1; exact h1.elim
/-! ### defs -/
def mkFn (n : Nat) (body : SM) : Fn := fun ds oh => match body (ds.map some ++ List.replicate (n - ds.length) none) oh with
  | .nx _ oh => .ok .non oh
  | .rt d oh => .ok d oh
  | .exc c w _ oh => .exc c w oh
  | _ => .bad
theorem reps_start {K : PySem.W.Frag} {H : Hp} {ρ : List Addr} : ∀ (n : Nat), RepS K H ρ (List.replicate n none) (List.replicate n none)
  | 0 => rfl
  | n + 1 => ⟨none, _, rfl, reps_start n⟩
theorem reps_args {K : PySem.W.Frag} {H : Hp} {ρ : List Addr} {t : Ev} {τ : L2.St} (ht : RepS K H ρ t τ) : ∀ {ds : List D} {vs : List V}, RepL K H ρ ds vs → RepS K H ρ (ds.map some ++ t) (vs.map some ++ τ)
  | [], _, h => by
    simp only [RepL] at h
    subst h
    exact ht
  | d :: ds, _, h => by
    simp only [RepL] at h
    obtain ⟨v, vs, rfl, r, q⟩ := h
    exact ⟨v, _, rfl, r, reps_args ht q⟩
section
variable {P : Program} {w : World} {K : PySem.W.Frag} {mg : Str → Option Value} {base : Heap}
theorem fn_ok {x qual : Str} {sd : Stmt} {f : Addr} {fd : FuncData} {N ps : List Str} {k : Nat} {body : SM} (F : Fun K x qual sd f fd) (S : FnScope N ps (defScope sd))
    (hb : ∀ (cdv : Value) (A : Around) (outer : List Env) (s : Shared) (H : Hp) (E : XK), Room k (A.deeper (envOfC qual (defScope sd) s.heap.objs.size f cdv)) →
      RSs (cxOf (L2.CX P w) P w K mg base N qual (defScope sd) f cdv A outer s H E) (fun cls d _ H => E cls d H) (defBody sd) body) :
    FnOk P w K mg base (L2.CX P w) (k + 1) f fd ps (spF K mg ps.length (mkFn N.length body)) := by
  refine F.okX S (fun vs H Q E h => ?_) (fun cdv A outer s H vs Q E hr h => ⟨_, hb cdv A outer s H E hr, ?_⟩)
  · obtain ⟨_, _, _, h, _⟩ := h
    exact h
  · obtain ⟨ρ, oh, ds, hl, rh, r, h⟩ := h
    refine ⟨ρ, oh, ds.map some ++ List.replicate (N.length - ds.length) none, rh, ?_, ?_⟩
    · unfold L2.start
      rw [r.length]
      exact reps_args (reps_start _) r
    · unfold mkFn at h
      cases eb : body (ds.map some ++ List.replicate (N.length - ds.length) none) oh with
      | nx s1 oh1 =>
        rw [eb] at h
        exact fun ρ' H' σ' L rh' _ => h ρ' H' L rh' _ (by simp [Rep])
      | rt d oh1 =>
        rw [eb] at h
        exact fun ρ' H' v L rh' rv => h ρ' H' L rh' v rv
      | exc c w s1 oh1 =>
        rw [eb] at h
        exact fun ρ' H' σ' dd v C L rh' _ => h ρ' H' dd v C L rh'
      | bk => rw [eb] at h; exact h.elim
      | ct => rw [eb] at h; exact h.elim
      | bad => rw [eb] at h; exact h.elim
/-- a promise of nothing -/
theorem fn_none {f : Addr} {fd : FuncData} {ps : List Str} {k : Nat} : FnOk P w K mg base (L2.CX P w) k f fd ps (spF K mg ps.length fun _ _ => .bad) :=
  ⟨fun vs H Q E h => by obtain ⟨_, _, _, h, _⟩ := h; exact h, fun A outer s H args us vs Q E _ _ _ _ h => by obtain ⟨_, _, _, _, _, _, h⟩ := h; exact h.elim⟩
end
end
end SK
namespace SK
open PySem PySem.Spec PyProof.Rows L2
/-! ### list comprehensions -/
def wipeE (s : Ev) : List Nat → Ev
  | [] => s
  | v :: vs => (wipeE s vs).set v none
section
variable {K : PySem.W.Frag} {H : Hp} {ρ : List Addr}
theorem RepS.unset : ∀ {s : Ev} {σ : L2.St} (i : Nat), RepS K H ρ s σ → RepS K H ρ (s.set i none) (σ.set i none)
  | [], _, _, h => by
    simp only [RepS] at h
    subst h
    exact rfl
  | none :: s, _, 0, h => by
    obtain ⟨v', σ', rfl, t⟩ := h
    exact ⟨none, σ', rfl, t⟩
  | some x :: s, _, 0, h => by
    obtain ⟨v', σ', rfl, _, t⟩ := h
    exact ⟨none, σ', rfl, t⟩
  | none :: s, _, i + 1, h => by
    obtain ⟨v', σ', rfl, t⟩ := h
    exact ⟨v', σ'.set i none, rfl, RepS.unset i t⟩
  | some x :: s, _, i + 1, h => by
    obtain ⟨v', σ', rfl, q, t⟩ := h
    exact ⟨v', σ'.set i none, rfl, q, RepS.unset i t⟩
theorem RepS.wipe {s : Ev} {σ : L2.St} (h : RepS K H ρ s σ) : ∀ vs : List Nat, RepS K H ρ (wipeE s vs) (L2.wipe σ vs)
  | [] => h
  | v :: vs => RepS.unset v (RepS.wipe h vs)
end
theorem wipe_in {σ : L2.St} {i : Nat} : ∀ {vs : List Nat}, i ∈ vs → i < σ.length → (L2.wipe σ vs)[i]? = some none
  | v :: vs, h, hi => by
    unfold L2.wipe
    by_cases e : v = i
    · subst e
      rw [List.getElem?_set_self (by rw [wipe_length]; exact hi)]
    · rw [List.getElem?_set_ne e]
      exact wipe_in ((List.mem_cons.mp h).resolve_left (Ne.symm e)) hi
theorem wipe_set {σ : L2.St} {i : Nat} {x : Option V} {vs : List Nat} (h : i ∈ vs) : L2.wipe (σ.set i x) vs = L2.wipe σ vs := by
  apply List.ext_getElem?
  intro j
  by_cases hj : j ∈ vs
  · by_cases hl : j < σ.length
    · rw [wipe_in hj hl, wipe_in hj (by rw [List.length_set]; exact hl)]
    · rw [List.getElem?_eq_none (by rw [wipe_length, List.length_set]; omega), List.getElem?_eq_none (by rw [wipe_length]; omega)]
  · rw [wipe_out hj, wipe_out hj, List.getElem?_set_ne (fun z => hj (by rw [← z]; exact h))]
theorem wipe_idem {σ : L2.St} {vs : List Nat} : L2.wipe (L2.wipe σ vs) vs = L2.wipe σ vs := by
  apply List.ext_getElem?
  intro j
  by_cases hj : j ∈ vs
  · by_cases hl : j < σ.length
    · rw [wipe_in hj hl, wipe_in hj (by rw [wipe_length]; exact hl)]
    · rw [List.getElem?_eq_none (by rw [wipe_length, wipe_length]; omega), List.getElem?_eq_none (by rw [wipe_length]; omega)]
  · rw [wipe_out hj]
/-- a comprehension's target: a name, or a tuple of names -/
inductive CT where
  | one (i : Nat)
  | many (is : List Nat)
def gNames : List Nat → GMs
  | [] => gNil
  | i :: is => gCons (gN i) (gNames is)
def gNamesV : List Nat → TGs
  | [] => L2.gNil
  | i :: is => L2.gCons (gName i) (gNamesV is)
def CT.g : CT → GM
  | .one i => gN i
  | .many is => gT is.length (gNames is)
def CT.v (K : PySem.W.Frag) : CT → TG
  | .one i => gName i
  | .many is => L2.gTup K is.length (gNamesV is)
def CT.ix : CT → List Nat
  | .one i => [i]
  | .many is => is
section
variable {K : PySem.W.Frag} {ρ : List Addr} {H : Hp}
theorem names_run {vs : List Nat} : ∀ (is : List Nat) (l : List D) (xs : List V) (s s' : Ev) (oh oh' : OH) (σ : L2.St), (∀ i ∈ is, i ∈ vs) → RepS K H ρ s σ → RepL K H ρ l xs → gNames is l s oh = some (s', oh') →
    gNamesV is xs σ H fun σ2 H2 => H2 = H ∧ oh' = oh ∧ RepS K H ρ s' σ2 ∧ L2.wipe σ2 vs = L2.wipe σ vs
  | [], l, xs, s, s', oh, oh', σ, hv, rs, r, e => by
    cases l with
    | cons => cases e
    | nil =>
      cases e
      simp only [RepL] at r
      exact ⟨r, rfl, rfl, rs, rfl⟩
  | i :: is, l, xs, s, s', oh, oh', σ, hv, rs, r, e => by
    cases l with
    | nil => cases e
    | cons d l =>
      simp only [RepL] at r
      obtain ⟨v, vs', rfl, r1, r2⟩ := r
      refine ⟨v, vs', rfl, ?_⟩
      have q := names_run is l vs' (s.set i (some d)) s' oh oh' (σ.set i (some v)) (fun j hj => hv j (List.mem_cons_of_mem _ hj)) (RepS.set r1 i rs) r2 e
      rw [wipe_set (hv i List.mem_cons_self)] at q
      exact q
theorem ct_run {vs : List Nat} {c : CT} {d : D} {x : V} {s s' : Ev} {oh oh' : OH} {σ : L2.St} (hv : ∀ i ∈ c.ix, i ∈ vs) (rs : RepS K H ρ s σ) (r : Rep K H ρ d x) (e : c.g d s oh = some (s', oh')) :
    c.v K x σ H fun σ2 H2 => H2 = H ∧ oh' = oh ∧ RepS K H ρ s' σ2 ∧ L2.wipe σ2 vs = L2.wipe σ vs := by
  cases c with
  | one i =>
    cases e
    exact ⟨rfl, rfl, RepS.set r i rs, wipe_set (hv i List.mem_cons_self)⟩
  | many is =>
    cases d with
    | tup l =>
      simp only [Rep] at r
      obtain ⟨a, xs, rfl, hs, r⟩ := r
      simp only [CT.g, gT] at e
      split at e
      · rename_i hl
        exact ⟨a, xs, rfl, hs, by rw [← r.length]; exact hl, names_run is l xs s s' oh oh' σ hv rs r e⟩
      · cases e
    | _ => cases e
end
def W0 : WX := fun _ _ _ _ => False
def compT (n : Nat) (g : GM) (t : Ev → M Bool) (el : Ev → M D) (s : Ev) : List D → OH → Option OH
  | [], oh => some oh
  | d :: ds, oh => match g d s oh with
    | none => none
    | some (s1, oh1) => match t s1 oh1 with
      | .ok b oh2 => if b then match el s1 oh2 with
          | .ok y oh3 => match oh3[n]? with
            | some (.lst acc) => if acc.length < sizeLine then compT n g t el s ds (oh3.set n (.lst (acc ++ [y]))) else none
            | _ => none
          | _ => none
        else compT n g t el s ds oh2
      | _ => none
def compR (n k : Nat) (g : GM) (t : Ev → M Bool) (el : Ev → M D) (s : Ev) : Nat → Nat → OH → Option OH
  | 0, _, _ => none
  | f + 1, i, oh => match itemsOf oh (.ref k) with
    | none => none
    | some l => match l[i]? with
      | none => some oh
      | some d => match g d s oh with
        | none => none
        | some (s1, oh1) => match t s1 oh1 with
          | .ok b oh2 => if b then match el s1 oh2 with
              | .ok y oh3 => match oh3[n]? with
                | some (.lst acc) => if acc.length < sizeLine then compR n k g t el s f (i + 1) (oh3.set n (.lst (acc ++ [y]))) else none
                | _ => none
              | _ => none
            else compR n k g t el s f (i + 1) oh2
          | _ => none
def asRef (n : Nat) (o : Option OH) : R D := match o with
  | some oh => .ok (.ref n) oh
  | none => .bad
def eLc (mi : Ev → M Src) (g : GM) (t : Ev → M Bool) (el : Ev → M D) (vs : List Nat) : Ev → M D := fun s oh => (mi s oh).bnd fun src oh => match src with
  | .rng lo k => asRef oh.length (compT oh.length g t el (wipeE s vs) ((List.range k).map fun (i : Nat) => D.int (lo + (i : Int))) (oh ++ [.lst []]))
  | .val (.tup l) => asRef oh.length (compT oh.length g t el (wipeE s vs) l (oh ++ [.lst []]))
  | .val (.ref k) => match itemsOf oh (.ref k) with
    | some l => asRef oh.length (compR oh.length k g t el (wipeE s vs) (l.length + 1) 0 (oh ++ [.lst []]))
    | none => .bad
  | .val _ => .bad
def tYesD : Ev → M Bool := fun _ oh => .ok true oh
section
variable {X : Cx} {mt : Ev → M Bool} {me : Ev → M D}
/-- one turn of a comprehension -/
theorem comp_turn {c : CT} {vs : List Nat} {n : Nat} {a : Addr} {ρ : List Addr} {H : Hp} {σ : L2.St} {s : Ev} {oh r : OH} {d : D} {x : V} {k : OH → Option OH} {Nx : Hp → Prop} (hv : ∀ i ∈ c.ix, i ∈ vs) (rh : RH X.K H ρ oh) (rs : RepS X.K H ρ s σ) (rx : Rep X.K H ρ d x) (ga : ρ[n]? = some a)
    (h : (match c.g d s oh with
      | none => none
      | some (s1, oh1) => match mt s1 oh1 with
        | .ok b oh2 => if b then match me s1 oh2 with
            | .ok y oh3 => match oh3[n]? with
              | some (.lst acc) => if acc.length < sizeLine then k (oh3.set n (.lst (acc ++ [y]))) else none
              | _ => none
            | _ => none
          else k oh2
        | _ => none) = some r)
    (hN : ∀ ρ' H' oh', Later X.K ρ H ρ' H' → RH X.K H' ρ' oh' → k oh' = some r → Nx H') :
    c.v X.K x σ H fun σ2 H2 => L2.wipe σ2 vs = L2.wipe σ vs ∧ tT X W0 mt σ2 H2 fun b H3 => if b = true then tE X W0 me σ2 H3 fun y H4 => ∃ acc, H4 a = some (.lst acc) ∧ acc.length < sizeLine ∧ Nx (upd H4 a (.lst (acc ++ [y]))) else Nx H3 := by
  cases eg : c.g d s oh with
  | none => rw [eg] at h; cases h
  | some p =>
    obtain ⟨s1, oh1⟩ := p
    rw [eg] at h
    have mono : ∀ {T T' : L2.St → Hp → Prop}, (∀ σ2 H2, T σ2 H2 → T' σ2 H2) → c.v X.K x σ H T → c.v X.K x σ H T' := by
      intro T T' f
      cases c with
      | one i => exact f _ _
      | many is =>
        rintro ⟨b, xs, e1, e2, e3, e4⟩
        refine ⟨b, xs, e1, e2, e3, ?_⟩
        have go : ∀ (is : List Nat) (xs : List V) (σ : L2.St), gNamesV is xs σ H T → gNamesV is xs σ H T' := by
          intro is
          induction is with
          | nil => exact fun xs σ ⟨e, q⟩ => ⟨e, f _ _ q⟩
          | cons i is ih => exact fun xs σ ⟨v, r, e, q⟩ => ⟨v, r, e, ih _ _ q⟩
        exact go is xs σ e4
    refine mono (fun σ2 H2 q => ?_) (ct_run hv rs rx eg)
    obtain ⟨rfl, rfl, rs2, hw⟩ := q
    refine ⟨hw, ?_⟩
    dsimp only at h
    refine ⟨ρ, oh1, s1, rh, rs2, ?_⟩
    cases et : mt s1 oh1 with
    | exc => rw [et] at h; cases h
    | bad => rw [et] at h; cases h
    | ok b oh2 =>
      rw [et] at h
      intro ρ3 H3 L3 rh3
      cases b with
      | false => exact hN ρ3 H3 oh2 L3 rh3 h
      | true =>
        simp only [if_true] at h ⊢
        refine ⟨ρ3, oh2, s1, rh3, L3.reps rs2, ?_⟩
        cases ee : me s1 oh2 with
        | exc => rw [ee] at h; cases h
        | bad => rw [ee] at h; cases h
        | ok y oh3 =>
          rw [ee] at h
          intro ρ4 H4 L4 rh4 v rv
          dsimp only at h
          split at h
          · rename_i acc ea
            split at h
            · rename_i hz
              have ga4 := pre_get (L3.trans L4).pre ga
              obtain ⟨xs, hx, q⟩ := rh4.cell _ _ a ea ga4
              obtain ⟨rh5, L5⟩ := rh4.write (l := acc ++ [y]) (xs := xs ++ [v]) ea ga4 hx (q.append (by simp only [RepL]; exact ⟨v, [], rfl, rv, rfl⟩))
              exact ⟨xs, hx, by rw [← q.length]; exact hz, hN ρ4 _ _ (L3.trans (L4.trans L5)) rh5 h⟩
            · cases h
          · cases h
theorem comp_items {c : CT} {vs : List Nat} {n : Nat} {a : Addr} {l : List D} {J : It} {ρ : List Addr} {H : Hp} {σ : L2.St} {s : Ev} {oh r : OH} {Q : VK} (hv : ∀ i ∈ c.ix, i ∈ vs) (rh : RH X.K H ρ oh) (rs : RepS X.K H ρ s (L2.wipe σ vs)) (ga : ρ[n]? = some a)
    (hgo : ∀ (i : Nat) d ρ' H', Later X.K ρ H ρ' H' → l[i]? = some d → J.go i H' ∧ ∀ x H'', J.yld i H' x H'' → H'' = H' ∧ Rep X.K H' ρ' d x)
    (hst : ∀ (i : Nat) ρ' H', Later X.K ρ H ρ' H' → l.length ≤ i → J.stop i H') (h : compT n c.g mt me s l oh = some r) (hq : ∀ ρ' H', Later X.K ρ H ρ' H' → RH X.K H' ρ' r → Q (.ref a) H') :
    ∃ Wt : Nat → Nat → Hp → Prop, (∃ m, Wt 0 m H) ∧ ∀ i m H, Wt i m H →
      (J.stop i H ∧ Q (.ref a) H) ∨ (J.go i H ∧ ∃ Nx : Hp → Prop, (∀ H', Nx H' → ∃ m', m' < m ∧ Wt (i + 1) m' H') ∧ ∀ x H', J.yld i H x H' → c.v X.K x (L2.wipe σ vs) H' fun σ2 H2 => L2.wipe σ2 vs = L2.wipe σ vs ∧ tT X W0 mt σ2 H2 fun b H3 =>
        if b = true then tE X W0 me σ2 H3 fun y H4 => ∃ acc, H4 a = some (.lst acc) ∧ acc.length < sizeLine ∧ Nx (upd H4 a (.lst (acc ++ [y]))) else Nx H3) := by
  refine ⟨fun i m H' => ∃ ρ' oh', Later X.K ρ H ρ' H' ∧ RH X.K H' ρ' oh' ∧ m + i = l.length ∧ compT n c.g mt me s (l.drop i) oh' = some r, ⟨l.length, ρ, oh, .refl, rh, by omega, by rw [List.drop_zero]; exact h⟩, ?_⟩
  rintro i m H' ⟨ρ', oh', L', rh', em, h'⟩
  cases ed : l[i]? with
  | none =>
    have hi : l.length ≤ i := List.getElem?_eq_none_iff.mp ed
    rw [List.drop_of_length_le hi] at h'
    cases h'
    exact .inl ⟨hst i ρ' H' L' hi, hq ρ' H' L' rh'⟩
  | some d =>
    have hi : i < l.length := (List.getElem?_eq_some_iff.mp ed).1
    obtain ⟨g1, g2⟩ := hgo i d ρ' H' L' ed
    refine .inr ⟨g1, fun H2 => ∃ ρ2 oh2, Later X.K ρ H ρ2 H2 ∧ RH X.K H2 ρ2 oh2 ∧ compT n c.g mt me s (l.drop (i + 1)) oh2 = some r, fun H2 ⟨ρ2, oh2, p1, p2, p3⟩ => ⟨m - 1, by omega, ρ2, oh2, p1, p2, by omega, p3⟩, fun x H'' y => ?_⟩
    obtain ⟨rfl, rx⟩ := g2 x H'' y
    rw [drop_at ed] at h'
    have q := comp_turn (X := X) (mt := mt) (me := me) (vs := vs) (k := compT n c.g mt me s (l.drop (i + 1))) (Nx := fun H2 => ∃ ρ2 oh2, Later X.K ρ H ρ2 H2 ∧ RH X.K H2 ρ2 oh2 ∧ compT n c.g mt me s (l.drop (i + 1)) oh2 = some r) hv rh' (L'.reps rs) rx (pre_get L'.pre ga) h' fun ρ2 H2 oh2 L2 rh2 h2 => ⟨ρ2, oh2, L'.trans L2, rh2, h2⟩
    rw [wipe_idem] at q
    exact q
theorem comp_cell {c : CT} {vs : List Nat} {n k f : Nat} {a b : Addr} {ρ : List Addr} {H : Hp} {σ : L2.St} {s : Ev} {oh r : OH} {Q : VK} (hv : ∀ i ∈ c.ix, i ∈ vs) (rh : RH X.K H ρ oh) (rs : RepS X.K H ρ s (L2.wipe σ vs)) (ga : ρ[n]? = some a) (gb : ρ[k]? = some b)
    (h : compR n k c.g mt me s f 0 oh = some r) (hq : ∀ ρ' H', Later X.K ρ H ρ' H' → RH X.K H' ρ' r → Q (.ref a) H') :
    ∃ Wt : Nat → Nat → Hp → Prop, (∃ m, Wt 0 m H) ∧ ∀ i m H, Wt i m H →
      ((Itl X.K b).stop i H ∧ Q (.ref a) H) ∨ ((Itl X.K b).go i H ∧ ∃ Nx : Hp → Prop, (∀ H', Nx H' → ∃ m', m' < m ∧ Wt (i + 1) m' H') ∧ ∀ x H', (Itl X.K b).yld i H x H' → c.v X.K x (L2.wipe σ vs) H' fun σ2 H2 => L2.wipe σ2 vs = L2.wipe σ vs ∧ tT X W0 mt σ2 H2 fun b H3 =>
        if b = true then tE X W0 me σ2 H3 fun y H4 => ∃ acc, H4 a = some (.lst acc) ∧ acc.length < sizeLine ∧ Nx (upd H4 a (.lst (acc ++ [y]))) else Nx H3) := by
  refine ⟨fun i m H' => ∃ ρ' oh', Later X.K ρ H ρ' H' ∧ RH X.K H' ρ' oh' ∧ compR n k c.g mt me s m i oh' = some r, ⟨f, ρ, oh, .refl, rh, h⟩, ?_⟩
  rintro i m H' ⟨ρ', oh', L', rh', h'⟩
  have gb' := pre_get L'.pre gb
  cases m with
  | zero => cases h'
  | succ m =>
    unfold compR at h'
    cases el : itemsOf oh' (.ref k) with
    | none => simp only [el] at h'; cases h'
    | some l =>
      simp only [el] at h'
      obtain ⟨p, xs, ep, hs, rl⟩ := items_ref rh' (x := .ref b) (by simp only [Rep]; exact ⟨b, rfl, gb'⟩) el
      cases ep
      cases ed : l[i]? with
      | none =>
        simp only [ed] at h'
        cases h'
        have hi : l.length ≤ i := List.getElem?_eq_none_iff.mp ed
        exact .inl ⟨⟨xs, hs, by rw [← rl.length]; exact hi⟩, hq ρ' H' L' rh'⟩
      | some d =>
        simp only [ed] at h'
        obtain ⟨v, ev, rv⟩ := rl.get ed
        refine .inr ⟨⟨xs, v, hs, ev⟩, fun H2 => ∃ ρ2 oh2, Later X.K ρ H ρ2 H2 ∧ RH X.K H2 ρ2 oh2 ∧ compR n k c.g mt me s m (i + 1) oh2 = some r, fun H2 q => ⟨m, by omega, q⟩, fun x H'' y => ?_⟩
        obtain ⟨rfl, fx⟩ := y
        have ex : v = x := Option.some.inj (ev.symm.trans (fx xs hs))
        subst ex
        have q := comp_turn (X := X) (mt := mt) (me := me) (vs := vs) (k := compR n k c.g mt me s m (i + 1)) (Nx := fun H2 => ∃ ρ2 oh2, Later X.K ρ H ρ2 H2 ∧ RH X.K H2 ρ2 oh2 ∧ compR n k c.g mt me s m (i + 1) oh2 = some r) hv rh' (L'.reps rs) rv (pre_get L'.pre ga) h' fun ρ2 H2 oh2 L2 rh2 h2 => ⟨ρ2, oh2, L'.trans L2, rh2, h2⟩
        rw [wipe_idem] at q
        exact q
theorem lc_imp {W : WX} {mi : Ev → M Src} {c : CT} {vs : List Nat} (hv : ∀ i ∈ c.ix, i ∈ vs) : ∀ σ H Q, tE X W (eLc mi c.g mt me vs) σ H Q → tLc (tI X W mi) (c.v X.K) (tT X W0 mt) (tE X W0 me) vs σ H Q := fun σ H Q ⟨ρ, oh, s, rh, rs, h⟩ => by
  refine ⟨ρ, oh, s, rh, rs, (Out.bnd h).imp fun src oh1 ρ1 H1 L1 rh1 ⟨_, _, h1⟩ => ?_⟩
  have fin : ∀ {o : Option OH} {J : It}, Out X.K X.mg (fun c d H' => W c d σ H') ρ1 H1 (asRef oh1.length o) (fun d _ ρ' H' => ∀ v, Rep X.K H' ρ' d v → Q v H') →
      (∀ (a : Addr) (ρ2 : List Addr) (H2 : Hp) (r : OH), o = some r → H1 a = none → Later X.K ρ1 H1 ρ2 H2 → RH X.K H2 ρ2 (oh1 ++ [.lst []]) → ρ2[oh1.length]? = some a → H2 = upd H1 a (.lst []) → (∀ ρ' H', Later X.K ρ2 H2 ρ' H' → RH X.K H' ρ' r → Q (.ref a) H') →
        ∃ Wt : Nat → Nat → Hp → Prop, (∃ m, Wt 0 m H2) ∧ ∀ i m H, Wt i m H →
          (J.stop i H ∧ Q (.ref a) H) ∨ (J.go i H ∧ ∃ Nx : Hp → Prop, (∀ H', Nx H' → ∃ m', m' < m ∧ Wt (i + 1) m' H') ∧ ∀ x H', J.yld i H x H' → c.v X.K x (L2.wipe σ vs) H' fun σ2 H2 => L2.wipe σ2 vs = L2.wipe σ vs ∧ tT X W0 mt σ2 H2 fun b H3 =>
            if b = true then tE X W0 me σ2 H3 fun y H4 => ∃ acc, H4 a = some (.lst acc) ∧ acc.length < sizeLine ∧ Nx (upd H4 a (.lst (acc ++ [y]))) else Nx H3)) →
      ∀ D, H1 D = none → ∃ Wt : Nat → Nat → Hp → Prop, (∃ m, Wt 0 m (upd H1 D (.lst []))) ∧ ∀ i m H, Wt i m H →
        (J.stop i H ∧ Q (.ref D) H) ∨ (J.go i H ∧ ∃ Nx : Hp → Prop, (∀ H', Nx H' → ∃ m', m' < m ∧ Wt (i + 1) m' H') ∧ ∀ x H', J.yld i H x H' → c.v X.K x (L2.wipe σ vs) H' fun σ2 H2 => L2.wipe σ2 vs = L2.wipe σ vs ∧ tT X W0 mt σ2 H2 fun b H3 =>
          if b = true then tE X W0 me σ2 H3 fun y H4 => ∃ acc, H4 D = some (.lst acc) ∧ acc.length < sizeLine ∧ Nx (upd H4 D (.lst (acc ++ [y]))) else Nx H3) := fun {o J} ho k D hD => by
    cases o with
    | none => exact ho.elim
    | some r =>
      obtain ⟨rh2, L2, g⟩ := rh1.push (l := []) (xs := []) hD (by simp [RepL])
      exact k D _ _ r rfl hD L2 rh2 g rfl fun ρ' H' L' rh' => ho ρ' H' (L2.trans L') rh' _ (by simp only [Rep]; exact ⟨D, rfl, pre_get L'.pre g⟩)
  cases src with
  | rng lo n =>
    refine ⟨rfl, fun J eJ => ?_⟩
    have eJ : J = Itr lo n := eJ
    subst eJ
    refine fin h1 fun a ρ2 H2 r er _ L2 rh2 g _ hq => ?_
    refine comp_items hv rh2 ((L1.trans L2).reps rs |>.wipe vs) g (fun i d ρ' H' _ ed => ?_) (fun i ρ' H' _ hi => by
      have hi : n ≤ i := by simpa using hi
      exact hi) er hq
    rw [List.getElem?_map] at ed
    cases er : (List.range n)[i]? with
    | none => rw [er] at ed; cases ed
    | some j =>
      rw [er] at ed
      cases ed
      obtain ⟨hi, ej⟩ := List.getElem?_eq_some_iff.mp er
      simp at hi ej
      subst ej
      exact ⟨hi, fun x H'' y => ⟨y.1, by rw [y.2]; simp [Rep]⟩⟩
  | val d =>
    cases d with
    | tup l =>
      refine ⟨rfl, fun J eJ => ?_⟩
      obtain ⟨p, xs, hs, r, rfl⟩ := eJ
      refine fin h1 fun a ρ2 H2 r2 er _ L2 rh2 g _ hq => ?_
      refine comp_items hv rh2 ((L1.trans L2).reps rs |>.wipe vs) g (fun i d ρ' H' L' ed => ?_) (fun i ρ' H' L' hi => ⟨xs, (L2.trans L').tup _ _ hs, by rw [← r.length]; exact hi⟩) er hq
      obtain ⟨v, ev, rv⟩ := r.get ed
      refine ⟨⟨xs, v, (L2.trans L').tup _ _ hs, ev⟩, fun x H'' y => ⟨y.1, ?_⟩⟩
      have ex : v = x := Option.some.inj (ev.symm.trans (y.2 xs ((L2.trans L').tup _ _ hs)))
      subst ex
      exact (L2.trans L').rep rv
    | ref k =>
      dsimp only at h1
      cases el : itemsOf oh1 (.ref k) with
      | none => simp only [el] at h1; exact h1.elim
      | some l =>
        simp only [el] at h1
        refine ⟨by simp [okSrc, el], fun J eJ => ?_⟩
        obtain ⟨b, gb, rfl⟩ := eJ
        refine fin h1 fun a ρ2 H2 r2 er _ L2 rh2 g _ hq => ?_
        exact comp_cell hv rh2 ((L1.trans L2).reps rs |>.wipe vs) g (pre_get L2.pre gb) er hq
    | _ => exact h1.elim
variable {W : WX} {elt tg iter : Expr} {ifs : List Expr} {scope : Scope} {own : List (Str × Nat)} {pos : Pos} {mi : Ev → M Src} {c : CT}
theorem re_lc (hc : X.calm = true) (hN : X.N.Nodup) (hi : RI X W tg iter mi) (ok : BlkOk X.N X.env.scope scope own) (hv : ∀ i ∈ c.ix, i ∈ own.map (·.2))
    (hg : ∀ (s : Shared) (H : Hp) (C : Addr) (cl : List (Str × Addr)) (fp : List Addr), PG (X.blk s H scope (compEnvC scope cl C X.env) fp) tg (c.v X.K)) (ht : ∀ (s : Shared) (H : Hp) (C : Addr) (cl : List (Str × Addr)) (fp : List Addr), PTs (X.blk s H scope (compEnvC scope cl C X.env) fp) ifs (tT X W0 mt))
    (he : ∀ (s : Shared) (H : Hp) (C : Addr) (cl : List (Str × Addr)) (fp : List Addr), PE (X.blk s H scope (compEnvC scope cl C X.env) fp) elt (tE X W0 me)) (hs : ∀ x, foldedSetIterable iter X.env x = pure x := by intro _; rfl) :
    RE X W (.ListComp elt [⟨tg, iter, ifs, 0⟩] scope pos) (eLc mi c.g mt me (own.map (·.2))) := (pe_lc hc hN hi ok hg ht he hs).imp (lc_imp hv)
theorem rs_lc {i : Nat} {y : Str} {py spos : Pos} (hc : X.calm = true) (hN : X.N.Nodup) (hy : X.N[i]? = some y) (hyl : X.env.scope.names.lookup y = some .local)
    (hsw : swapsWith (.ListComp elt [⟨tg, iter, ifs, 0⟩] scope pos) (some (.Name y py)) spos.line X.env = pure true) (hi : RI X W tg iter mi) (ok : BlkOk X.N X.env.scope scope own) (hv : ∀ i ∈ c.ix, i ∈ own.map (·.2))
    (hg : ∀ (s : Shared) (H : Hp) (C : Addr) (cl : List (Str × Addr)) (fp : List Addr), PG (X.blk s H scope (compEnvC scope cl C X.env) fp) tg (c.v X.K)) (ht : ∀ (s : Shared) (H : Hp) (C : Addr) (cl : List (Str × Addr)) (fp : List Addr), PTs (X.blk s H scope (compEnvC scope cl C X.env) fp) ifs (tT X W0 mt))
    (he : ∀ (s : Shared) (H : Hp) (C : Addr) (cl : List (Str × Addr)) (fp : List Addr), PE (X.blk s H scope (compEnvC scope cl C X.env) fp) elt (tE X W0 me)) (hs : ∀ x, foldedSetIterable iter X.env x = pure x := by intro _; rfl) :
    RSt X W (.Assign [.Name y py] (.ListComp elt [⟨tg, iter, ifs, 0⟩] scope pos) spos) (sSet i (eLc mi c.g mt me (own.map (·.2)))) := (ps_setLc hc hN hy hyl hsw hi ok hg ht he hs).imp fun D0 σ H ⟨ρ, oh, s, rh, rs, h⟩ =>
  lc_imp hv σ H _ ⟨ρ, oh, s, rh, rs, (Out.toS h rs).imp fun d oh1 ρ1 H1 L1 rh1 h1 v rv => h1 ρ1 H1 (σ.set i (some v)) .refl rh1 (RepS.set rv i (L1.reps rs))⟩
theorem rts_nil : PTs X [] (tT X W0 tYesD) := ⟨fun pins s σ H Q I ⟨ρ, oh, sv, rh, rs, h⟩ => pts_nil.run pins s σ H Q I (h ρ H .refl rh)⟩
theorem rts_one {e : Expr} (h : PT X e (tT X W0 mt)) : PTs X [e] (tT X W0 mt) := pts_one h
end
end SK
set_option maxHeartbeats 2000000
namespace SKX
open PySem PySem.W PySem.Calls PyProof.Rows PySem.HandSPX
/-! ### Refused.__init__: super().__init__("refused"), then self.what = what -/
def rA (p1 p2 : Pos) : Arguments := { posonlyargs := [], args := [{ arg := "self", annotation := none, pos := p1 }, { arg := "what", annotation := none, pos := p2 }], vararg := none, kwonlyargs := [], kw_defaults := [], kwarg := none, defaults := [] }
def rB (a0 a1 a2 a3 a4 a5 q1 q2 q3 q4 : Pos) (j : Nat) (tx : Str) : List Stmt :=
  [.Expr (.Call (.Attribute (.Call (.Name "super" a0) [] [] a1) "__init__" a2) [.Constant (.str tx) j a3] [] a4) a5, .Assign [.Attribute (.Name "self" q1) "what" q2] (.Name "what" q3) q4]
def rS : Scope := { kind := .function, names := [(PySem.Str.ofString "self", .local), (PySem.Str.ofString "what", .local), (PySem.Str.ofString "__class__", .free), (PySem.Str.ofString "super", .globalImplicit)], isGenerator := false, isCoroutine := false, more := [] }
structure RefTxt (prog : Program) (K : Frag) (mg : Str → Option Value) (R fI cc cda : Addr) : Prop where
  fn : ∃ (oc : Value) (od : Option Addr) (doc pm : Value) (an : Option Addr) (ct : Value) (osl : Array (Option Value)) (p1 p2 a0 a1 a2 a3 a4 a5 q1 q2 q3 q4 : Pos) (j : Nat) (tx : Str),
    K.lookup fI = some ⟨oc, od, .func (ksFn "__init__" "Refused.__init__" (rA p1 p2) (rB a0 a1 a2 a3 a4 a5 q1 q2 q3 q4 j tx) rS .none .none doc pm an (.ref cda) ct cc), osl⟩ ∧ codeIn K (.ref cda) "Refused.__init__" = true ∧
      ∀ (name : Str) (L f : Addr) (cdv : Value), ∃ pl : Sem Bool, eval (.Call (.Attribute (.Call (.Name "super" a0) [] [] a1) "__init__" a2) [.Constant (.str tx) j a3] [] a4) (ksEnv name rS L f cdv cc) = (do
        let ov ← attributeBase (.Call (.Name "super" a0) [] [] a1) "__init__" (ksEnv name rS L f cdv cc) (eval (.Call (.Name "super" a0) [] [] a1) (ksEnv name rS L f cdv cc))
        standAt a2.atName
        let (f', first) ← holding [ov] (getMethod ov "__init__" pl)
        callWith a4 f' first (backTo a4 (starEach [.Constant (.str tx) j a3] (ksEnv name rS L f cdv cc))) [])
  cell : ∃ cl cld csl, K.lookup cc = some ⟨cl, cld, .cell (some (.ref R)), csl⟩
  code : ∃ ccl cdd vs ccs file tf, K.lookup cda = some ⟨ccl, cdd, .fields vs, ccs⟩ ∧ vs[2]? = some (.str file tf) ∧ ((prog.main.file : Str) == file) = true
  isC : ∃ cd, clsIn K R = some cd
  sup : mg "super" = none
  top : (prog.main.scope.names.lookup ("super" : Str)).isSome = false
  opq : nsIn K cStatics "thirdparty.any" = some none
structure ErrTxt (K : Frag) (mg : Str → Option Value) (R fI : Addr) (c : Str) (C : Addr) : Prop where
  gC : mg c = some (.ref C)
  cls : ∃ nm q N bs bm sn sub ab col dd k0 k1 k2 k3 k5, K.lookup C = some (excClassObj nm q C N bs bm true sn sub ab col dd k0 k1 k2 k3 k5 "ValueError.__new__") ∧ refsVE bm = true
  sa : findIn K (.ref C) "__setattr__" = some (some (.builtin "object.__setattr__"))
  ga : findIn K (.ref C) "__getattribute__" = some (some (.builtin "BaseException.__getattribute__"))
  gg : findIn K (.ref C) "__getattr__" = some none
  noN : findIn K (.ref C) "what" = some none
  iC : findIn K (.ref C) "__init__" = some (some (.ref fI))
  tC : typeIn K (.ref fI) = some (.type "function")
  kC : keepIn K (.ref C) = true
  exC : subIn K (.ref C) (.type "BaseException") = some true
  veC : subIn K (.ref C) (.type "ValueError") = some true
  tyC : typeIn K (.ref C) = some (.type "type")
  hdC : hasDictIn K C = true
  toR : mroIn K C (.ref R) = some true
  sup : ks_superIn K C R "__init__" = some (some (.builtin "ValueError.__init__"))
  ini : excInitIn K C veTail "ValueError.__new__" = true
  clC : findIn K (.ref C) "__class__" = some (some (.builtin "object.__class__"))
  clN : specialIn K (.builtin "object.__class__") "__get__" = some (some (.builtin "getset_descriptor.__get__"))
  clT : takesIn K (.builtin "object.__class__") = some true
  toO : mroIn K C (.type "object") = some true
theorem one_fits (v : Value) : [v].length ≤ sizeLine := by
  rw [sizeLine_eq]
  exact (by decide : 1 ≤ 16777216)
/-- what __init__ leaves of a fresh exception at x -/
structure InitEnd (h h' : Heap) (x C dx t1 : Addr) (v : Value) : Prop where
  keep : ∀ b o, b ≠ x → h.get? b = some o → h'.get? b = some o
  obj : h'.get? x = some { cls := .ref C, dict := some dx, data := .fields #[.ref t1, .none, .none, .none, .bool false, .none] }
  dbig : h.objs.size ≤ dx
  dne : dx ≠ x
  ns : h'.Ns1 dx (fun y => if y = "what" then some v else none)
/-- a made exception -/
structure OwnMade (h h' : Heap) (e C d : Addr) (v : Value) : Prop where
  keep : ∀ b o, h.get? b = some o → h'.get? b = some o
  new : h.objs.size ≤ e
  obj : ∃ oe vs, h'.get? e = some oe ∧ oe.cls = .ref C ∧ oe.dict = some d ∧ oe.data = .fields vs ∧ vs[1]? = some .none
  dbig : h.objs.size ≤ d
  dne : d ≠ e
  ns : h'.Ns1 d (fun y => if y = "what" then some v else none)
section
variable {prog : Program} {w : World} {A : Around} {E : Value → Shared → Prop} {Rr : Result → Shared → Prop} {s : Shared} {K : Frag} {mg : Str → Option Value} {R C fI cc cda : Addr} {c : Str}
theorem init_run (T : RefTxt prog K mg R fI cc cda) (T2 : ErrTxt K mg R fI c C) {x t0 : Addr} {v : Value} (X : K.In s.heap) (hlim : s.heap.NoLimit) (hG : s.heap.Ns mainGlobals mg) (hB : ∃ mb, s.heap.Ns builtinsNs mb ∧ mb "super" = bootBuiltins "super")
    (hx : s.heap.get? x = some (excO C t0)) (hnx : K.lookup x = none) (hgx : mainGlobals ≠ x) (hroom : A.depth < recursionLimit)
    (hq : ∀ h' tk dx t1, InitEnd s.heap h' x C dx t1 v → Rr (.ok (.ret .none)) { s with heap := h', toks := tk }) :
    codeAny (model prog w) A (.call (.ref fI) ⟨[.ref x, v], []⟩) Rr s := by
  obtain ⟨oc, od, doc, pm, an, ct, osl, p1, p2, a0, a1, a2, a3, a4, a5, q1, q2, q3, q4, j, tx, ho, hcd, hmeth⟩ := T.fn
  obtain ⟨nm, q, N, bs, bm, sn, sub, ab, col, dd, k0, k1, k2, k3, k5, hC, hbm⟩ := T2.cls
  obtain ⟨cl, cld, csl, hcell⟩ := T.cell
  obtain ⟨ccl, cdd, vs, ccs, file, tf, hcode, hvs, hfile⟩ := T.code
  obtain ⟨cdR, hR⟩ := T.isC
  have hcl : clsIn K C = some { name := nm, bases := bs, mro := .ref C :: bm, ns := N, qualname := q, hasDict := true, slotNames := sn, subclasses := sub, abstract := ab, collection := col, hasDel := false } := by unfold clsIn; rw [hC] <;> rfl
  refine ks_codeAny_call_defAt (body := rB a0 a1 a2 a3 a4 a5 q1 q2 q3 q4 j tx) (binds := [("self", .ref x), ("what", v)]) hroom (X _ _ ho) rfl hlim (codeRec_of X hcd) rfl (BindsTo.of_eq rfl) (show ∀ x ∈ rS.names, x.2 ≠ .cell by decide +kernel) (fun y hy => ?_) (fun h₀ hns hk => ?_) rfl rfl rfl
  · simp only [List.mem_cons, List.not_mem_nil, or_false] at hy
    rcases hy with rfl | rfl <;> rfl
  have X₁ : K.In h₀ := X.keeps hk
  have hx₁ := hk _ _ hx
  have hxL : s.heap.objs.size ≠ x := Nat.ne_of_gt (Heap.lt_size hx)
  obtain ⟨mb, hb, hbs⟩ := hB
  have oD : ∃ oD, h₀.get? R = some oD ∧ oD.data = .cls cdR := by
    unfold clsIn at hR
    split at hR
    · rename_i c0 d0 cd' sl ho
      cases hR
      exact ⟨_, X₁ _ _ ho, rfl⟩
    · cases hR
  obtain ⟨oD, hD1, hD2⟩ := oD
  have hxC : x ≠ C := fun z => by
    rw [z] at hnx
    rw [hC] at hnx
    cases hnx
  obtain ⟨pl, hpl⟩ := hmeth "Refused.__init__" s.heap.objs.size fI (.ref cda)
  refine ks_wpAt_execs_cons (ks_wpAt_Expr_any (ks_wpAt_MethodCall (pl := pl) ?_ hpl))
  refine ks_wpAt_super_base rfl rfl (by decide) rfl (X₁ _ _ ho) rfl rfl rfl (X₁ _ _ hcode) rfl hvs hfile T.top ?_
  refine ks_loadName_global rfl rfl (loadGlobal_builtin (hG.at fun o e => hk _ _ e) T.sup (hb.at fun o e => hk _ _ e) (hbs.trans (by kernel_rfl : bootBuiltins "super" = some (.type "super"))) ⟨rfl, ?_⟩)
  refine wpAny_loadName_free rfl rfl rfl ⟨_, X₁ _ _ hcell, rfl⟩ ?_
  refine wpAny_loadName_local rfl rfl hns (v := .ref x) (by first | rfl | kernel_rfl) ?_
  refine ks_wpAny_isType_cls hD1 hD2 ⟨rfl, ?_⟩
  refine ks_wpAny_call_super hD1 hD2 hx₁ rfl (fun c e => by cases e) (looks_mroIn X₁ T2.toR) (fun h₁ hso hk₁ => ?_)
  have X₂ := X₁.keeps hk₁
  have hx₂ := hk₁ _ _ hx₁
  have I₂ : InstAt h₁ x (excO C t0) C none := ⟨hx₂, rfl, rfl, trivial⟩
  have hsup := T2.sup
  unfold ks_superIn at hsup
  rw [hcl] at hsup
  have hI : Looks (model prog w) h₁ (isInstance (.ref x) (.type "ValueError")) true := I₂.type.andThen (looks_subIn X₂ T2.veC)
  refine kxs_getMethod kxs_ValueError hso (looks_opaque X₂ T.opq) (l₀ := .ref C :: bm) (fun A Q E s k q => wpAny_bind ((looks_clsIn X₂ hcl) A _ E s k (wpAny_pure q))) rfl X₂ hsup hI hxC (by decide) ?_
  refine kxs_callWith (i := "ValueError.__init__") (x := x) (by first | rfl | decide) ?_
  have hu : (h₁.push (kxs_mw "ValueError.__init__" x)).get? h₁.objs.size = some (kxs_mw "ValueError.__init__" x) := Heap.get?_push_at rfl rfl
  have hk₂ : ∀ b o, h₁.get? b = some o → (h₁.push (kxs_mw "ValueError.__init__" x)).get? b = some o := fun b o e => Heap.get?_push_of_some _ e
  refine evalArgs_plain (Calls.spliced_cons (Constant_str (k := j) (pos := a3) ?_))
  refine Calls.spliced_nil ⟨hu, ?_⟩
  refine wpAny_call (codeAny_of_tree ?_)
  obtain ⟨nm', N', qn', bs', bm', hd', sn', su', ab', co', dd', e0, e1, e2, e3, e5, hCe, hT⟩ := excInit_of (X₂.keeps hk₂) T2.ini
  show wpAny _ _ (callAny (.ref h₁.objs.size) _) _ _ _
  simp only [callAny]
  refine wpAny_bind (wpAny_load hu ?_)
  simp only [kxs_mw, show (Value.type "method-wrapper" == Value.type "method" || Value.type "method-wrapper" == Value.type "builtin_function_or_method" || Value.type "method-wrapper" == Value.type "method-wrapper") = true by decide, if_true]
  refine KFB.if_so (by decide) ?_
  refine wpAny_bind (check_bound_init F.excBase_ValueError.toExcCallFacts hCe (hk₂ _ _ hx₂) rfl ?_)
  refine wpAny_bind (wpAny_pure (wpAny_pure ?_))
  refine ⟨plainId_quiet F.excBase_ValueError.init.plain _, codeAny_builtin F.excBase_ValueError.initEntry ?_⟩
  refine exc_init_tree (cls := .ref C) (t0 := t0) (dv := none) (c2 := .none) (c3 := .none) (b4 := .bool false) (hk₂ _ _ hx₂) (one_fits _) fun h₃ k₃ hx₃ _ => ?_
  have kAll : ∀ b o, b ≠ x → h₀.get? b = some o → h₃.get? b = some o := fun b o hb e => k₃ b o hb (hk₂ _ _ (hk₁ _ _ e))
  have kS : ∀ b o, b ≠ x → s.heap.get? b = some o → h₃.get? b = some o := fun b o hb e => kAll b o hb (hk _ _ e)
  have X₃ : K.In h₃ := fun a o e => kS a o (fun z => by rw [z, hnx] at e; cases e) (X a o e)
  have hns₃ := hns.at fun o e => kAll _ o hxL e
  show PySem.wpAt _ _ _ (execs _ _) _ _ _
  refine wpAt_of_wpAny (wpAny_execs_cons (plainObj_wpAny_Assign_Attribute ?_))
  refine wpAny_Name (wpAny_loadName_local rfl rfl hns₃ (v := v) (by first | rfl | kernel_rfl) ?_) (by decide)
  refine wpAny_Name (wpAny_loadName_local rfl rfl hns₃ (v := .ref x) (by first | rfl | kernel_rfl) ?_) (by decide)
  refine set_plain X₃ (ox := excO C _) (od := none) ⟨hx₃, rfl, rfl, trivial⟩ T2.sa ?_
  refine exc_osa X₃ hx₃ hcl (show refsVE (.ref C :: bm) = true from hbm) rfl T2.noN (fun h₄ tk₄ dx k₄ dn dne hx₄ hn₄ => ?_)
  have z : s.heap.objs.size < h₃.objs.size := hns₃.lt
  exact wpAny_execs_nil (hq h₄ tk₄ dx _ ⟨fun b o hb e => k₄ b o hb (kS b o hb e), hx₄, Nat.le_of_lt (Nat.lt_of_lt_of_le z dn), dne, hn₄⟩)
theorem made_run (T : RefTxt prog K mg R fI cc cda) (T2 : ErrTxt K mg R fI c C) {v : Value} (X : K.In s.heap) (hlim : s.heap.NoLimit) (hG : s.heap.Ns mainGlobals mg) (hB : ∃ mb, s.heap.Ns builtinsNs mb ∧ mb "super" = bootBuiltins "super") (hroom : A.depth + 1 < recursionLimit)
    (hq : ∀ h' tk e d, OwnMade s.heap h' e C d v → Rr (.ok (.ret (.ref e))) { s with heap := h', toks := tk }) :
    codeAny (model prog w) A (.call (.ref C) ⟨[v], []⟩) Rr s := by
  obtain ⟨nm, q, N, bs, bm, sn, sub, ab, col, dd, k0, k1, k2, k3, k5, hC, hbm⟩ := T2.cls
  obtain ⟨mb, hb, hbs⟩ := hB
  obtain ⟨hp, g, dr, tk, os⟩ := s
  have k : ∀ b o, hp.get? b = some o → ((hp.push (kdv_tup [v])).push (excO C hp.objs.size)).get? b = some o := fun b o e => Heap.get?_push_of_some _ (Heap.get?_push_of_some _ e)
  have hget : ((hp.push (kdv_tup [v])).push (excO C hp.objs.size)).get? (hp.objs.size + 1) = some (excO C hp.objs.size) := by heap_get
  have hnx : K.lookup (hp.objs.size + 1) = none := by
    cases e : K.lookup (hp.objs.size + 1) with
    | none => rfl
    | some o =>
      have z : hp.get? (hp.objs.size + 1) = some o := X _ _ e
      exact absurd (Nat.lt_of_succ_lt (Heap.lt_size z)) (Nat.lt_irrefl _)
  have hgx : mainGlobals ≠ hp.objs.size + 1 := fun z => by
    have y := hG.lt
    rw [z] at y
    exact absurd (Nat.lt_of_succ_lt y) (Nat.lt_irrefl _)
  refine call_own F.excBase_ValueError (fun X => refsVE_contains X bm hbm) (X _ _ hC) (looks_findIn X T2.iC) (fun self => bind_fn X self T2.tC) (one_fits v) ?_
  refine init_run (s := ⟨(hp.push (kdv_tup [v])).push (excO C hp.objs.size), g, dr, tk, os⟩) T T2 (X.keeps k) (hlim.keeps k) (hG.at fun o e => k _ _ e) ⟨mb, hb.at fun o e => k _ _ e, hbs⟩ hget hnx hgx ?_ fun h' tk' dx t1 ⟨k', hx, dn, dne, hns⟩ => ?_
  · show A.depth + 1 < recursionLimit
    exact hroom
  · have old : ∀ b o, hp.get? b = some o → h'.get? b = some o := fun b o e => k' b o (Nat.ne_of_lt (Nat.lt_succ_of_lt (Heap.lt_size e))) (k b o e)
    have z : hp.objs.size + 1 + 1 ≤ dx := by
      first
        | (simpa only [Heap.size_push] using dn)
        | exact dn
        | (have q := dn; rw [Heap.size_push, Heap.size_push] at q; exact q)
    exact ⟨rfl, hq h' tk' (hp.objs.size + 1) dx ⟨old, Nat.le_succ _, ⟨_, _, hx, rfl, rfl, rfl, rfl⟩, Nat.le_trans (Nat.le_trans (Nat.le_succ _) (Nat.le_succ _)) z, dne, hns⟩⟩
end
end SKX
namespace SK
open PySem PySem.Spec PyProof.Rows L2 SKX
theorem relO_what {v : V} {v' : Value} (r : RelV v v') (f : Str) : RelO (List.lookup f [(("what" : Str), v)]) (if f = "what" then some v' else none) := by
  by_cases hw : f = "what"
  · subst hw
    rw [if_pos rfl]
    have q : List.lookup ("what" : Str) [(("what" : Str), v)] = some v := by simp [List.lookup]
    rw [q]
    exact r
  · rw [if_neg hw]
    have qw : (f == ("what" : Str)) = false := by simpa using hw
    have q2 : List.lookup f [(("what" : Str), v)] = none := by simp [List.lookup, qw]
    rw [q2]
    trivial
section
variable {X : Cx} {W : WX} {R fI cc cda C : Addr} {c : Str}
def tMkErr (C : Addr) (ta : TA) : L2.St → Hp → XK → Prop := fun σ H Q => ta σ H fun vs H1 => ∃ v, vs = [v] ∧ ∀ d, H1 d = none → Q (.ref C) (some d) (upd H1 d (.xd [(("what" : Str), v)]))
theorem pmk_err {a : Expr} {ta : TA} {p pos : Pos} {k : Nat} (T : RefTxt X.prog X.K X.mg R fI cc cda) (T2 : ErrTxt X.K X.mg R fI c C) (hr : Room k X.A) (ha : PA X [a] ta) (hg : Gl X c) (hdb : (c == ("__debug__" : Str)) = false)
    (he : starEach (a :: []) X.env = (false, eval a X.env) :: starEach [] X.env := by rfl) (hpl : (backTo pos (starEach [] X.env)).any (·.1) = false := by rfl) :
    PMk X (.Call (.Name c p) [a] [] pos) (tMkErr C ta) := by
  intro pins s σ H Q I h
  refine wpAny_Call_Name_kw (ld_glob I hg T2.gC ?_ hdb)
  refine PySem.W.callWith_K (h₀ := X.base) I.ok.mod.kin T2.kC (thn (ha.run pos pins s σ H _ I h) fun us s1 hh => ?_) he hpl
  obtain ⟨vs, H1, I1, r1, v, ev, q1⟩ := hh
  subst ev
  refine ⟨I1.kIn, ?_⟩
  cases r1 with
  | cons rv rn =>
    rename_i v' us'
    cases rn
    show wpAny _ _ (call (.ref C) [v']) _ _ _
    have hlim := I1.nolimit
    have hG : s1.heap.Ns mainGlobals X.mg := I1.ok.mod.glob.keeps I1.bk
    obtain ⟨mb, hb, hbs⟩ := I1.ok.mod.blt
    have hB : ∃ mb, s1.heap.Ns builtinsNs mb ∧ mb "super" = bootBuiltins "super" := ⟨mb, hb.keeps I1.bk, hbs _ (by decide)⟩
    obtain ⟨hp, g, dr, tk, os⟩ := s1
    refine wpAny_call (made_run T T2 I1.kIn hlim hG hB (by have := hr.dp; omega) fun h' tk' e d M => ?_)
    show MkP X pins σ Q (.ref e) ⟨h', g, dr, tk', os⟩
    obtain ⟨oe, fv, hoe, hc, hd, hdat, h1⟩ := M.obj
    have hns := M.ns
    obtain ⟨G', g1, g2⟩ := restrict h' fun b => decide (b ≠ e)
    have gk : ∀ b, b ≠ e → G'.get? b = h'.get? b := fun b hb => g1 b (decide_eq_true hb)
    have ge : G'.get? e = none := g2 e (by simp)
    have old : ∀ b o, hp.get? b = some o → G'.get? b = some o := fun b o q => (gk b (Nat.ne_of_lt (Nat.lt_of_lt_of_le (Heap.lt_size q) M.new))).trans (M.keep b o q)
    have ob : ObjOk X.prog X.w (upd H1 d (.xd [(("what" : Str), v)])) G' d (.xd [(("what" : Str), v)]) :=
      ⟨_, hns.at (fun o q => (gk d M.dne).trans q), fun f => relO_what rv f⟩
    have J : Inv X pins σ (upd H1 d (.xd [(("what" : Str), v)])) ⟨G', g, dr, tk', os⟩ := I1.laid (t' := tk') old M.dbig ob
    refine ⟨e, oe, fv, ⟨G', g, dr, tk', os⟩, _, .ref C, some d, rfl, J, fun b o q => ?_, ge, hoe, ⟨hc, hd⟩, hdat, h1, ?_, rfl, I1.bare, raises_own T2.exC T2.tyC, q1 d (I1.hok.fresh M.dbig)⟩
    · by_cases hb : b = e
      · have q' : G'.get? b = some o := q
        rw [hb, ge] at q'; cases q'
      · exact (gk b hb).symm.trans q
    · rw [upd_ne (Ne.symm M.dne)]
      exact I1.hok.fresh M.new
def sRaise (c : Str) (m : Ev → M D) : SM := fun s oh => (m s oh).st s fun d oh => .exc c d s oh
theorem rs_raise {a : Expr} {ma : Ev → M D} {p pos pos2 : Pos} {k : Nat} (hc : X.calm = true) (T : RefTxt X.prog X.K X.mg R fI cc cda) (T2 : ErrTxt X.K X.mg R fI c C) (hr : Room k X.A) (tk : Takes X W) (ha : RE X W a ma) (hg : Gl X c := by rfl) (hdb : (c == ("__debug__" : Str)) = false := by decide)
    (he : starEach (a :: []) X.env = (false, eval a X.env) :: starEach [] X.env := by rfl) (hpl : (backTo pos (starEach [] X.env)).any (·.1) = false := by rfl) :
    RSt X W (.Raise (some (.Call (.Name c p) [a] [] pos)) none pos2) (sRaise c ma) := by
  refine (ps_raise hc tk (pmk_err T T2 hr (ra_cons (W := W) ha ra_nil he) hg hdb he hpl)).imp fun D0 σ H ⟨ρ, oh, s, rh, rs, h⟩ => ?_
  refine ⟨ρ, oh, s, rh, rs, ?_⟩
  have h2 := Out.toS h rs
  unfold aCons aNil
  cases em : ma s oh with
  | ok d oh1 =>
    rw [em] at h2
    intro ρ1 H1 L1 rh1 vs rv
    obtain ⟨v, rfl, r1⟩ := rv.one
    refine ⟨v, rfl, fun dd hd => ?_⟩
    have L2 : Later X.K ρ1 H1 ρ1 (upd H1 dd (.xd [(("what" : Str), v)])) := .fresh hd
    exact h2 ρ1 H1 L1 rh1 ρ1 _ σ dd v C L2 (rh1.fresh hd) ((L1.trans L2).reps rs) (L2.rep r1) T2.gC upd_same
  | exc c w oh1 => rw [em] at h2; exact h2
  | bad => rw [em] at h2; exact h2
end
end SK
set_option maxHeartbeats 2000000
namespace SK
open PySem PySem.Spec PyProof.Rows L2 SKX
/-! ### what a suite asks of the error that it holds -/
structure Errs (X : Cx) (R fI : Addr) (errs : List Str) : Prop where
  of : ∀ c C, errs.contains c = true → X.mg c = some (.ref C) → ErrTxt X.K X.mg R fI c C
def tH (X : Cx) (errs : List Str) (i : Nat) (a : Addr) (cls : Value) (d : Option Addr) (f : Str → D → D) : TE := fun σ H Q => ∃ ρ oh c w C dd v, σ[i]? = some (some (.ref a)) ∧ errs.contains c = true ∧ X.mg c = some (.ref C) ∧ cls = .ref C ∧ d = some dd ∧
  H dd = some (.xd [(("what" : Str), v)]) ∧ RH X.K H ρ oh ∧ Rep X.K H ρ w v ∧ ∀ ρ' H' u, Later X.K ρ H ρ' H' → RH X.K H' ρ' oh → H' dd = some (.xd [(("what" : Str), v)]) → Rep X.K H' ρ' (f c w) u → Q u H'
def tHA (X : Cx) (errs : List Str) (i : Nat) (a : Addr) (cls : Value) (d : Option Addr) (f : Str → D → List D) : TA := fun σ H Q => ∃ ρ oh c w C dd v, σ[i]? = some (some (.ref a)) ∧ errs.contains c = true ∧ X.mg c = some (.ref C) ∧ cls = .ref C ∧ d = some dd ∧
  H dd = some (.xd [(("what" : Str), v)]) ∧ RH X.K H ρ oh ∧ Rep X.K H ρ w v ∧ ∀ ρ' H' us, Later X.K ρ H ρ' H' → RH X.K H' ρ' oh → H' dd = some (.xd [(("what" : Str), v)]) → RepL X.K H' ρ' (f c w) us → Q us H'
def tHT (X : Cx) (errs : List Str) (i : Nat) (a : Addr) (cls : Value) (d : Option Addr) (f : Str → D → Bool) : TT := fun σ H Q => ∃ ρ oh c w C dd v, σ[i]? = some (some (.ref a)) ∧ errs.contains c = true ∧ X.mg c = some (.ref C) ∧ cls = .ref C ∧ d = some dd ∧
  H dd = some (.xd [(("what" : Str), v)]) ∧ RH X.K H ρ oh ∧ Rep X.K H ρ w v ∧ Q (f c w) H
section
variable {X : Cx} {errs : List Str} {i : Nat} {a : Addr} {cls : Value} {d : Option Addr} {oe : Obj} {pn : List (Addr × Obj)} {R fI : Addr} {f f1 f2 : Str → D → D} {e e1 e2 : Expr} {es : List Expr} {pos : Pos}
abbrev HE (X : Cx) (errs : List Str) (i : Nat) (a : Addr) (cls : Value) (d : Option Addr) (oe : Obj) (pn : List (Addr × Obj)) (e : Expr) (f : Str → D → D) : Prop := PE (X.suite a ((a, oe) :: pn)) e (tH X errs i a cls d f)
abbrev HA (X : Cx) (errs : List Str) (i : Nat) (a : Addr) (cls : Value) (d : Option Addr) (oe : Obj) (pn : List (Addr × Obj)) (e : List Expr) (f : Str → D → List D) : Prop := PA (X.suite a ((a, oe) :: pn)) e (tHA X errs i a cls d f)
abbrev HT (X : Cx) (errs : List Str) (i : Nat) (a : Addr) (cls : Value) (d : Option Addr) (oe : Obj) (pn : List (Addr × Obj)) (e : Expr) (f : Str → D → Bool) : Prop := PT (X.suite a ((a, oe) :: pn)) e (tHT X errs i a cls d f)
theorem he_str {x j} : HE X errs i a cls d oe pn (.Constant (.str x) j pos) (fun _ _ => .str x) := pe_str.imp fun σ H Q ⟨ρ, oh, c, w, C, dd, v, h1, h2, h3, h4, h5, h6, rh, rw, q⟩ => q ρ H _ .refl rh h6 (by simp [Rep])
theorem he_int {x j} : HE X errs i a cls d oe pn (.Constant (.int x) j pos) (fun _ _ => .int x) := pe_int.imp fun σ H Q ⟨ρ, oh, c, w, C, dd, v, h1, h2, h3, h4, h5, h6, rh, rw, q⟩ => q ρ H _ .refl rh h6 (by simp [Rep])
theorem he_what {n : Str} {p : Pos} (ER : Errs X R fI errs) (hz : Zc cls d oe) (hf : ∃ vs, oe.data = .fields vs) (hN : X.N[i]? = some n) (hv : Vis X.env.scope n) (hd : (n == ("__debug__" : Str)) = false := by decide) (hcd : (n == ("__classdict__" : Str)) = false := by decide)
    (hb : attributeBase (.Name n p) "what" X.env (eval (.Name n p) X.env) = eval (.Name n p) X.env := by rfl) : HE X errs i a cls d oe pn (.Attribute (.Name n p) "what" pos) (fun _ w => w) := by
  refine ⟨fun pins s σ H Q I hh => ?_⟩
  obtain ⟨ρ, oh, c, w, C, dd, v, h1, h2, h3, h4, h5, h6, rh, rw', q⟩ := hh
  have he : PE (X.suite a ((a, oe) :: pn)) (.Name n p) (tVar i) := pe_var hN hv hd hcd
  refine attr_of hb (thn (he.run pins s σ H (fun x H1 => x = .ref a ∧ H1 = H) I ⟨_, h1, rfl, rfl⟩) fun u s1 hh => ?_)
  obtain ⟨x, H1, I1, rx, ex, eH⟩ := hh
  subst ex
  rw [eH] at I1
  obtain rfl : u = Value.ref a := rx
  subst h4; subst h5
  have T := ER.of c C h2 h3
  obtain ⟨ha, _⟩ := I1.pin (a, oe) (List.mem_append_left _ List.mem_cons_self)
  obtain ⟨vs, hd⟩ := hf
  have hx : ObjOk X.prog X.w H s1.heap dd (.xd [(("what" : Str), v)]) := I1.hok dd _ h6
  obtain ⟨mA, hns, hr⟩ := hx
  obtain ⟨od, ho, hl⟩ := lookIn_ns hns
  have l : List.lookup ("what" : Str) [(("what" : Str), v)] = some v := by simp [List.lookup]
  obtain ⟨u, hu, ru⟩ := RelO.some_of (v := v) (o := mA "what") (by rw [← l]; exact hr "what")
  have J : PySem.W.InstAt s1.heap a oe C (some od) := ⟨ha, hz.1, by unfold PySem.W.notCls; rw [hd] <;> rfl, by rw [hz.2]; exact ho⟩
  exact HandSPX.exc_get I1.kIn J T.ga T.gg T.exC (PySem.W.findObj_own T.hdC T.noN rfl (by rw [hl, hu])) (handed_of ru) ⟨v, H, I1.tok _, ru, q ρ H v .refl rh h6 rw'⟩
theorem he_if {t : Str → D → Bool} {c : Expr} (hc : HT X errs i a cls d oe pn c t) (ha : HE X errs i a cls d oe pn e1 f1) (hb : HE X errs i a cls d oe pn e2 f2) : HE X errs i a cls d oe pn (.IfExp c e1 e2 pos) (fun c w => if t c w then f1 c w else f2 c w) := (pe_ifExp hc ha hb).imp fun σ H Q ⟨ρ, oh, c, w, C, dd, v, h1, h2, h3, h4, h5, h6, rh, rw', q⟩ => by
  refine ⟨ρ, oh, c, w, C, dd, v, h1, h2, h3, h4, h5, h6, rh, rw', ?_⟩
  cases et : t c w with
  | true =>
    simp only [et, if_true] at q ⊢
    exact ⟨ρ, oh, c, w, C, dd, v, h1, h2, h3, h4, h5, h6, rh, rw', q⟩
  | false =>
    simp only [et] at q ⊢
    exact ⟨ρ, oh, c, w, C, dd, v, h1, h2, h3, h4, h5, h6, rh, rw', q⟩
theorem ha_nil : HA X errs i a cls d oe pn [] (fun _ _ => []) := pa_nil.imp fun σ H Q ⟨ρ, oh, c, w, C, dd, v, h1, h2, h3, h4, h5, h6, rh, rw', q⟩ => q ρ H _ .refl rh h6 (by simp [RepL])
theorem ha_cons {fs : Str → D → List D} (h1 : HE X errs i a cls d oe pn e f) (h2 : HA X errs i a cls d oe pn es fs) (hs : starEach (e :: es) X.env = (false, eval e X.env) :: starEach es X.env := by rfl) : HA X errs i a cls d oe pn (e :: es) (fun c w => f c w :: fs c w) := (pa_cons h1 h2 hs).imp fun σ H Q ⟨ρ, oh, c, w, C, dd, v, h1, h2, h3, h4, h5, h6, rh, rw', q⟩ => by
  refine ⟨ρ, oh, c, w, C, dd, v, h1, h2, h3, h4, h5, h6, rh, rw', fun ρ1 H1 u L1 rh1 e1 r1 => ?_⟩
  refine ⟨ρ1, oh, c, w, C, dd, v, h1, h2, h3, h4, h5, e1, rh1, L1.rep rw', fun ρ2 H2 us L2 rh2 e2 r2 => ?_⟩
  exact q ρ2 H2 _ (L1.trans L2) rh2 e2 (by simp only [RepL]; exact ⟨u, us, rfl, L2.rep r1, r2⟩)
theorem he_tup {x1} {fs : Str → D → List D} (h : HA X errs i a cls d oe pn es fs) (hl : es.length ≤ 16777216 := by decide) (hlen : ∀ c w, (fs c w).length = es.length := by intro _ _; rfl) : HE X errs i a cls d oe pn (.Tuple es x1 pos) (fun c w => .tup (fs c w)) := (pe_tup h).imp fun σ H Q ⟨ρ, oh, c, w, C, dd, v, h1, h2, h3, h4, h5, h6, rh, rw', q⟩ => by
  refine ⟨ρ, oh, c, w, C, dd, v, h1, h2, h3, h4, h5, h6, rh, rw', fun ρ1 H1 us L1 rh1 e1 r1 => ?_⟩
  refine ⟨by rw [← r1.length, hlen, sizeLine_eq]; exact hl, fun p hp => ?_⟩
  exact q ρ1 _ _ (L1.trans (.fresh hp)) (rh1.fresh hp) (by rw [upd_ne (ne_of_none e1 hp)]; exact e1) (by simp only [Rep]; exact ⟨p, us, rfl, SqT.of upd_same, Later.repl (.fresh hp) r1⟩)
/-- isinstance(e, B) -/
theorem call_isErr {C : Addr} {c : Str} (T : ErrTxt X.K X.mg R fI c C) (hz : Zc (.ref C) d oe) (hf : ∃ vs, oe.data = .fields vs) {dd : Addr} {v : V} (ed : d = some dd) :
    CallR (X.suite a ((a, oe) :: pn)) (.builtin "isinstance") (fun xs H Q => H dd = some (.xd [(("what" : Str), v)]) ∧ ∃ (c : V) (cv : Value) (b : Bool), xs = [.ref a, c] ∧ (∀ u, RelV c u → u = cv) ∧ PySem.W.kitOne X.K (.ref C) cv = some b ∧ Q (.bl b) H) := by
  intro pins s σ H xs us Q I r hh
  obtain ⟨h6, c', cv, b, rfl, hcv, e, q⟩ := hh
  cases r with
  | cons rx rr =>
    cases rr with
    | cons rt rr =>
      cases rr
      cases rx
      have ec := hcv _ rt
      subst ec
      obtain ⟨hget, _⟩ := I.pin (a, oe) (List.mem_append.mpr (.inl List.mem_cons_self))
      obtain ⟨vs, hv⟩ := hf
      have hx : ObjOk X.prog X.w H s.heap dd (.xd [(("what" : Str), v)]) := I.hok dd _ h6
      obtain ⟨mA, hns, hr⟩ := hx
      obtain ⟨od, ho, hl⟩ := lookIn_ns hns
      have J : PySem.W.InstAt s.heap a oe C (some od) := ⟨hget, hz.1, by unfold PySem.W.notCls; rw [hv] <;> rfl, by rw [hz.2, ed]; exact ho⟩
      have hcl : (PySem.W.clsIn X.K C).isSome = true := by
        have z := T.hdC
        unfold PySem.W.hasDictIn at z
        cases q : PySem.W.clsIn X.K C with
        | none => rw [q] at z; cases z
        | some _ => rfl
      exact PySem.W.kia_one (PySem.W.kitx_exc hcl T.ga T.gg T.exC T.clC T.clN T.clT T.toO) I.kIn J e (fun z => nomatch z) fun tk => ⟨.bl b, H, I.kept (t' := tk) fun _ _ z => z, rfl, q⟩
theorem ht_is {n B : Str} {CB : Addr} {sub : Str → Bool} {p p0 p1 : Pos} (ER : Errs X R fI errs) (hz : Zc cls d oe) (hf : ∃ vs, oe.data = .fields vs) (hm : X.mg "isinstance" = none) (hB : X.mg B = some (.ref CB)) (hN : X.N[i]? = some n) (hv : Vis X.env.scope n)
    (hk : ∀ c C, errs.contains c = true → X.mg c = some (.ref C) → PySem.W.kitOne X.K (.ref C) (.ref CB) = some (sub c))
    (hg : Gl X "isinstance" := by rfl) (hgB : Gl X B := by rfl) (hdB : (B == ("__debug__" : Str)) = false := by decide) (hd : (n == ("__debug__" : Str)) = false := by decide) (hcd : (n == ("__classdict__" : Str)) = false := by decide)
    (he : starEach [.Name n p, .Name B p0] X.env = (false, eval (.Name n p) X.env) :: starEach [.Name B p0] X.env := by rfl) (he2 : starEach [.Name B p0] X.env = (false, eval (.Name B p0) X.env) :: starEach [] X.env := by rfl)
    (hpl : (backTo pos (starEach [.Name B p0] X.env)).any (·.1) = false := by rfl)
    (ht : ∀ whole, isTrue (.Call (.Name "isinstance" p1) [.Name n p, .Name B p0] [] pos) X.env whole = (do let v ← whole; standAt (Expr.Call (.Name "isinstance" p1) [.Name n p, .Name B p0] [] pos).pos; holding [v] (truthy v)) := by intro _; rfl) :
    HT X errs i a cls d oe pn (.Call (.Name "isinstance" p1) [.Name n p, .Name B p0] [] pos) (fun c _ => sub c) := by
  refine ⟨fun pins s σ H Q I hh => ?_⟩
  obtain ⟨ρ, oh, c, w, C, dd, v, h1, h2, h3, h4, h5, h6, rh, rw', q⟩ := hh
  subst h4
  have T := ER.of c C h2 h3
  have hp : PE (X.suite a ((a, oe) :: pn)) (.Call (.Name "isinstance" p1) [.Name n p, .Name B p0] [] pos) _ :=
    pe_callB (call_isErr (dd := dd) (v := v) T hz hf h5) hg hm (by decide +kernel) (pa_cons (pe_var hN hv hd hcd) (pa_cons (pe_glob (v := .ref CB) hgB hB rfl hdB) pa_nil he2) he) (by decide) (by decide) he hpl
  exact (pt_val hp ht).run pins s σ H Q I ⟨.ref a, h1, h6, .ref CB, .ref CB, sub c, rfl, fun u ru => ru, hk c C h2 h3, sub c, rfl, q⟩
end
theorem RepS.length {K : PySem.W.Frag} {H : Hp} {ρ : List Addr} : ∀ {s : Ev} {σ : L2.St}, RepS K H ρ s σ → s.length = σ.length
  | [], _, h => by
    simp only [RepS] at h
    subst h; rfl
  | none :: s, _, h => by
    obtain ⟨v, σ', rfl, t⟩ := h
    show s.length + 1 = σ'.length + 1
    rw [RepS.length t]
  | some d :: s, _, h => by
    obtain ⟨v, σ', rfl, _, t⟩ := h
    show s.length + 1 = σ'.length + 1
    rw [RepS.length t]
/-! ### try -/
def sTry (errs : List Str) (i : Nat) (sub : Str → Bool) (mb : SM) (hs : Str → D → Ev → OH → RS) : SM := fun s oh => match mb s oh with
  | .exc c w s' oh' => if errs.contains c && decide (i < s'.length) then (if sub c then hs c w s' oh' else .exc c w s' oh') else .bad
  | r => r
section
variable {X : Cx} {W : WX} {errs : List Str} {i : Nat} {R fI Ch : Addr} {x n : Str} {body : List Stmt} {mb : SM} {f : Str → D → D} {sub : Str → Bool} {e : Expr} {np pos pos' pos2 : Pos}
/-- try: .. except x as n: return e -/
theorem rs_try_ret (hst : X.stack = X.env :: X.outer) (hf : X.env.frame = some X.env.locals) (hN : X.N.Nodup) (hi : X.N[i]? = some n) (hln : X.env.kindOf n = some .local) (hx : X.mg x = some (.ref Ch)) (tk : Takes X W)
    (hsub : ∀ c C, errs.contains c = true → X.mg c = some (.ref C) → PySem.W.exmOne X.K (.ref C) (.ref Ch) = some (sub c))
    (hb : ∀ (W : WX) (pn : List (Addr × Obj)) (xe : Value → Shared → Prop), Takes (X.tr pn xe) W → PassesOwn (model X.prog X.w) X.A X.env xe → RSs (X.tr pn xe) W body mb)
    (he : ∀ (a : Addr) (oe : Obj) (cls : Value) (d : Option Addr) (pn : List (Addr × Obj)), Zc cls d oe → (∃ vs, oe.data = .fields vs) → HE X errs i a cls d oe pn e f)
    (hg : Gl X x := by rfl) (hd : (x == ("__debug__" : Str)) = false := by decide) :
    RSt X W (.Try body [.ExceptHandler (some (.Name x np)) (some n) [.Return (some e) pos2] pos'] [] [] pos) (sTry errs i sub mb fun c w _ oh => .rt (f c w) oh) := by
  refine (ps_try_as (tb := fun W => tS X W mb) (ts := fun a cls d => tRet (tH X errs i a cls d f)) hst hf hN hi hln ⟨hg, hd, .inl hx⟩ tk (fun W pn xe tk' hp => hb W pn xe tk' hp) (fun a oe cls d pn hz hv => pss_one (ps_ret (he a oe cls d pn hz hv)))).imp fun D0 σ H ⟨ρ, oh, s, rh, rs, h⟩ => ?_
  refine ⟨ρ, oh, s, rh, rs, ?_⟩
  unfold sTry at h
  cases eb : mb s oh with
  | exc c w s1 oh1 =>
    rw [eb] at h
    dsimp only at h
    split at h
    · rename_i hc
      rw [Bool.and_eq_true, decide_eq_true_eq] at hc
      intro ρ1 H1 σ1 dd v C L1 rh1 rs1 rv hm hdd
      refine ⟨sub c, hsub c C hc.1 hm, fun hb a ha => ?_, fun hb => ?_⟩
      · rw [hb] at h
        have h : OutS X.K X.mg W ρ H (.rt (f c w) oh1) D0 := h
        exact ⟨ρ1, oh1, c, w, C, dd, v, List.getElem?_set_self (by rw [← rs1.length]; exact hc.2), hc.1, hm, rfl, rfl, hdd, rh1, rv, fun ρ2 H2 u L2 rh2 _ ru => h ρ2 H2 u (L1.trans L2) rh2 ru⟩
      · rw [hb] at h
        exact h ρ1 H1 σ1 dd v C L1 rh1 rs1 rv hm hdd
    · exact h.elim
  | nx s1 oh1 => rw [eb] at h; exact h
  | rt s1 oh1 => rw [eb] at h; exact h
  | bk s1 oh1 => rw [eb] at h; exact h
  | ct s1 oh1 => rw [eb] at h; exact h
  | bad => rw [eb] at h; exact h
end
end SK
set_option maxHeartbeats 2000000
namespace SK
open PySem PySem.Spec PyProof.Rows L2 SKX LamX
/-! ### x(lambda: body), x a def that calls what it gets and tells its refusal -/
def toldM (errs : List Str) (sub : Str → Bool) (f : Str → D → D) (r : R D) : R D := match r with
  | .exc c w oh => if errs.contains c && sub c then .ok (f c w) oh else .bad
  | r => r
def eTold (T : List (Addr × Str)) (errs : List Str) (sub : Str → Bool) (f : Str → D → D) (m : Ev → M D) : Ev → M D := fun s oh => match (oh[1]? : Option Cell) with
  | some (Cell.tbls T') => if T' = T then toldM errs sub f (m s oh) else .bad
  | _ => .bad
def EH (K : PySem.W.Frag) (mg : Str → Option Value) (errs : List Str) (sub : Str → Bool) (f : Str → D → D) (Q : VK) : XK := fun cls d H => ∃ ρ oh c w C dd v, errs.contains c = true ∧ sub c = true ∧ mg c = some (.ref C) ∧ cls = .ref C ∧ d = some dd ∧ H dd = some (.xd [(("what" : Str), v)]) ∧ RH K H ρ oh ∧ Rep K H ρ w v ∧
  ∀ ρ' H' u, Later K ρ H ρ' H' → RH K H' ρ' oh → Rep K H' ρ' (f c w) u → Q u H'
def TT' (K : PySem.W.Frag) (mg : Str → Option Value) (errs : List Str) (sub : Str → Bool) (f : Str → D → D) : (XK → Hp → VK → Prop) → Hp → VK → Prop := fun tl H Q => tl (EH K mg errs sub f Q) H Q
theorem takes_len {X : Cx} {W : WX} (tk : Takes X W) : Takes X (fun c d σ H => σ.length = X.N.length → W c d σ H) := fun u s' xx => by
  obtain ⟨a, B, sI, pins, σ, H, cls, d, e, I, nb, up, sky, na, os, ag, w⟩ := xx
  exact tk u s' ⟨a, B, sI, pins, σ, H, cls, d, e, I, nb, up, sky, na, os, ag, w I.len⟩
/-- def x(a): try: return a() / except B as n: return e -/
theorem told_gives' {X : Cx} {Ng : List Str} {x a q B n : Str} {sg : Scope} {g CB R fI : Addr} {cdg : Value} {errs : List Str} {sub : Str → Bool} {f : Str → D → D} {e : Expr} {p1 p2 p3 p4 p5 p6 p7 : Pos}
    (hBg : sg.names.lookup B = some .globalImplicit) (hB : X.mg B = some (.ref CB)) (hdB : (B == ("__debug__" : Str)) = false) (hNg : Ng = [a, n]) (hnd : Ng.Nodup) (hln : sg.names.lookup n = some .local)
    (hsub : ∀ c C, errs.contains c = true → sub c = true → X.mg c = some (.ref C) → PySem.W.exmOne X.K (.ref C) (.ref CB) = some true)
    (he : ∀ (A : Around) (outer : List Env) (s : Shared) (H : Hp) (E : XK) (ae : Addr) (oe : Obj) (cls : Value) (d : Option Addr) (pn : List (Addr × Obj)), Zc cls d oe → (∃ vs, oe.data = .fields vs) → HE (cxOf C8.CX0 X.prog X.w X.K X.mg X.base Ng x sg g cdg A outer s H E).nox errs 1 ae cls d oe pn e f) :
    GivesTo X Ng x sg g cdg [.Try [.Return (some (.Call (.Name a p1) [] [] p2)) p3] [.ExceptHandler (some (.Name B p4)) (some n) [.Return (some e) p5] p6] [] [] p7] a q (TT' X.K X.mg errs sub f) := by
  intro fa c' s H Q tl act hc h
  subst hNg
  have hgl : Gl (cxOf C8.CX0 X.prog X.w X.K X.mg X.base [a, n] x sg g cdg X.A X.stack s H C8.E0).nox B := hBg
  refine ⟨_, pss_one (ps_try_as (X := (cxOf C8.CX0 X.prog X.w X.K X.mg X.base [a, n] x sg g cdg X.A X.stack s H C8.E0).nox) (c := .ref CB) (i := 1) (n := n)
      (tb := fun W D σ H => ∃ Ech : XK, (∀ cls d σ' H', σ'.length = 2 → Ech cls d H' → W cls d σ' H') ∧ σ[0]? = some (some (.ref fa)) ∧ H c' = some (CodeO c' q) ∧ tl Ech H D.rt)
      (ts := fun ae cls d => tRet (tH (cxOf C8.CX0 X.prog X.w X.K X.mg X.base [a, n] x sg g cdg X.A X.stack s H C8.E0).nox errs 1 ae cls d f))
      rfl rfl hnd rfl hln ⟨hgl, hdB, .inl hB⟩ L2.takes0 (fun W pn xe tk _ => ?_) (fun ae oe cls d pn hz hv => pss_one (ps_ret (he _ _ _ _ _ ae oe cls d pn hz hv)))), ?_⟩
  · refine ⟨fun pins s' σ H' D I h' => ?_⟩
    obtain ⟨Ech, hW, h1, h2, h3⟩ := h'
    have hp := act _ pn xe Ech p1 p2 (takes_len tk) fun cls d σ' H' hE hl => hW cls d σ' H' hl hE
    exact (pss_one (ps_ret (pos := p3) hp)).run pins s' σ H' D I ⟨h1, h2, h3⟩
  · refine ⟨EH X.K X.mg errs sub f Q, fun cls d σ' H' hl hE => ?_, rfl, hc, h⟩
    obtain ⟨ρ, oh, c, w, C, dd, v, k1, k2, k3, k4, k5, k6, rh, rw', q'⟩ := hE
    subst k4
    refine ⟨true, hsub c C k1 k2 k3, fun _ ae ha => ?_, fun z => by cases z⟩
    exact ⟨ρ, oh, c, w, C, dd, v, List.getElem?_set_self (by rw [hl]; decide), k1, k3, rfl, k5, k6, rh, rw', fun ρ2 H2 u L2 rh2 _ ru => q' ρ2 H2 u L2 rh2 ru⟩
section
variable {X : Cx} {W : WX} {errs : List Str} {sub : Str → Bool} {f : Str → D → D} {m : Ev → M D}
theorem later_extN {K : PySem.W.Frag} {ρ : List Addr} {H H1 : Hp} (e : ExtN H H1) : Later K ρ H ρ H1 := by
  refine ⟨List.prefix_rfl, fun a xs h => ?_, fun a o u h => e a _ h (fun ps z => nomatch z)⟩
  rcases h with (h | ⟨ob, h⟩) | h
  · exact .inl (.inl (e a _ h (fun ps z => nomatch z)))
  · exact .inl (.inr ⟨ob, e a _ h (fun ps z => nomatch z)⟩)
  · exact .inr h
theorem rh_extN {K : PySem.W.Frag} {ρ : List Addr} {H H1 : Hp} {oh : OH} {T : List (Addr × Str)} (h : RH K H ρ oh) (e : ExtN H H1) (eT : oh[1]? = some (.tbls T)) (t : Tabs T H1) : RH K H1 ρ oh := by
  refine ⟨h.len, h.nd, fun n c a e1 e2 => ?_, fun T' e' => ?_, h.tab1⟩
  · have q := h.cell n c a e1 e2
    cases c with
    | lst l =>
      obtain ⟨xs, ex, r⟩ := q
      exact ⟨xs, e a _ ex (fun ps z => nomatch z), Later.repl (later_extN e) r⟩
    | ro l =>
      obtain ⟨xs, ex, r⟩ := q
      refine ⟨xs, ?_, Later.repl (later_extN e) r⟩
      rcases ex with ⟨o, ex⟩ | ex
      · exact .inl ⟨o, e a _ ex (fun ps z => nomatch z)⟩
      · exact .inr ex
    | tbls T' =>
      have hn := h.tab1 n T' e1
      subst hn
      rw [eT] at e1
      cases e1
      obtain ⟨_, p, hp, ep⟩ := q
      obtain ⟨ps, h1, _⟩ := t p hp
      exact ⟨⟨ps, by rw [← ep]; exact h1⟩, p, hp, ep⟩
  · rw [eT] at e'
    cases e'
    exact t
theorem lam_imp {T : List (Addr × Str)} : ∀ σ H Q, tE X W (eTold T errs sub f m) σ H Q → tLam T (TT' X.K X.mg errs sub f) (fun E => tE X (fun cls d _ H => E cls d H) m) σ H Q := fun σ H Q ⟨ρ, oh, s, rh, rs, h⟩ => by
  unfold eTold at h
  split at h
  · rename_i T' eT
    split at h
    · rename_i e
      subst e
      refine ⟨rh.tab _ eT, fun H1 eN t1 => ?_⟩
      have L1 := later_extN (K := X.K) (ρ := ρ) eN
      refine ⟨ρ, oh, s, rh_extN rh eN eT t1, L1.reps rs, ?_⟩
      cases em : m s oh with
      | ok d oh1 =>
        rw [em] at h
        exact fun ρ' H' L' rh' v rv => h ρ' H' (L1.trans L') rh' v rv
      | exc c w oh1 =>
        rw [em] at h
        simp only [toldM] at h
        split at h
        · rename_i hc
          rw [Bool.and_eq_true] at hc
          exact fun ρ' H' dd v C L' rh' rv hm hx => ⟨ρ', oh1, c, w, C, dd, v, hc.1, hc.2, hm, rfl, rfl, hx, rh', rv, fun ρ2 H2 u L2 rh2 ru => h ρ2 H2 (L1.trans (L'.trans L2)) rh2 u ru⟩
        · exact h.elim
      | bad => rw [em] at h; exact h
    · exact h.elim
  · exact h.elim
variable {T : List (Addr × Str)} {x a : Str} {g c P : Addr} {k : Nat} {pg : Arguments} {bg : List Stmt} {sg : Scope} {dV kV doc pm cdv ct oc : Value} {an od : Option Addr} {osl : Array (Option Value)} {Ng : List Str} {params : Arguments} {body : Expr} {scope : Scope} {p lpos pos : Pos}
theorem re_told (hg : Gl X x) (hm : X.mg x = some (.ref g)) (hk : PySem.W.keepIn X.K (.ref g) = true)
    (lk : X.K.lookup g = some ⟨oc, od, .func (PySem.W.fnOf x x pg bg sg dV kV doc pm an cdv ct), osl⟩) (hcg : PySem.W.codeIn X.K cdv x = true) (hb : L2.Binds X.K (PySem.W.fnOf x x pg bg sg dV kV doc pm an cdv ct) [a] []) (Sg : FnScope Ng [a] sg) (hNg : Ng[0]? = some a) (hva : Vis sg a)
    (hG : GivesTo X Ng x sg g cdv bg a (X.env.qual ++ "<lambda>") (TT' X.K X.mg errs sub f))
    (TB : TabB X.base X.mg c P) (hcode : X.env.code = .ref c) (hmT : (P, X.env.qual ++ "<lambda>") ∈ T) (hu : ∀ p ∈ T, p.1 = P → p.2 = X.env.qual ++ "<lambda>") (hr : Room (k + 2) X.A) (L : LamS X.env.scope scope) (hdef : defaultsOf params X.env = ([], []))
    (hbind : ∀ (q : Str) (cl : List (Str × Addr)) (pm cv ctv : Value), bindArgs (PySem.W.kla_fn "<lambda>" q params body scope cl pm cv ctv) ⟨[], []⟩ = pure [])
    (hbody : ∀ (A : Around) (outer : List Env) (s : Shared) (H : Hp) (E : XK) (f c' : Addr), Room k (A.deeper (lamEnv X scope s.heap.objs.size f c')) → Takes (lamCx X A outer s H E scope f c') (fun cls d _ H => E cls d H) → RE (lamCx X A outer s H E scope f c') (fun cls d _ H => E cls d H) body m)
    (hdb : (x == ("__debug__" : Str)) = false := by decide) (hd : (a == ("__debug__" : Str)) = false := by decide) (hcd : (a == ("__classdict__" : Str)) = false := by decide) :
    RE X W (.Call (.Name x p) [.Lambda params body scope lpos] [] pos) (eTold T errs sub f m) :=
  (pe_lamcall hg hm hk lk hcg hb Sg hNg hva hG TB hcode hmT hu hr L hdef hbind (fun A outer s H E f c' hr2 => hbody A outer s H E f c' hr2 (takes_of rfl rfl rfl rfl)) hdb hd hcd).imp lam_imp
end
end SK
set_option maxHeartbeats 2000000
namespace SK
open PySem PySem.Spec PyProof.Rows L2 SKX LamX
/-! ### a promise that holds where nothing is being written as a text -/
structure FnG (P : Program) (w : World) (K : PySem.W.Frag) (mg : Str → Option Value) (base : Heap) (k : Nat) (f : Addr) (fd : FuncData) (ps : List Str) (sp : Sp) : Prop where
  len : ∀ vs H Q E, sp vs H Q E → vs.length = ps.length
  go : ∀ (A : Around) (outer : List Env) (s : Shared) (H : Hp) (args : Args) (us : List Value) (vs : List V) (Q : VK) (E : XK), A.guards = some [] → Room k A → Env0 P w K mg base A outer s H → BindsTo s fd args (ps.zip us) → Vals vs us → sp vs H Q E →
    codeAny (model P w) A (.call (.ref f) args) (CR (L2.CX P w) outer P w H s Q E) s
section
variable {P : Program} {w : World} {K : PySem.W.Frag} {mg : Str → Option Value} {base : Heap}
theorem FnG.of {k : Nat} {f : Addr} {fd : FuncData} {ps : List Str} {sp : Sp} (F : FnOk P w K mg base (L2.CX P w) k f fd ps sp) : FnG P w K mg base k f fd ps sp :=
  ⟨F.len, fun A outer s H args us vs Q E _ => F.run A outer s H args us vs Q E⟩
theorem run_body {x qual : Str} {sd : Stmt} {f : Addr} {kV doc pm cdv ct oc : Value} {an od : Option Addr} {osl : Array (Option Value)} {N ps : List Str} {k : Nat} {body : SM} (lk : K.lookup f = some ⟨oc, od, .func (PySem.W.fnOf x qual (defArgs sd) (defBody sd) (defScope sd) .none kV doc pm an cdv ct), osl⟩) (hcd : PySem.W.codeIn K cdv qual = true) (S : FnScope N ps (defScope sd))
    {A : Around} {outer : List Env} {s : Shared} {H : Hp} {args : Args} {us : List Value} {vs : List V} {Q : VK} {E : XK} (hr : Room (k + 1) A) (e0 : Env0 P w K mg base A outer s H) (hb : BindsTo s (PySem.W.fnOf x qual (defArgs sd) (defBody sd) (defScope sd) .none kV doc pm an cdv ct) args (ps.zip us)) (r : Vals vs us)
    (hsp : spF K mg ps.length (mkFn N.length body) vs H Q E)
    (hbody : Room k (A.deeper (envOfC qual (defScope sd) s.heap.objs.size f cdv)) → RSs (cxOf (L2.CX P w) P w K mg base N qual (defScope sd) f cdv A outer s H E) (fun cls d _ H => E cls d H) (defBody sd) body) :
    codeAny (model P w) A (.call (.ref f) args) (CR (L2.CX P w) outer P w H s Q E) s := by
  obtain ⟨ρ, oh, ds, hl, rh, rl, h⟩ := hsp
  refine run_ofS lk hcd S hr e0 hb r hl fun hr' => ⟨_, hbody hr', ρ, oh, ds.map some ++ List.replicate (N.length - ds.length) none, rh, ?_, ?_⟩
  · unfold L2.start
    rw [rl.length]
    exact reps_args (reps_start _) rl
  · unfold mkFn at h
    cases eb : body (ds.map some ++ List.replicate (N.length - ds.length) none) oh with
    | nx s1 oh1 =>
      rw [eb] at h
      exact fun ρ' H' σ' L rh' _ => h ρ' H' L rh' _ (by simp [Rep])
    | rt d oh1 =>
      rw [eb] at h
      exact fun ρ' H' v L rh' rv => h ρ' H' L rh' v rv
    | exc c w s1 oh1 =>
      rw [eb] at h
      exact fun ρ' H' σ' dd v C L rh' _ => h ρ' H' dd v C L rh'
    | bk => rw [eb] at h; exact h.elim
    | ct => rw [eb] at h; exact h.elim
    | bad => rw [eb] at h; exact h.elim
/-- as fn_ok, the code object known, nothing being written as a text -/
theorem fn_okG {x qual : Str} {sd : Stmt} {f : Addr} {kV doc pm cdv ct oc : Value} {an od : Option Addr} {osl : Array (Option Value)} {N ps : List Str} {k : Nat} {body : SM} (lk : K.lookup f = some ⟨oc, od, .func (PySem.W.fnOf x qual (defArgs sd) (defBody sd) (defScope sd) .none kV doc pm an cdv ct), osl⟩) (hcd : PySem.W.codeIn K cdv qual = true) (S : FnScope N ps (defScope sd))
    (hb : ∀ (A : Around) (outer : List Env) (s : Shared) (H : Hp) (E : XK), A.guards = some [] → Room k (A.deeper (envOfC qual (defScope sd) s.heap.objs.size f cdv)) →
      RSs (cxOf (L2.CX P w) P w K mg base N qual (defScope sd) f cdv A outer s H E) (fun cls d _ H => E cls d H) (defBody sd) body) :
    FnG P w K mg base (k + 1) f (PySem.W.fnOf x qual (defArgs sd) (defBody sd) (defScope sd) .none kV doc pm an cdv ct) ps (spF K mg ps.length (mkFn N.length body)) :=
  ⟨fun vs H Q E h => by obtain ⟨_, _, _, h, _⟩ := h; exact h, fun A outer s H args us vs Q E hg hr e0 hbi r h => run_body lk hcd S hr e0 hbi r h fun hr' => hb A outer s H E hg hr'⟩
/-- as fn_ok, the code object known -/
theorem fn_okA {x qual : Str} {sd : Stmt} {f : Addr} {kV doc pm cdv ct oc : Value} {an od : Option Addr} {osl : Array (Option Value)} {N ps : List Str} {k : Nat} {body : SM} (lk : K.lookup f = some ⟨oc, od, .func (PySem.W.fnOf x qual (defArgs sd) (defBody sd) (defScope sd) .none kV doc pm an cdv ct), osl⟩) (hcd : PySem.W.codeIn K cdv qual = true) (S : FnScope N ps (defScope sd))
    (hb : ∀ (A : Around) (outer : List Env) (s : Shared) (H : Hp) (E : XK), Room k (A.deeper (envOfC qual (defScope sd) s.heap.objs.size f cdv)) →
      RSs (cxOf (L2.CX P w) P w K mg base N qual (defScope sd) f cdv A outer s H E) (fun cls d _ H => E cls d H) (defBody sd) body) :
    FnOk P w K mg base (L2.CX P w) (k + 1) f (PySem.W.fnOf x qual (defArgs sd) (defBody sd) (defScope sd) .none kV doc pm an cdv ct) ps (spF K mg ps.length (mkFn N.length body)) :=
  ⟨fun vs H Q E h => by obtain ⟨_, _, _, h, _⟩ := h; exact h, fun A outer s H args us vs Q E hr e0 hbi r h => run_body lk hcd S hr e0 hbi r h fun hr' => hb A outer s H E hr'⟩
end
section
variable {X : Cx} {W : WX} {e : Expr} {es : List Expr} {ms : Ev → M (List D)} {pos : Pos}
theorem re_callG {k : Nat} {f : Addr} {fd : FuncData} {ps : List Str} {x : Str} {p : Pos} {g : Fn} (F : FnG X.prog X.w X.K X.mg X.base k f fd ps (spF X.K X.mg ps.length g)) (hgu : X.A.guards = some []) (hr : Room k X.A) (hm : X.mg x = some (.ref f)) (hk : PySem.W.keepIn X.K (.ref f) = true) (hb : Binds X.K fd ps []) (tk : Takes X W)
    (ha : RA X W (e :: es) ms) (hlen : ∀ s oh ds oh', ms s oh = .ok ds oh' → ds.length = ps.length) (hg : Gl X x := by rfl) (hdb : (x == ("__debug__" : Str)) = false := by decide) (he : starEach (e :: es) X.env = (false, eval e X.env) :: starEach es X.env := by rfl) (hpl : (backTo pos (starEach es X.env)).any (·.1) = false := by rfl) :
    RE X W (.Call (.Name x p) (e :: es) [] pos) (eCall g ms) := by
  refine ⟨fun pins s σ H Q I hh => ?_⟩
  obtain ⟨ρ, oh, sv, rh, rs, h⟩ := hh
  have h2 := Out.bnd h
  refine wpAny_Call_Name_kw (ld_glob I hg hm ?_ hdb)
  refine PySem.W.callWith_K (h₀ := X.base) I.ok.mod.kin hk (thn (ha.run pos pins s σ H (fun vs H1 => ∃ ρ1 oh1 ds, vs.length = ps.length ∧ RH X.K H1 ρ1 oh1 ∧ RepL X.K H1 ρ1 ds vs ∧ Out X.K X.mg (WE W σ) ρ1 H1 (g ds oh1) fun d _ ρ' H' => ∀ v, Rep X.K H' ρ' d v → Q v H') I ⟨ρ, oh, sv, rh, rs, ?_⟩) fun us s1 hh => ?_) he hpl
  · cases em : ms sv oh with
    | ok ds oh1 =>
      rw [em] at h2
      intro ρ1 H1 L1 rh1 vs rvs
      exact ⟨ρ1, oh1, ds, by rw [← rvs.length, hlen _ _ _ _ em], rh1, rvs, (h2 ρ1 H1 L1 rh1).2.2⟩
    | exc c w oh1 => rw [em] at h2; exact h2
    | bad => rw [em] at h2; exact h2
  · obtain ⟨vs, H1, I1, r1, ρ1, oh1, ds, hl, rh1, rvs, q⟩ := hh
    refine ⟨I1.kIn, ?_⟩
    have bnd : BindsTo s1 fd ⟨us, []⟩ (ps.zip us) := by
      have z := hb s1 us I1.kIn (by rw [List.append_nil, ← r1.length, hl])
      rw [List.append_nil] at z
      exact z
    refine wpAny_call (codeAny_mono (F.go X.A X.stack s1 H1 ⟨us, []⟩ us vs Q (WE W σ) hgu hr I1.env0 bnd r1 ⟨ρ1, oh1, ds, hl, rh1, rvs, q⟩) fun r s' hq => ?_)
    cases r with
    | error ev => exact passAt tk σ pins H1 s1 ev s' I1 hq
    | ok fl =>
      cases fl with
      | ret u => exact I1.after hq
      | next => exact False.elim hq
      | brk => exact False.elim hq
      | cont => exact False.elim hq
/-! ### repr -/
def reprOk (p : PyData) : Bool := p.showable && decide (p.shown.length ≤ sizeLine) && SeqAt.shaped p
def reprD (oh : OH) : D → Option Str
  | .int i => if i.natAbs.log2 < 1920 then some ((PyData.int i).shown) else none
  | .tup l => match toPy oh 50 (.tup l) with
    | some p => if reprOk p then some p.shown else none
    | none => none
  | .ref n => match toPy oh 50 (.ref n) with
    | some p => if reprOk p then some p.shown else none
    | none => none
  | _ => none
def bRepr : PL := fun ds oh => match ds with
  | [d] => (reprD oh d).map fun t => (.str t, oh)
  | _ => none
theorem c_repr_ref (hgu : X.A.guards = some []) (hu : X.A.units + 80 < cLine) {pins : List (Addr × Obj)} {s : Shared} {σ : L2.St} {H : Hp} {a : Addr} {us : List Value} {Q : VK} {ρ : List Addr} {oh : OH} {d : D} {p : PyData} (I : Inv X pins σ H s) (rv : Vals [.ref a] us) (rh : RH X.K H ρ oh) (r : Rep X.K H ρ d (.ref a))
    (ep : toPy oh 50 d = some p) (hk : reprOk p = true) (q : Q (.str p.shown) H) : wpAny (model X.prog X.w) X.A (call (.builtin "repr") us) (EP X pins σ Q) X.xe s := by
  obtain ⟨u, rfl, ru⟩ := Vals.one rv
  cases ru
  unfold reprOk at hk
  simp only [Bool.and_eq_true, decide_eq_true_eq] at hk
  obtain ⟨as, rd⟩ := Dp.reads I p (.ref a) (.ref a) (toPy_dp rh 50 d p _ ep r) rfl
  have hc := SeqAt.canLay_of_shaped hk.2
  have hd := SeqAt.depth_of_shaped hk.2
  refine repr_of_reads' rd hk.1.1 (PyData.noDict_hsm (PyData.hasDict_of_canLay p hc)) hgu (by omega) (fun _ _ z => z) (fun h' tk0 tk k' => ?_) hk.1.2
  exact ⟨.str p.shown, H, I.kept (t' := tk) k', ⟨_, rfl⟩, q⟩
theorem c_repr (hgu : X.A.guards = some []) (hu : X.A.units + 80 < cLine) : CallR X (.builtin "repr") (rPL X bRepr) := by
  intro pins s σ H xs us Q I rv ⟨ρ, oh, ds, rh, r, h⟩
  cases ds with
  | nil => exact h.elim
  | cons d ds =>
    cases ds with
    | cons _ _ => exact h.elim
    | nil =>
      obtain ⟨v, rfl, r1⟩ := r.one
      simp only [bRepr] at h
      cases d with
      | int i =>
        simp only [Rep] at r1
        subst r1
        simp only [reprD] at h
        split at h
        · rename_i hz
          refine SkE.call_repr_int pins s σ H _ us Q I rv ⟨i, rfl, hz, ?_⟩
          have q := OutP.here h rh (v := .str (PyData.int i).shown) (by simp [Rep])
          rw [PyData.shown_int] at q
          exact q
        · exact h.elim
      | tup l =>
        simp only [reprD] at h
        cases ep : toPy oh 50 (.tup l) with
        | none => rw [ep] at h; exact h.elim
        | some p =>
          rw [ep] at h
          dsimp only at h
          split at h
          · rename_i hk
            have r1' := r1
            simp only [Rep] at r1'
            obtain ⟨a, xs, rfl, _⟩ := r1'
            exact c_repr_ref hgu hu I rv rh r1 ep hk (OutP.here h rh (by simp [Rep]))
          · exact h.elim
      | ref n =>
        simp only [reprD] at h
        cases ep : toPy oh 50 (.ref n) with
        | none => rw [ep] at h; exact h.elim
        | some p =>
          rw [ep] at h
          dsimp only at h
          split at h
          · rename_i hk
            have r1' := r1
            simp only [Rep] at r1'
            obtain ⟨a, rfl, _⟩ := r1'
            exact c_repr_ref hgu hu I rv rh r1 ep hk (OutP.here h rh (by simp [Rep]))
          · exact h.elim
      | _ => exact h.elim
/-! ### slices -/
def cutD (xs : List D) (lo hi : Option Int) : List D := (xs.drop (HT.sIx xs.length 0 lo)).take (HT.sIx xs.length xs.length hi - HT.sIx xs.length 0 lo)
def partD : D → Option (Option Int)
  | .int i => some (some i)
  | .non => some none
  | _ => none
def oNone : Ev → M (Option Int) := fun _ oh => .ok none oh
def oSome (m : Ev → M D) : Ev → M (Option Int) := fun s oh => (m s oh).bnd fun d oh => match d with
  | .int i => .ok (some i) oh
  | _ => .bad
def tOD (X : Cx) (W : WX) (m : Ev → M (Option Int)) : TO := fun σ H Q => ∃ ρ oh s, RH X.K H ρ oh ∧ RepS X.K H ρ s σ ∧ Out X.K X.mg (fun c d H' => W c d σ H') ρ H (m s oh) fun i _ _ H' => Q i H'
end
end SK
namespace L2
theorem PO.imp {X : Cx} {e : Option PySem.Expr} {t t' : TO} (h : PO X e t) (f : ∀ σ H Q, t' σ H Q → t σ H Q) : PO X e t' := ⟨fun pins s σ H Q I q => h.run pins s σ H Q I (f _ _ _ q)⟩
end L2
namespace SK
open PySem PySem.Spec PyProof.Rows L2 SKX LamX
section
variable {X : Cx} {W : WX} {e : Expr} {ma : Ev → M D} {ml mu : Ev → M (Option Int)} {lo hi : Option Expr} {pos p2 : Pos}
theorem ro_none : PO X none (tOD X W oNone) := po_none.imp fun σ H Q ⟨ρ, oh, s, rh, rs, h⟩ => h ρ H .refl rh
theorem ro_some (h : RE X W e ma) : PO X (some e) (tOD X W (oSome ma)) := (po_some h).imp fun σ H Q ⟨ρ, oh, s, rh, rs, h⟩ => by
  refine ⟨ρ, oh, s, rh, rs, (Out.bnd h).imp fun d oh1 ρ1 H1 L1 rh1 ⟨_, _, h1⟩ v rv => ?_⟩
  cases d with
  | int i =>
    simp only [Rep] at rv
    subst rv
    exact ⟨i, rfl, h1 ρ1 H1 .refl rh1⟩
  | _ => exact h1.elim
def pSl (d : D) (lo hi : Option Int) (oh : OH) : Option (D × OH) := match d with
  | .ref n => (itemsOf oh (.ref n)).map fun l => (.ref oh.length, oh ++ [.lst (cutD l lo hi)])
  | .tup l => some (.tup (cutD l lo hi), oh)
  | _ => none
def eSl (m : Ev → M D) (ml mu : Ev → M (Option Int)) : Ev → M D := fun s oh => (m s oh).bnd fun d oh => (ml s oh).bnd fun lo oh => (mu s oh).bnd fun hi oh => lf (pSl d lo hi oh)
theorem cut_rep {K : PySem.W.Frag} {H : Hp} {ρ : List Addr} {l : List D} {xs : List V} (r : RepL K H ρ l xs) (lo hi : Option Int) : RepL K H ρ (cutD l lo hi) (cutV xs lo hi) := by
  unfold cutD cutV
  rw [← r.length]
  exact (r.drop _).take _
theorem re_sl (he : RE X W e ma) (hl : PO X lo (tOD X W ml)) (hu : PO X hi (tOD X W mu)) : RE X W (.Subscript e (.Slice lo hi none p2) pos) (eSl ma ml mu) := (pe_slice (sl_list.or sl_tupA) he hl hu).imp fun σ H Q ⟨ρ, oh, s, rh, rs, h⟩ => by
  refine ⟨ρ, oh, s, rh, rs, (Out.bnd h).imp fun d oh1 ρ1 H1 L1 rh1 ⟨_, _, h1⟩ v rv => ?_⟩
  refine ⟨ρ1, oh1, s, rh1, L1.reps rs, (Out.bnd h1).imp fun lo oh2 ρ2 H2 L2 rh2 ⟨_, _, h2⟩ => ?_⟩
  refine ⟨ρ2, oh2, s, rh2, (L1.trans L2).reps rs, (Out.bnd h2).imp fun hi oh3 ρ3 H3 L3 rh3 ⟨_, _, h3⟩ => ?_⟩
  have rv3 := (L2.trans L3).rep rv
  have h4 := OutP.of h3
  cases d with
  | ref n =>
    simp only [pSl] at h4
    cases el : itemsOf oh3 (.ref n) with
    | none => rw [el] at h4; exact h4.elim
    | some l =>
      rw [el] at h4
      obtain ⟨p, xs, rfl, hs, r⟩ := items_ref rh3 rv3 el
      exact .inl ⟨p, xs, rfl, hs, OutP.pushL h4 rh3 (cut_rep r lo hi)⟩
  | tup l =>
    simp only [Rep] at rv3
    obtain ⟨p, xs, rfl, hs, r⟩ := rv3
    refine .inr ⟨p, xs, rfl, hs, fun hw => ?_, fun hw q hq => ?_⟩
    · have e : cutV xs lo hi = xs := by
        unfold cutV
        rw [hw.1, hw.2, List.drop_zero, Nat.sub_zero, List.take_length]
      have c := cut_rep r lo hi
      rw [e] at c
      exact OutP.here h4 rh3 (by simp only [Rep]; exact ⟨p, xs, rfl, hs, c⟩)
    · exact OutP.tup h4 rh3 (cut_rep r lo hi) q hq
  | _ => exact h4.elim
end
end SK
set_option maxHeartbeats 2000000
namespace L2
open PySem PySem.Spec PyProof.Rows
theorem PK.imp {X : Cx} {e : List Keyword} {t t' : TA} (h : PK X e t) (f : ∀ σ H Q, t' σ H Q → t σ H Q) : PK X e t' := ⟨fun pos pins s σ H Q I q => h.run pos pins s σ H Q I (f _ _ _ q)⟩
end L2
namespace SK
open PySem PySem.Spec PyProof.Rows L2 SKX LamX
/-! ### calls, by what is known at the place -/
def RunAt (X : Cx) (f : Addr) (fd : FuncData) (ps : List Str) (g : Fn) : Prop := ∀ (s : Shared) (H : Hp) (args : Args) (us : List Value) (vs : List V) (Q : VK) (E : XK), Env0 X.prog X.w X.K X.mg X.base X.A X.stack s H → BindsTo s fd args (ps.zip us) → Vals vs us → spF X.K X.mg ps.length g vs H Q E →
  codeAny (model X.prog X.w) X.A (.call (.ref f) args) (CR (L2.CX X.prog X.w) X.stack X.prog X.w H s Q E) s
section
variable {X : Cx} {W : WX} {e : Expr} {es : List Expr} {ma : Ev → M D} {ms mk : Ev → M (List D)} {pos : Pos} {f : Addr} {fd : FuncData} {ps ks : List Str} {g : Fn} {x : Str} {p : Pos} {kws : List Keyword}
theorem RunAt.ok {k : Nat} (F : FnOk X.prog X.w X.K X.mg X.base (L2.CX X.prog X.w) k f fd ps (spF X.K X.mg ps.length g)) (hr : Room k X.A) : RunAt X f fd ps g := fun s H args us vs Q E e0 => F.run X.A X.stack s H args us vs Q E hr e0
theorem RunAt.gu {k : Nat} (F : FnG X.prog X.w X.K X.mg X.base k f fd ps (spF X.K X.mg ps.length g)) (hg : X.A.guards = some []) (hr : Room k X.A) : RunAt X f fd ps g := fun s H args us vs Q E e0 => F.go X.A X.stack s H args us vs Q E hg hr e0
def sel {α : Type} (ix : List Nat) (l : List α) : List α := ix.filterMap (l[·]?)
theorem sel_rep {K : PySem.W.Frag} {H : Hp} {ρ : List Addr} {ds : List D} {vs : List V} (r : RepL K H ρ ds vs) : ∀ ix : List Nat, RepL K H ρ (sel ix ds) (sel ix vs)
  | [] => by simp [sel, RepL]
  | i :: ix => by
    have ih := sel_rep r ix
    unfold sel at ih ⊢
    rw [List.filterMap_cons, List.filterMap_cons]
    cases e : ds[i]? with
    | some d =>
      obtain ⟨v, ev, rv⟩ := r.get e
      simp only [ev, RepL]
      exact ⟨v, _, rfl, rv, ih⟩
    | none =>
      have ev : vs[i]? = none := by
        rw [List.getElem?_eq_none_iff] at e ⊢
        rw [← r.length]; exact e
      simp only [ev]
      exact ih
theorem sel_vals {vs : List V} {us : List Value} (r : Vals vs us) : ∀ ix : List Nat, Vals (sel ix vs) (sel ix us)
  | [] => .nil
  | i :: ix => by
    have ih := sel_vals r ix
    unfold sel at ih ⊢
    rw [List.filterMap_cons, List.filterMap_cons]
    cases e : vs[i]? with
    | some d =>
      obtain ⟨v, ev, rv⟩ := r.get e
      simp only [ev]
      exact .cons rv ih
    | none => simp only [r.none_of e]; exact ih
theorem finish_call (R : RunAt X f fd ps g) (tk : Takes X W) {pins : List (Addr × Obj)} {s : Shared} {σ : L2.St} {H : Hp} {Q : VK} {args : List Value} {kw : List (Str × Value)} {us : List Value} {vs : List V} {ρ : List Addr} {oh : OH} {ds : List D} (I : Inv X pins σ H s) (bnd : BindsTo s fd ⟨args, kw⟩ (ps.zip us)) (r : Vals vs us)
    (hl : ds.length = ps.length) (rh : RH X.K H ρ oh) (rd : RepL X.K H ρ ds vs) (q : Out X.K X.mg (WE W σ) ρ H (g ds oh) fun d _ ρ' H' => ∀ v, Rep X.K H' ρ' d v → Q v H') :
    wpAny (model X.prog X.w) X.A (call (.ref f) args kw) (EP X pins σ Q) X.xe s := by
  refine wpAny_call (codeAny_mono (R s H ⟨args, kw⟩ us vs Q (WE W σ) I.env0 bnd r ⟨ρ, oh, ds, by rw [← rd.length, hl], rh, rd, q⟩) fun r s' hq => ?_)
  cases r with
  | error ev => exact passAt tk σ pins H s ev s' I hq
  | ok fl =>
    cases fl with
    | ret u => exact I.after hq
    | next => exact False.elim hq
    | brk => exact False.elim hq
    | cont => exact False.elim hq
def LenOk (m : Ev → M (List D)) (n : Nat) : Prop := ∀ (s : Ev) (oh : OH) (ds : List D) (oh' : OH), m s oh = .ok ds oh' → ds.length = n
theorem re_callR (R : RunAt X f fd ps g) (hm : X.mg x = some (.ref f)) (hk : PySem.W.keepIn X.K (.ref f) = true) (hb : Binds X.K fd ps []) (tk : Takes X W)
    (ha : RA X W (e :: es) ms) (hlen : LenOk ms ps.length) (hg : Gl X x := by rfl) (hdb : (x == ("__debug__" : Str)) = false := by decide) (he : starEach (e :: es) X.env = (false, eval e X.env) :: starEach es X.env := by rfl) (hpl : (backTo pos (starEach es X.env)).any (·.1) = false := by rfl) :
    RE X W (.Call (.Name x p) (e :: es) [] pos) (eCall g ms) := by
  refine ⟨fun pins s σ H Q I hh => ?_⟩
  obtain ⟨ρ, oh, sv, rh, rs, h⟩ := hh
  have h2 := Out.bnd h
  refine wpAny_Call_Name_kw (ld_glob I hg hm ?_ hdb)
  refine PySem.W.callWith_K (h₀ := X.base) I.ok.mod.kin hk (thn (ha.run pos pins s σ H (fun vs H1 => ∃ ρ1 oh1 ds, ds.length = ps.length ∧ RH X.K H1 ρ1 oh1 ∧ RepL X.K H1 ρ1 ds vs ∧ Out X.K X.mg (WE W σ) ρ1 H1 (g ds oh1) fun d _ ρ' H' => ∀ v, Rep X.K H' ρ' d v → Q v H') I ⟨ρ, oh, sv, rh, rs, ?_⟩) fun us s1 hh => ?_) he hpl
  · cases em : ms sv oh with
    | ok ds oh1 =>
      rw [em] at h2
      exact fun ρ1 H1 L1 rh1 vs rvs => ⟨ρ1, oh1, ds, hlen _ _ _ _ em, rh1, rvs, (h2 ρ1 H1 L1 rh1).2.2⟩
    | exc c w oh1 => rw [em] at h2; exact h2
    | bad => rw [em] at h2; exact h2
  · obtain ⟨vs, H1, I1, r1, ρ1, oh1, ds, hl, rh1, rvs, q⟩ := hh
    have z := hb s1 us I1.kIn (by rw [List.append_nil, ← r1.length, ← rvs.length, hl])
    rw [List.append_nil] at z
    exact ⟨I1.kIn, finish_call R tk I1 z r1 hl rh1 rvs q⟩
abbrev RK (X : Cx) (W : WX) (e : List Keyword) (m : Ev → M (List D)) : Prop := PK X e (tA X W m)
theorem rk_nil : RK X W [] aNil := pk_nil.imp fun σ H Q ⟨ρ, oh, s, rh, rs, h⟩ => h ρ H .refl rh [] (by simp [RepL])
theorem rk_cons {nm : Option Str} {kpos : Pos} (ha : RE X W e ma) (hr : RK X W kws ms) : RK X W (⟨nm, e, kpos⟩ :: kws) (aCons ma ms) := (pk_cons ha hr).imp fun σ H Q ⟨ρ, oh, s, rh, rs, h⟩ => by
  refine ⟨ρ, oh, s, rh, rs, (Out.bnd h).imp fun dx oh1 ρ1 H1 L1 rh1 ⟨_, _, h1⟩ v rv => ?_⟩
  refine ⟨ρ1, oh1, s, rh1, L1.reps rs, (Out.bnd h1).imp fun ds oh2 ρ2 H2 L2 rh2 ⟨_, _, h2⟩ vs rvs => ?_⟩
  exact h2 ρ2 H2 .refl rh2 (v :: vs) (by simp only [RepL]; exact ⟨v, vs, rfl, L2.rep rv, rvs⟩)
def eCallK0 (g : Fn) (ix : List Nat) (mk : Ev → M (List D)) : Ev → M D := fun s oh => (mk s oh).bnd fun zs oh => g (sel ix zs) oh
def eCallK (g : Fn) (ix : List Nat) (ms mk : Ev → M (List D)) : Ev → M D := fun s oh => (ms s oh).bnd fun ds oh => (mk s oh).bnd fun zs oh => g (sel ix (ds ++ zs)) oh
theorem sel_len {α : Type} {ix : List Nat} {l : List α} (h : ∀ i ∈ ix, i < l.length) : (sel ix l).length = ix.length := by
  induction ix with
  | nil => rfl
  | cons i ix ih =>
    have hi := h i List.mem_cons_self
    unfold sel at ih ⊢
    rw [List.filterMap_cons, List.getElem?_eq_getElem hi]
    simp only [List.length_cons]
    rw [ih fun j hj => h j (List.mem_cons_of_mem _ hj)]
/-- f(k = v, ..) -/
theorem re_callK0 {ix : List Nat} {n : Nat} (R : RunAt X f fd ps g) (hm : X.mg x = some (.ref f)) (hk : PySem.W.keepIn X.K (.ref f) = true) (tk : Takes X W) (hkw : RK X W kws mk) (hlen : LenOk mk n) (hix : ix.all (· < n) = true) (hip : ix.length = ps.length)
    (hb : ∀ (s : Shared) (ws : List Value), ws.length = n → BindsTo s fd ⟨[], ks.zip ws⟩ (ps.zip (sel ix ws)))
    (hall : (backToKw pos (keywordEach kws X.env)).all (·.1.isSome) = true := by rfl) (hks : (backToKw pos (keywordEach kws X.env)).filterMap (·.1) = ks := by rfl) (hg : Gl X x := by rfl) (hdb : (x == ("__debug__" : Str)) = false := by decide)
    (hpl : ((backTo pos (starEach [] X.env)).any (·.1) || (backToKw pos (keywordEach kws X.env)).any (·.1.isNone)) = false := by rfl) :
    RE X W (.Call (.Name x p) [] kws pos) (eCallK0 g ix mk) := by
  refine ⟨fun pins s σ H Q I hh => ?_⟩
  obtain ⟨ρ, oh, sv, rh, rs, h⟩ := hh
  have h2 := Out.bnd h
  refine wpAny_Call_Name_kw (ld_glob I hg hm ?_ hdb)
  refine PySem.W.callWith_KW0 (h₀ := X.base) I.ok.mod.kin hk hall (thn (hkw.run pos pins s σ H (fun vs H1 => ∃ ρ1 oh1 ds, ds.length = n ∧ RH X.K H1 ρ1 oh1 ∧ RepL X.K H1 ρ1 ds vs ∧ Out X.K X.mg (WE W σ) ρ1 H1 (g (sel ix ds) oh1) fun d _ ρ' H' => ∀ v, Rep X.K H' ρ' d v → Q v H') I ⟨ρ, oh, sv, rh, rs, ?_⟩) fun us s1 hh => ?_) hpl
  · cases em : mk sv oh with
    | ok ds oh1 =>
      rw [em] at h2
      exact fun ρ1 H1 L1 rh1 vs rvs => ⟨ρ1, oh1, ds, hlen _ _ _ _ em, rh1, rvs, (h2 ρ1 H1 L1 rh1).2.2⟩
    | exc c w oh1 => rw [em] at h2; exact h2
    | bad => rw [em] at h2; exact h2
  · obtain ⟨vs, H1, I1, r1, ρ1, oh1, ds, hl, rh1, rvs, q⟩ := hh
    refine ⟨I1.kIn, ?_⟩
    rw [hks]
    have hu : us.length = n := by rw [← r1.length, ← rvs.length, hl]
    have hlt : ∀ i ∈ ix, i < n := fun i hi => of_decide_eq_true (List.all_eq_true.mp hix i hi)
    exact finish_call R tk I1 (hb s1 us hu) (sel_vals r1 ix) (by rw [sel_len (by rw [hl]; exact hlt), hip]) rh1 (sel_rep rvs ix) q
/-- f(a, .., k = v, ..) -/
theorem re_callK {ix : List Nat} {n1 n : Nat} (R : RunAt X f fd ps g) (hm : X.mg x = some (.ref f)) (hk : PySem.W.keepIn X.K (.ref f) = true) (tk : Takes X W) (ha : RA X W (e :: es) ms) (hlen1 : LenOk ms n1) (hkw : RK X W kws mk) (hlen : LenOk mk n) (hix : ix.all (· < n1 + n) = true) (hip : ix.length = ps.length)
    (hb : ∀ (s : Shared) (us ws : List Value), us.length = n1 → ws.length = n → BindsTo s fd ⟨us, ks.zip ws⟩ (ps.zip (sel ix (us ++ ws))))
    (hall : (backToKw pos (keywordEach kws X.env)).all (·.1.isSome) = true := by rfl) (hks : (backToKw pos (keywordEach kws X.env)).filterMap (·.1) = ks := by rfl) (hg : Gl X x := by rfl) (hdb : (x == ("__debug__" : Str)) = false := by decide) (he : starEach (e :: es) X.env = (false, eval e X.env) :: starEach es X.env := by rfl)
    (hpl : ((backTo pos (starEach (e :: es) X.env)).any (·.1) || (backToKw pos (keywordEach kws X.env)).any (·.1.isNone)) = false := by rfl) :
    RE X W (.Call (.Name x p) (e :: es) kws pos) (eCallK g ix ms mk) := by
  refine ⟨fun pins s σ H Q I hh => ?_⟩
  obtain ⟨ρ, oh, sv, rh, rs, h⟩ := hh
  have h2 := Out.bnd h
  refine wpAny_Call_Name_kw (ld_glob I hg hm ?_ hdb)
  refine PySem.W.callWith_KW (h₀ := X.base) I.ok.mod.kin hk hall (thn (ha.run pos pins s σ H (fun vs H1 => ∃ ρ1 oh1 ds, ds.length = n1 ∧ RH X.K H1 ρ1 oh1 ∧ RepL X.K H1 ρ1 ds vs ∧ RepS X.K H1 ρ1 sv σ ∧ Out X.K X.mg (WE W σ) ρ1 H1 ((mk sv oh1).bnd fun zs oh => g (sel ix (ds ++ zs)) oh) fun d _ ρ' H' => ∀ v, Rep X.K H' ρ' d v → Q v H') I ⟨ρ, oh, sv, rh, rs, ?_⟩) fun us s1 hh => ?_) hpl he
  · cases em : ms sv oh with
    | ok ds oh1 =>
      rw [em] at h2
      exact fun ρ1 H1 L1 rh1 vs rvs => ⟨ρ1, oh1, ds, hlen1 _ _ _ _ em, rh1, rvs, L1.reps rs, (h2 ρ1 H1 L1 rh1).2.2⟩
    | exc c w oh1 => rw [em] at h2; exact h2
    | bad => rw [em] at h2; exact h2
  · obtain ⟨vs, H1, I1, r1, ρ1, oh1, ds, hl, rh1, rvs, rs1, q⟩ := hh
    have q2 := Out.bnd q
    refine thn (hkw.run pos pins s1 σ H1 (fun zs H2 => ∃ ρ2 oh2 es, es.length = n ∧ RH X.K H2 ρ2 oh2 ∧ RepL X.K H2 ρ2 ds vs ∧ RepL X.K H2 ρ2 es zs ∧ Out X.K X.mg (WE W σ) ρ2 H2 (g (sel ix (ds ++ es)) oh2) fun d _ ρ' H' => ∀ v, Rep X.K H' ρ' d v → Q v H') I1 ⟨ρ1, oh1, sv, rh1, rs1, ?_⟩) fun ws s2 hh => ?_
    · cases em : mk sv oh1 with
      | ok es oh2 =>
        rw [em] at q2
        exact fun ρ2 H2 L2 rh2 zs rz => ⟨ρ2, oh2, es, hlen _ _ _ _ em, rh2, L2.repl rvs, rz, (q2 ρ2 H2 L2 rh2).2.2⟩
      | exc c w oh2 => rw [em] at q2; exact q2
      | bad => rw [em] at q2; exact q2
    · obtain ⟨zs, H2, I2, r2, ρ2, oh2, es', hl2, rh2, rv2, rz, q3⟩ := hh
      refine ⟨I2.kIn, ?_⟩
      rw [hks]
      have hu : us.length = n1 := by rw [← r1.length, ← rvs.length, hl]
      have hw : ws.length = n := by rw [← r2.length, ← rz.length, hl2]
      have hlt : ∀ i ∈ ix, i < (ds ++ es').length := fun i hi => by rw [List.length_append, hl, hl2]; exact of_decide_eq_true (List.all_eq_true.mp hix i hi)
      exact finish_call R tk I2 (hb s2 us ws hu hw) (sel_vals (r1.append r2) ix) (by rw [sel_len hlt, hip]) rh2 (sel_rep (rv2.append rz) ix) q3
/-! ### xs.append(e) -/
def isLst (oh : OH) (n : Nat) : Bool := match oh[n]? with
  | some (.lst _) => true
  | _ => false
def pAppend (n : Nat) (ds : List D) (oh : OH) : Option (D × OH) := match ds with
  | [d] => match oh[n]? with
    | some (.lst l) => if l.length < sizeLine then some (.non, oh.set n (.lst (l ++ [d]))) else none
    | _ => none
  | _ => none
def eAppend (mo : Ev → M D) (ms : Ev → M (List D)) : Ev → M D := fun s oh => (mo s oh).bnd fun o oh => match o with
  | .ref n => if isLst oh n then (ms s oh).bnd fun ds oh => lf (pAppend n ds oh) else .bad
  | _ => .bad
end
end SK
set_option maxHeartbeats 2000000
namespace SK
open PySem PySem.Spec PyProof.Rows L2 SKX LamX
/-! ### the law at its call -/
/-- what is tracked at the law's entry: the script (where it is no object of the written part) and the tables -/
def entH (a : Addr) (on : Bool) (ob : Obj) (xs : List V) (ts : List Addr) : Hp := fun b => if b = a ∧ on = true then some (.frz ob (.lst xs)) else if b ∈ ts then some (.tbl #[]) else none
section
variable {a : Addr} {on : Bool} {ob : Obj} {xs : List V} {ts : List Addr}
theorem entH_a (h : on = true) : entH a on ob xs ts a = some (.frz ob (.lst xs)) := if_pos ⟨rfl, h⟩
theorem entH_t {b : Addr} (h : b ∈ ts) (n : b ≠ a) : entH a on ob xs ts b = some (.tbl #[]) := by
  unfold entH
  rw [if_neg (fun z => n z.1), if_pos h]
theorem entH_cases (b : Addr) : (b = a ∧ on = true ∧ entH a on ob xs ts b = some (.frz ob (.lst xs))) ∨ (b ∈ ts ∧ entH a on ob xs ts b = some (.tbl #[])) ∨ entH a on ob xs ts b = none := by
  unfold entH
  by_cases h : b = a ∧ on = true
  · exact .inl ⟨h.1, h.2, if_pos h⟩
  · by_cases h2 : b ∈ ts
    · exact .inr (.inl ⟨h2, by rw [if_neg h, if_pos h2]⟩)
    · exact .inr (.inr (by rw [if_neg h, if_neg h2]))
end
/-- the own heap behind the script at the law's entry -/
def entR (cs : List (Addr × Addr)) : List Addr := match cs with
  | [] => []
  | p :: _ => [p.2]
def entO (cs : List (Addr × Addr)) (qs : List Str) : OH := match cs with
  | [] => []
  | p :: r => [.tbls (((p :: r).map (·.2)).zip qs)]
theorem law_run {P : Program} {w : World} {K : PySem.W.Frag} {mg mb : Str → Option Value} {k : Nat} {fa a : Addr} {cs : List (Addr × Addr)} {fd : FuncData} {x : Str} {g : Fn} {s₁ : Shared} {vs : List Value} {ns : List Int}
    (KX : K.In s₁.heap) (hns : s₁.heap.Ns mainGlobals mg) (hb : s₁.heap.Ns builtinsNs mb) (hbb : ∀ x : Str, x ≠ "__name__" → mb x = bootBuiltins x) (hlim : s₁.heap.NoLimit) (hgen : s₁.gens = #[])
    (hT : ∀ p ∈ cs, s₁.heap.get? p.2 = some { cls := .none, data := .fields #[] }) (nT : ∀ p ∈ cs, K.lookup p.2 = none) (C : ∀ p ∈ cs, PySem.W.CodeHd s₁.heap p.1 p.2)
    (hbm : ∃ (bm : Addr) (ob : Obj), mg "__builtins__" = some (.ref bm) ∧ bm ≠ builtinsNs ∧ s₁.heap.get? bm = some ob ∧ ob.cls = .type "module" ∧ ob.dict = some builtinsNs ∧ ob.data = .plain)
    (ha : s₁.heap.get? a = some { cls := .type "list", data := .seq vs.toArray }) (hi : IntsAre vs ns) (hl : ns.length ≤ sizeLine) (hr : Room k callerA)
    (F : ∀ base : Heap, K.In base → base.Ns mainGlobals mg → (∀ p ∈ cs, TabB base mg p.1 p.2) → FnG P w K mg base k fa fd [x] (spF K mg 1 g)) (hbind : ∀ (s : Shared) (u : Value), BindsTo s fd ⟨[u], []⟩ [(x, u)])
    (qs : List Str) (hqs : qs.length = cs.length)
    (hg : ∃ oh', g [.ref 0] (.ro (ns.map D.int) :: entO cs qs) = .ok (.bl true) oh') :
    codeAny (model P w) callerA (.call (.ref fa) ⟨[.ref a], []⟩) (fun r s' => r = .ok (.ret (.bool true)) ∧ OldK s₁.heap s'.heap ∧ s'.os = s₁.os ∧ AllBare s'.gens) s₁ := by
  obtain ⟨on, hon⟩ : ∃ on : Bool, on = true ↔ K.lookup a = none := by
    cases K.lookup a with
    | none => exact ⟨true, by simp⟩
    | some o => exact ⟨false, by simp⟩
  have rv := vals_ints hi
  have ts_at : ∀ b, b ∈ cs.map (·.2) → ∃ p ∈ cs, p.2 = b := fun b h => by
    obtain ⟨p, h1, h2⟩ := List.mem_map.mp h
    exact ⟨p, h1, h2⟩
  have inTs : ∀ p ∈ cs, p.2 ∈ cs.map (·.2) := fun p h => List.mem_map.mpr ⟨p, h, rfl⟩
  have tObj : ∀ b, b ∈ cs.map (·.2) → s₁.heap.get? b = some { cls := .none, data := .fields #[] } := fun b h => by
    obtain ⟨p, h1, rfl⟩ := ts_at b h
    exact hT p h1
  have a_no : a ∉ cs.map (·.2) := fun h => by
    have z := (tObj a h).symm.trans ha
    have z2 : Data.fields #[] = Data.seq vs.toArray _ := congrArg Obj.data (Option.some.inj z)
    cases z2
  generalize hH : entH a on { cls := .type "list", data := .seq vs.toArray } (ns.map V.int) (cs.map (·.2)) = H
  have Hc : ∀ b, (b = a ∧ on = true ∧ H b = some (.frz { cls := .type "list", data := .seq vs.toArray } (.lst (ns.map V.int)))) ∨ (b ∈ cs.map (·.2) ∧ H b = some (.tbl #[])) ∨ H b = none := fun b => by
    rw [← hH]
    exact entH_cases b
  have Ht : ∀ p ∈ cs, H p.2 = some (.tbl #[]) := fun p h => by
    rw [← hH]
    exact entH_t (inTs p h) fun z => a_no (z ▸ inTs p h)
  have hok : HOk P w H s₁.heap := fun b u e => by
    rcases Hc b with ⟨rfl, _, q⟩ | ⟨h, q⟩ | q
    · rw [q] at e
      cases e
      exact ⟨ha, by rw [List.length_map]; exact hl, vs, _, rv, ha⟩
    · rw [q] at e
      cases e
      exact tObj b h
    · rw [q] at e
      cases e
  -- an object that is neither a list nor a table is not tracked
  have free : ∀ {b : Addr} {o : Obj}, s₁.heap.get? b = some o → (∀ us n, o.data ≠ .seq us n) → o.data ≠ .fields #[] → H b = none := fun {b o} e n1 n2 => by
    rcases Hc b with ⟨rfl, _, _⟩ | ⟨h, _⟩ | q
    · rw [ha] at e
      cases e
      exact absurd rfl (n1 _ _)
    · rw [tObj b h] at e
      cases e
      exact absurd rfl n2
    · exact q
  have below : ∀ {b : Addr} {o : Obj}, s₁.heap.get? b = some o → H b = none → (hidT s₁.heap H).get? b = some o := fun e n => hidT_get e n
  have belowNs : ∀ {b : Addr} {m : Str → Option Value}, s₁.heap.Ns b m → (hidT s₁.heap H).Ns b m := fun {b m} ⟨o, es, ep, e, d, r⟩ =>
    ⟨o, es, ep, below e (free e (fun us n z => by rw [d] at z; cases z) fun z => by rw [d] at z; cases z), d, r⟩
  have KB : K.In (hidT s₁.heap H) := fun b o e => below (KX b o e) (by
    rcases Hc b with ⟨rfl, ho, _⟩ | ⟨h, _⟩ | q
    · rw [hon.mp ho] at e
      cases e
    · obtain ⟨p, h1, rfl⟩ := ts_at b h
      rw [nT p h1] at e
      cases e
    · exact q)
  have MB : L2.Mod K mg (hidT s₁.heap H) := ⟨KB, belowNs hns, ⟨mb, belowNs hb, hbb⟩, let ⟨mc, h1, h2⟩ := hlim; ⟨mc, belowNs h1, h2⟩⟩
  have TBs : ∀ p ∈ cs, TabB (hidT s₁.heap H) mg p.1 p.2 := fun p hp => by
    have hTp := hT p hp
    constructor
    · obtain ⟨o, us, file, tf, flags, tg, inF, text, tt, e1, r1, r2, r3, r4, r5, r6, r7, r8, hne⟩ := C p hp
      exact ⟨o, us, file, tf, flags, tg, inF, text, tt, below e1 (free e1 (fun us n z => by rw [r2] at z; cases z) fun z => by
        rw [r2] at z
        cases z
        simp at r3), r1, r2, r3, r4, r5, r6, r7, r8, hne⟩
    · obtain ⟨bm, ob, b1, b2, b3, b4, b5, b6⟩ := hbm
      refine ⟨bm, ob, b1, b2, fun z => ?_, fun z => ?_, below b3 (free b3 (fun us n y => by rw [b6] at y; cases y) fun y => by rw [b6] at y; cases y), b4, b5, b6⟩
      · obtain ⟨o, es, ep, e, hd, _⟩ := hns
        rw [z, e] at b3
        cases b3
        rw [hd] at b6
        cases b6
      · rw [z, hTp] at b3
        cases b3
        cases b6
    · intro z
      obtain ⟨o, es, ep, e, hd, _⟩ := hns
      rw [z, hTp] at e
      cases e
      cases hd
  have e0 : Env0 P w K mg (hidT s₁.heap H) callerA [] s₁ H := ⟨rfl, MB, fun b o e => of_hidT e, Nat.le_of_eq (hidT_size _ _), trivial, fun b hb => absurd (show b ∈ ([] : List Addr) from hb) (by simp), hok, .of_eq hgen⟩
  -- the own cells: the script, the tables
  have rints : ∀ (ρ : List Addr) (ns : List Int), RepL K H ρ (ns.map D.int) (ns.map V.int) := fun ρ ns => by
    induction ns with
    | nil => simp [RepL]
    | cons n r ih =>
      show RepL K H ρ (.int n :: r.map D.int) (.int n :: r.map V.int)
      simp only [RepL, Rep]
      exact ⟨_, _, rfl, rfl, ih⟩
  have rsc : ∀ (ρ : List Addr) (c : Cell) (b : Addr), (.ro (ns.map D.int) : Cell) = c → a = b → RepC K H ρ c b := fun ρ c b e1 e2 => by
    subst e1; subst e2
    refine ⟨ns.map V.int, ?_, rints ρ ns⟩
    cases hk : K.lookup a with
    | none =>
      refine .inl ⟨{ cls := .type "list", data := .seq vs.toArray }, ?_⟩
      rw [← hH]
      exact entH_a (hon.mpr hk)
    | some o =>
      have e := KX a o hk
      rw [ha] at e
      cases e
      exact .inr ⟨_, vs.toArray, _, hk, rfl, rfl, rfl, by rw [List.size_toArray, hi.length]; exact hl, by simpa using rv⟩
  have rh : RH K H (a :: entR cs) (.ro (ns.map D.int) :: entO cs qs) := by
    cases hcs : cs with
    | nil =>
      refine ⟨rfl, fun m n b l l' e1 e2 e3 e4 => ?_, fun n c b e1 e2 => ?_, fun T e => ?_, fun n T e => ?_⟩
      · match m, e1 with
        | 0, e1 => cases e1
        | m + 1, e1 => simp [entO] at e1
      · match n, e1, e2 with
        | 0, e1, e2 => exact rsc _ c b (Option.some.inj e1) (Option.some.inj e2)
        | n + 1, e1, _ => simp [entO] at e1
      · simp [entO] at e
      · match n, e with
        | 0, e => cases e
        | n + 1, e => simp [entO] at e
    | cons p0 cs' =>
      have hp0 : p0 ∈ cs := by rw [hcs]; exact List.mem_cons_self
      have hqs' : qs.length = (p0 :: cs').length := by rw [← hcs]; exact hqs
      show RH K H [a, p0.2] [.ro (ns.map D.int), .tbls (((p0 :: cs').map (·.2)).zip qs)]
      refine ⟨rfl, fun m n b l l' e1 e2 e3 e4 => ?_, fun n c b e1 e2 => ?_, fun T e => ?_, fun n T e => ?_⟩
      · match m, e1 with
        | 0, e1 => cases e1
        | 1, e1 => cases e1
        | m + 2, e1 => simp at e1
      · match n, e1, e2 with
        | 0, e1, e2 => exact rsc _ c b (Option.some.inj e1) (Option.some.inj e2)
        | 1, e1, e2 =>
          cases e1
          cases e2
          refine ⟨⟨_, Ht p0 hp0⟩, ?_⟩
          cases qs with
          | nil => simp at hqs'
          | cons q0 qs' => exact ⟨(p0.2, q0), List.mem_cons_self, rfl⟩
        | n + 2, e1, _ => simp at e1
      · have e : Cell.tbls (((p0 :: cs').map (·.2)).zip qs) = .tbls T := Option.some.inj e
        cases e
        intro q hq
        have hq1 := (List.of_mem_zip hq).1
        rw [← hcs] at hq1
        obtain ⟨p, h1, h2⟩ := ts_at _ hq1
        exact TabS.nil (by rw [← h2]; exact Ht p h1)
      · match n, e with
        | 0, e => cases e
        | 1, _ => rfl
        | n + 2, e => simp at e
  obtain ⟨oh', eg⟩ := hg
  refine codeAny_mono ((F _ KB (belowNs hns) TBs).go callerA [] s₁ H ⟨[.ref a], []⟩ [.ref a] [.ref a] (fun v _ => v = .bl true) (fun _ _ _ => False) rfl hr e0 (hbind s₁ (.ref a)) (.cons rfl .nil) ⟨a :: entR cs, _, [.ref 0], rfl, rh, ?_, ?_⟩) fun r s' h => ?_
  · simp only [RepL, Rep]
    exact ⟨.ref a, [], rfl, ⟨a, rfl, rfl⟩, rfl⟩
  · unfold OutF
    rw [eg]
    intro ρ' H' _ _ v rv
    simpa only [Rep] using rv
  cases r with
  | error e =>
    obtain ⟨_, _, _, _, _, _, _, _, _, _, _, _, z⟩ := (show L2.CX P w [] H s₁ (fun _ _ _ => False) e s' from h)
    exact z.elim
  | ok fl =>
    cases fl with
    | next => exact False.elim h
    | brk => exact False.elim h
    | cont => exact False.elim h
    | ret u =>
      obtain ⟨v, H', os, bare, un, hok', r', q⟩ := h
      have q : v = .bl true := q
      subst q
      obtain rfl : u = Value.bool true := r'
      have stands : ∀ b o, b ∉ cs.map (·.2) → s₁.heap.get? b = some o → s'.heap.get? b = some o := fun b o nb e => by
        rcases Hc b with ⟨rfl, _, z⟩ | ⟨z, _⟩ | z
        · obtain ⟨e2, _⟩ := hok' b _ (un.frzs b _ _ z)
          rw [ha] at e
          cases e
          exact e2
        · exact absurd z nb
        · exact un.keep b o e z (fun y => absurd (show b ∈ ([] : List Addr) from y) (by simp)) (by simp)
      have grew : ∀ p ∈ cs, ∃ more : Array Value, s'.heap.get? p.2 = some { cls := .none, data := .fields more } := fun p hp => by
        obtain ⟨more, z⟩ := un.tbls p.2 #[] (Ht p hp)
        exact ⟨_, hok' p.2 _ z⟩
      refine ⟨rfl, ⟨fun b o e => ?_, fun b o e => ?_⟩, os, bare⟩
      · by_cases hm : b ∈ cs.map (·.2)
        · obtain ⟨p, hp, rfl⟩ := ts_at b hm
          obtain ⟨more, z⟩ := grew p hp
          rw [hT p hp] at e
          cases e
          exact .inr (.inl ⟨((C p hp).tab (hT p hp)).isCodeTable, rfl, #[], more, rfl, by rw [Array.empty_append]; exact z⟩)
        · exact .inl (stands b o hm e)
      · by_cases hm : b ∈ cs.map (·.2)
        · obtain ⟨p, hp, rfl⟩ := ts_at b hm
          obtain ⟨more, z⟩ := grew p hp
          exact ⟨_, z⟩
        · exact ⟨o, stands b o hm e⟩
/-- what is known of the law at the head's heap -/
def LawG (l : PySem.W.OpenLaw) (w : World) (K : PySem.W.Frag) (k n : Nat) (x : Str) (mg : Str → Option Value) (fa : Addr) (h : Heap) : Prop :=
  ∃ (fd : FuncData) (cs : List (Addr × Addr)) (qs : List Str) (g : Fn), qs.length = cs.length ∧ (∀ p ∈ cs, h.get? p.2 = some { cls := .none, data := .fields #[] }) ∧ (∀ p ∈ cs, K.lookup p.2 = none) ∧ (∀ p ∈ cs, PySem.W.CodeHd h p.1 p.2) ∧ (∀ (s : Shared) (u : Value), BindsTo s fd ⟨[u], []⟩ [(x, u)]) ∧
    (∀ ns : List Int, ns.length ≤ n → (∀ z ∈ ns, Builtin.Int.intBits z ≤ 1048576) → ∃ oh', g [.ref 0] (.ro (ns.map D.int) :: entO cs qs) = .ok (.bl true) oh') ∧
    ∀ base : Heap, K.In base → base.Ns mainGlobals mg → (∀ p ∈ cs, TabB base mg p.1 p.2) → FnG l.prog w K mg base k fa fd [x] (spF K mg 1 g)
/-- the table of the def that stands at fa is empty, its code object is as it should be -/
def OwnT (K : PySem.W.Frag) (fa : Addr) (h : Heap) : Prop := ∀ (c P : Addr) (o : Obj) (fd : FuncData) (e : Value) (dd : Option Addr) (vs : Array Value) (sl : Array (Option Value)), K.lookup fa = some o → o.data = .func fd → fd.code = .ref c → K.lookup c = some ⟨e, dd, .fields vs, sl⟩ → vs[11]? = some (.ref P) →
  h.get? P = some { cls := .none, data := .fields #[] } ∧ PySem.W.CodeHd h c P
theorem walk_law {l : PySem.W.OpenLaw} {n k : Nat} {q : Program} {loose : List Str} {XP : (Str → Option Value) → Heap → Prop} {YP : World → Heap → Prop} {d : DefRec} {K : Params → PySem.W.Frag} {x : Str}
    (hn : l.most = some n) (hn2 : n ≤ sizeLine) (hdf : d.params.defaults = []) (hr : Room k callerA) (hY : ∀ (w : World) (h : Heap), YP w h → (K w.params).In h)
    (F : ∀ (w : World) (mg : Str → Option Value) (fa : Addr) (h : Heap), YP w h → (K w.params).In h → h.Ns mainGlobals mg → mg d.name = some (.ref fa) → (∀ nm fb, ((recsOf q).any fun e => e.name == nm) = true → mg nm = some (.ref fb) → OwnT (K w.params) fb h) → LawG l w (K w.params) k n x mg fa h) :
    PySem.W.WalkO q loose XP YP l.row.toRowW d [] (fun f vs => PySem.call f vs) := by
  refine Att.attach_callB hn hdf fun w s₀ s₁ mg mb fa o pm cd doc a vs ns G Y ho hd hcd hmg hobj hints hlen hbits hg => ?_
  have KX := hY w _ Y
  have own : ∀ nm fb, ((recsOf q).any fun e => e.name == nm) = true → mg nm = some (.ref fb) → OwnT (K w.params) fb s₁.heap := fun nm fb hrec hfb c P o1 fd1 e dd vs1 sl k1 k2 k3 k4 k5 => by
    obtain ⟨dR, hmem, hnm⟩ := List.any_eq_true.mp hrec
    have hnm : dR.name = nm := beq_iff_eq.mp hnm
    obtain ⟨x1, x2, x3, x4, x5, y1, y2, y3, y4, y5, y6⟩ := G.T.tab dR hmem
    rw [hnm, hfb] at y1
    cases y1
    rw [KX _ _ k1] at y2
    cases y2
    rw [k2] at y3
    cases y3
    rw [k3] at y4
    cases y4
    have hd5 := PySem.W.CodeHd.of y5 y6
    obtain ⟨⟨oc, vc, z1, _, z3, z4⟩, hP⟩ := y6
    rw [KX _ _ k4] at z1
    cases z1
    cases z3
    rw [k5] at z4
    cases z4
    exact ⟨hP, hd5⟩
  obtain ⟨fd, cs, qs, g, hqs, hT, nT, C, hbi, hsp, hF⟩ := F w mg fa _ Y KX G.T.g hmg own
  exact law_run KX G.T.g G.T.b G.T.builtins G.T.nolimit hg hT nT C G.T.bmain hobj hints (Nat.le_trans hlen hn2) hr hF hbi qs hqs (hsp ns hlen hbits)
end SK
set_option maxHeartbeats 2000000
namespace SK
open PySem PySem.Spec PyProof.Rows L2 SKX LamX
theorem boot_len_ : bootBuiltins "len" = some (.builtin "len") := by kernel_rfl
theorem boot_max_ : bootBuiltins "max" = some (.builtin "max") := by kernel_rfl
theorem boot_min_ : bootBuiltins "min" = some (.builtin "min") := by kernel_rfl
theorem boot_abs_ : bootBuiltins "abs" = some (.builtin "abs") := by kernel_rfl
theorem boot_sum_ : bootBuiltins "sum" = some (.builtin "sum") := by kernel_rfl
theorem boot_any_ : bootBuiltins "any" = some (.builtin "any") := by kernel_rfl
theorem boot_all_ : bootBuiltins "all" = some (.builtin "all") := by kernel_rfl
theorem boot_repr_ : bootBuiltins "repr" = some (.builtin "repr") := by kernel_rfl
theorem boot_int_ : bootBuiltins "int" = some (.type "int") := by kernel_rfl
theorem boot_tuple_ : bootBuiltins "tuple" = some (.type "tuple") := by kernel_rfl
theorem boot_list_ : bootBuiltins "list" = some (.type "list") := by kernel_rfl
theorem u80 {k : Nat} {A : Around} (hr : Room k A) : A.units + 80 < cLine := by have := hr.un; omega
section
variable {X : Cx} {W : WX} {e b c : Expr} {es : List Expr} {ma mb : Ev → M D} {ms : Ev → M (List D)} {pos : Pos}
theorem rv (i : Nat) {x : Str} {pos : Pos} (hN : X.N[i]? = some x := by rfl) (hv : Vis X.env.scope x := by first | exact .inl rfl | exact .inr (.inl rfl) | exact .inr (.inr rfl)) (hd : (x == ("__debug__" : Str)) = false := by decide) (hcd : (x == ("__classdict__" : Str)) = false := by decide) : RE X W (.Name x pos) (eVar i) := re_var hN hv hd hcd
/-- gcd, by its name -/
theorem re_gcd {x : Str} {p : Pos} (hm : X.mg x = some (.builtin "math.gcd")) (ha : RA X W (e :: es) ms) (hg : Gl X x := by rfl) (hdb : (x == ("__debug__" : Str)) = false := by decide)
    (he : starEach (e :: es) X.env = (false, eval e X.env) :: starEach es X.env := by rfl) (hpl : (backTo pos (starEach es X.env)).any (·.1) = false := by rfl) : RE X W (.Call (.Name x p) (e :: es) [] pos) (eCB bGcd ms) := by
  refine ⟨fun pins s σ H Q I hh => ?_⟩
  obtain ⟨ρ, oh, sv, rh, rs, h⟩ := hh
  refine wpAny_Call_Name_kw (ld_glob I hg hm ?_ hdb)
  refine PyProof.Rows.callWith_builtin1 (thn (ha.run pos pins s σ H (fun vs H1 => rPL X bGcd vs H1 Q) I ⟨ρ, oh, sv, rh, rs, (Out.bnd h).imp fun ds oh1 ρ1 H1 L1 rh1 ⟨_, _, h1⟩ vs rvs => ⟨ρ1, oh1, ds, rh1, rvs, .of h1⟩⟩) fun us s1 ⟨vs, H1, I1, r1, q1⟩ => c_gcd pins s1 σ H1 vs us Q I1 r1 q1) he hpl
theorem re_append {o : Expr} {mo : Ev → M D} {apos cpos : Pos} (ho : RE X W o mo) (ha : RA X W [e] ms)
    (hbase : attributeBase o "append" X.env (eval o X.env) = eval o X.env := by rfl)
    (hfew : ((backTo cpos (starEach [e] X.env)).all (fun x => !x.1) && (backToKw cpos (keywordEach [] X.env)).all (fun x => x.1.isSome)
      && decide ([e].length + ([] : List Keyword).length + (if ([] : List Keyword).isEmpty then 0 else 1) < 30)) = true := by rfl)
    (hline : (apos.endLine == cpos.line) = true := by rfl) (hs : starEach [e] X.env = (false, eval e X.env) :: starEach [] X.env := by rfl) (hplain : (backTo cpos (starEach [] X.env)).any (·.1) = false := by rfl) :
    RE X W (.Call (.Attribute o "append" apos) [e] [] cpos) (eAppend mo ms) := (pe_bm PySem.F.plainAttrs_list PySem.F.slot_list_append PySem.F.type_list_append mt_append ho ha hbase hfew hline hs hplain).imp fun σ H Q ⟨ρ, oh, s, rh, rs, h⟩ => by
  refine ⟨ρ, oh, s, rh, rs, (Out.bnd h).imp fun o' oh1 ρ1 H1 L1 rh1 ⟨_, _, h1⟩ v rv => ?_⟩
  cases o' with
  | ref n =>
    simp only [Rep] at rv
    obtain ⟨a, rfl, ga⟩ := rv
    dsimp only at h1
    split at h1
    · rename_i hl
      unfold isLst at hl
      split at hl
      · rename_i l el
        obtain ⟨xs, hx, q⟩ := rh1.cell _ _ a el ga
        refine ⟨.inl ⟨rfl, xs, SqL.of hx⟩, ρ1, oh1, s, rh1, L1.reps rs, (Out.bnd h1).imp fun ds oh2 ρ2 H2 L2 rh2 ⟨_, _, h2⟩ vs rvs => ?_⟩
        have h3 := OutP.of h2
        have ga2 := pre_get L2.pre ga
        unfold pAppend at h3
        split at h3
        · obtain ⟨y, rfl, ry⟩ := rvs.one
          split at h3
          · rename_i l2 el2
            obtain ⟨ys, hy, q2⟩ := rh2.cell _ _ a el2 ga2
            split at h3
            · rename_i hz
              obtain ⟨rh3, L3⟩ := rh2.write (l := l2 ++ [_]) (xs := ys ++ [y]) el2 ga2 hy (q2.append (by simp only [RepL]; exact ⟨y, [], rfl, ry, rfl⟩))
              exact ⟨a, ys, y, rfl, rfl, hy, by rw [← q2.length]; exact hz, h3 ρ2 _ .non L3 rh3 (by simp [Rep])⟩
            · exact h3.elim
          · exact h3.elim
        · exact h3.elim
      · cases hl
    · exact h1.elim
  | _ => exact h1.elim
end
end SK
set_option maxHeartbeats 2000000
namespace SK
open PySem PySem.Spec PyProof.Rows L2 SKX LamX
/-! ### isinstance with a built-in type -/
def tyD (oh : OH) : D → Option String
  | .non => some "NoneType"
  | .bl _ => some "bool"
  | .int _ => some "int"
  | .str _ => some "str"
  | .tup _ => some "tuple"
  | .ref n => match oh[n]? with
    | some (.lst _) => some "list"
    | some (.ro _) => some "list"
    | _ => none
  | .adr _ => none
def isD (oh : OH) (T : String) (d : D) : Option Bool := (tyD oh d).bind fun t => kitB t T
def eIsB (T : String) (m : Ev → M D) : Ev → M D := fun s oh => (m s oh).bnd fun d oh => match isD oh T d with
  | some b => .ok (.bl b) oh
  | none => .bad
theorem tyD_ty {K : PySem.W.Frag} {H : Hp} {ρ : List Addr} {oh : OH} {d : D} {v : V} {t : String} (rh : RH K H ρ oh) (r : Rep K H ρ d v) (e : tyD oh d = some t) : TyX K H v (.type t) := by
  cases d with
  | non => cases e; simp only [Rep] at r; subst r; exact .base .non
  | bl b => cases e; simp only [Rep] at r; subst r; exact .base (.bl b)
  | int b => cases e; simp only [Rep] at r; subst r; exact .base (.int b)
  | str b => cases e; simp only [Rep] at r; subst r; exact .base (.str b)
  | tup l =>
    cases e
    simp only [Rep] at r
    obtain ⟨a, xs, rfl, hs, _⟩ := r
    rcases hs with (h | ⟨o, h⟩) | ⟨o, _, _, h1, h2, _⟩
    · exact .base (.tup h)
    · exact .fTuple h
    · exact .kTuple h1 h2
  | ref n =>
    simp only [Rep] at r
    obtain ⟨a, rfl, ga⟩ := r
    simp only [tyD] at e
    split at e
    · rename_i l el
      cases e
      obtain ⟨xs, hx, _⟩ := rh.cell _ _ a el ga
      exact .base (.lst hx)
    · rename_i l el
      cases e
      obtain ⟨xs, hx, _⟩ := rh.cell _ _ a el ga
      rcases hx with ⟨o, h⟩ | ⟨o, _, _, h1, h2, _⟩
      · exact .base (.frz h)
      · exact .kList h1 h2
    · cases e
  | adr a => cases e
section
variable {X : Cx} {W : WX} {e : Expr} {m : Ev → M D} {pos p pT : Pos}
theorem re_isB {T : String} {x : Str} (he : RE X W e m) (hm : X.mg "isinstance" = none) (hmT : X.mg x = none) (hvT : bootBuiltins x = some (.type T)) (hv : bootBuiltins "isinstance" = some (.builtin "isinstance")) (hg : Gl X "isinstance" := by rfl) (hgT : Gl X x := by rfl) (hn : x ≠ "__name__" := by decide) (hdb : (x == ("__debug__" : Str)) = false := by decide)
    (hs : starEach [e, .Name x pT] X.env = (false, eval e X.env) :: starEach [.Name x pT] X.env := by rfl) (hs2 : starEach [.Name x pT] X.env = (false, eval (.Name x pT) X.env) :: starEach [] X.env := by rfl) (hpl : (backTo pos (starEach [.Name x pT] X.env)).any (·.1) = false := by rfl) :
    RE X W (.Call (.Name "isinstance" p) [e, .Name x pT] [] pos) (eIsB T m) := (pe_callB call_isi hg hm hv (pa_cons he (pa_cons (pe_bltn (v := .ty T) hgT hmT hvT rfl hn hdb) pa_nil hs2) hs) (by decide) (by decide) hs hpl).imp fun σ H Q ⟨ρ, oh, s, rh, rs, h⟩ => by
  refine ⟨ρ, oh, s, rh, rs, (Out.bnd h).imp fun d oh1 ρ1 H1 L1 rh1 ⟨_, _, h1⟩ v rv => ?_⟩
  cases ei : isD oh1 T d with
  | none => rw [ei] at h1; exact h1.elim
  | some b =>
    rw [ei] at h1
    unfold isD at ei
    cases et : tyD oh1 d with
    | none => rw [et] at ei; cases ei
    | some t =>
      rw [et] at ei
      exact ⟨v, .ty T, .type t, .type T, b, rfl, .ty T, tyD_ty rh1 rv et, kit_ty ei, h1 ρ1 H1 .refl rh1 _ (by simp [Rep])⟩
end
theorem boot_isinstance_ : bootBuiltins "isinstance" = some (.builtin "isinstance") := by kernel_rfl
theorem boot_bool_ : bootBuiltins "bool" = some (.type "bool") := by kernel_rfl
theorem boot_str_ : bootBuiltins "str" = some (.type "str") := by kernel_rfl
end SK
set_option maxHeartbeats 2000000
namespace L2
open PySem PySem.Spec PyProof.Rows
/-! ### several except clauses, each with a name or without -/
/-- the ends of a suite whose clause bound slot i: the name is gone behind it -/
def goneE (i : Nat) (D : Ends) : Ends := { nx := fun τ G => D.nx (τ.set i none) G, rt := D.rt, bk := fun τ G => D.bk (τ.set i none) G, ct := fun τ G => D.ct (τ.set i none) G }
abbrev Clause := Value × Option Nat × (Addr → Value → Option Addr → TS)
def wish1 (q : Option Nat) (ts : Addr → Value → Option Addr → TS) (D : Ends) (cls : Value) (d : Option Addr) (τ : St) (G : Hp) (z : Addr) : Prop := match q with
  | none => ts z cls d D τ G
  | some i => ts z cls d (goneE i D) (τ.set i (some (.ref z))) G
def wNamed (K : PySem.W.Frag) (Wo : WX) (D : Ends) : List Clause → WX
  | [] => Wo
  | (c, q, ts) :: r => fun cls d τ G => ∃ y, PySem.W.exmOne K cls c = some y ∧ (y = true → ∀ z, G z = none → wish1 q ts D cls d τ G z) ∧ (y = false → wNamed K Wo D r cls d τ G)
inductive HdsN (X : Cx) : List ExceptHandler → List Clause → Prop
  | nil : HdsN X [] []
  | bare {x : Str} {c : Value} {ts : Addr → Value → Option Addr → TS} {b1 : Stmt} {su : List Stmt} {p1 p2 : Pos} {hr : List ExceptHandler} {cr : List Clause} (hc : Names X x c)
      (hsu : ∀ (z : Addr) (ob : Obj) (cls : Value) (d : Option Addr) (pn : List (Addr × Obj)), Zc cls d ob → (∃ us, ob.data = .fields us) → PSs (X.suite z ((z, ob) :: pn)) (b1 :: su) (ts z cls d)) (r : HdsN X hr cr) :
      HdsN X (.ExceptHandler (some (.Name x p1)) none (b1 :: su) p2 :: hr) ((c, none, ts) :: cr)
  | named {x n : Str} {i : Nat} {c : Value} {ts : Addr → Value → Option Addr → TS} {b1 : Stmt} {su : List Stmt} {p1 p2 : Pos} {hr : List ExceptHandler} {cr : List Clause} (hc : Names X x c) (hi : X.N[i]? = some n) (hln : X.env.kindOf n = some .local)
      (hsu : ∀ (z : Addr) (ob : Obj) (cls : Value) (d : Option Addr) (pn : List (Addr × Obj)), Zc cls d ob → (∃ us, ob.data = .fields us) → PSs (X.suite z ((z, ob) :: pn)) (b1 :: su) (ts z cls d)) (r : HdsN X hr cr) :
      HdsN X (.ExceptHandler (some (.Name x p1)) (some n) (b1 :: su) p2 :: hr) ((c, some i, ts) :: cr)
section
variable {X : Cx} {body : List Stmt} {hd1 : ExceptHandler} {hr : List ExceptHandler} {cl : List Clause} {pos : Pos} {tb : WX → TS} {Wo : WX}
theorem ps_try_named (hst : X.stack = X.env :: X.outer) (hfr : X.env.frame = some X.env.locals) (hN : X.N.Nodup) (tk : Takes X Wo)
    (hbody : ∀ (W : WX) (pn : List (Addr × Obj)) (xe : Value → Shared → Prop), Takes (X.tr pn xe) W → PassesOwn (model X.prog X.w) X.A X.env xe → PSs (X.tr pn xe) body (tb W))
    (hh : HdsN X (hd1 :: hr) cl) : PS X (.Try body (hd1 :: hr) [] [] pos) (fun D τ G => tb (wNamed X.K Wo D cl) D τ G) := by
  refine ⟨fun pins sh τ G D V hyp => ?_⟩
  have okX := V.ok
  have frs_ : X.A.frames = some (X.env :: X.outer) := by rw [okX.frames, hst]
  refine wpAny_Try_except ?_
  refine wpAny_mono ((hbody (wNamed X.K Wo D cl) (X.pn ++ pins) (fun er t1 => wpAny (model X.prog X.w) X.A (noteFrame er X.env) (fun _ t2 => wpAny (model X.prog X.w) X.A (setFlight er none) (fun _ t3 => wpAny (model X.prog X.w) X.A (handleBy er X.env (hd1 :: hr)) (SP X pins D) X.xe t3) X.xe t2) X.xe t1)
    (fun uu sh' caught => ?_) PassesOwn.looking).run [] sh τ G D (V.toTry _) hyp) (fun fl t1 fin => ?_) (fun er t1 out => out)
  · obtain ⟨z, BB, sI, pins', τ', G', cls, d, rfl, Vt, nb, upw, skz, fresh, os, ag, wsh⟩ := caught
    have V1 : Inv X pins τ' G' sI := Vt.ofTry okX
    have skz' : Sky BB (X.env :: X.outer) z (Zc cls d) X.env.locals sh'.heap := by rw [← hst]; exact skz
    show wpAny (model X.prog X.w) X.A (noteFrame (.ref z) X.env) _ _ _
    refine Sky.land Zc.steady frs_ hfr skz' fun g3 fly3 upw3 => ?_
    have V3 : Inv X pins τ' G' { sh' with heap := g3 } := V1.landed nb fly3.1 (upw.trans upw3) os ag
    obtain ⟨ob3, us3, got3, zc3, dat3⟩ := fly3.there
    have notF : z ∉ frs (X.env :: X.outer) := fun mem => by
      obtain ⟨_, ob', got', notFields⟩ := fly3.2.2.1.mem mem
      rw [got3] at got'
      cases got'
      exact notFields _ dat3
    have noLoc : z ≠ X.env.locals := fun eq => notF (List.mem_filterMap.mpr ⟨X.env, List.mem_cons_self, by rw [hfr, eq]⟩)
    have noFs : z ∉ X.fs := fun mem => by
      obtain ⟨en, hen, qq⟩ := List.mem_filterMap.mp mem
      exact notF (List.mem_filterMap.mpr ⟨en, List.mem_cons_of_mem _ hen, qq⟩)
    have U3 := V3.suite got3 dat3 fresh noLoc noFs
    have walk : ∀ {hs' : List ExceptHandler} {cl' : List Clause}, HdsN X hs' cl' → wNamed X.K Wo D cl' cls d τ' G' → wpAny (model X.prog X.w) X.A (handleBy (.ref z) X.env hs') (SP X pins D) X.xe { sh' with heap := g3 } := by
      have typ : PySem.W.Looks (model X.prog X.w) g3 (typeOf (.ref z)) cls := fun A Q E s k q => wpAny_typeOf_ref (k _ _ got3) (by rw [zc3.1]; exact q)
      have test : ∀ {x : Str} {c : Value} {np : Pos}, Names X x c → ∀ {Q : Value → Shared → Prop} {E : Value → Shared → Prop}, Q c { sh' with heap := g3 } → wpAny (model X.prog X.w) (X.A.mark (some (.ref z))) (eval (.Name x np) X.env) Q E { sh' with heap := g3 } := fun {x c np} nm {Q E} q => by
        obtain ⟨gl, dbg, inM | ⟨noM, boot, nn⟩⟩ := nm
        · exact ld_glob (X := X.suite z ((z, ob3) :: (X.pn ++ pins))) U3 gl inM q dbg
        · exact ld_blt (X := X.suite z ((z, ob3) :: (X.pn ++ pins))) U3 gl noM boot q nn dbg
      intro hs' cl' hk
      induction hk with
      | nil =>
        intro wsh
        refine wpAny_handleBy_nil ?_
        obtain ⟨k1, k2, k3, ob, us, T, oT, tr', got, zc, dat, at1, rest⟩ := id fly3
        unfold PySem.passOn
        refine wpAny_bind (wpAny_field got dat at1 ?_)
        rw [if_neg (show ¬ ((Value.ref T == Value.none) = true) from by simp)]
        have leave : wpAny (model X.prog X.w) X.A (setFlight (.ref z) X.env.frame) (fun _ t4 => wpAny (model X.prog X.w) X.A (throw (.ref z) : Sem Flow) (SP X pins D) X.xe t4) X.xe { sh' with heap := g3 } := by
          rw [hfr]
          refine HandSPX.setFlight_upZ fly3 fun g4 fly4 upw4 => wpAny_throw (tk _ _ ?_)
          exact ⟨z, BB, sI, pins, τ', G', cls, d, rfl, V1, nb, (upw.trans upw3).trans upw4, .inr (.inr (by rw [hst]; exact fly4)), fresh, os, ag, wsh⟩
        first
          | exact wpAny_bind (wpAny_pure (wpAny_bind leave))
          | exact wpAny_bind leave
      | @bare x c ts b1 su p1 p2 hs2 cl2 nm hsu r ih =>
        intro wsh
        obtain ⟨y, ye, yes, no⟩ := wsh
        refine wpAny_handleBy_cons (codeAny_handlers_test ?_) (by intro q; cases q)
        refine test nm ((PySem.W.exm_one (M := model X.prog X.w) (V3.kIn) typ ye).here ?_)
        cases y with
        | false =>
          show wpAny _ X.A (handleBy (.ref z) X.env hs2) _ _ _
          exact ih (no rfl)
        | true =>
          refine codeAny_handlers_suite ?_
          refine HandSPX.lands_againZ fly3 fun g4 fly4 upw4 => ?_
          have V4 : Inv X pins τ' G' { sh' with heap := g4 } := V1.landed nb fly4.1 ((upw.trans upw3).trans upw4) os ag
          obtain ⟨ob4, us4, got4, zc4, dat4⟩ := fly4.there
          have U4 := V4.suite got4 dat4 fresh noLoc noFs
          refine wpAny_mono ((hsu z ob4 cls d (X.pn ++ pins) zc4 ⟨_, dat4⟩).run [] _ _ G' _ U4 (yes rfl z fresh)) (fun fl t6 fin => ?_) (fun _ _ never => False.elim never)
          cases fl with
          | ret uu => obtain ⟨v6, τ6, G6, U6, r6, q6⟩ := fin; exact ⟨_, _, _, U6.unsuite okX, r6, q6⟩
          | next => obtain ⟨τ6, G6, U6, q6⟩ := fin; exact ⟨_, _, U6.unsuite okX, q6⟩
          | brk => obtain ⟨τ6, G6, U6, q6⟩ := fin; exact ⟨_, _, U6.unsuite okX, q6⟩
          | cont => obtain ⟨τ6, G6, U6, q6⟩ := fin; exact ⟨_, _, U6.unsuite okX, q6⟩
      | @named x n i c ts b1 su p1 p2 hs2 cl2 nm hi hln hsu r ih =>
        intro wsh
        obtain ⟨y, ye, yes, no⟩ := wsh
        refine wpAny_handleBy_cons (codeAny_handlers_test ?_) (by intro q; cases q)
        refine test nm ((PySem.W.exm_one (M := model X.prog X.w) (V3.kIn) typ ye).here ?_)
        cases y with
        | false =>
          show wpAny _ X.A (handleBy (.ref z) X.env hs2) _ _ _
          exact ih (no rfl)
        | true =>
          refine codeAny_handlers_suite_as ?_
          refine HandSPX.lands_againZ fly3 fun g4 fly4 upw4 => ?_
          have V4 : Inv X pins τ' G' { sh' with heap := g4 } := V1.landed nb fly4.1 ((upw.trans upw3).trans upw4) os ag
          obtain ⟨ob4, us4, got4, zc4, dat4⟩ := fly4.there
          have U4 := V4.suite got4 dat4 fresh noLoc noFs
          refine store_ok (X := X.suite z ((z, ob4) :: (X.pn ++ pins))) (v := .ref z) U4 hN hi (.inl hln) rfl (fun t5 U5 => ?_) (.inr hln)
          refine wpAny_mono ((hsu z ob4 cls d (X.pn ++ pins) zc4 ⟨_, dat4⟩).run [] t5 _ G' _ U5 (yes rfl z fresh)) (fun fl t6 fin => ?_) (fun _ _ never => False.elim never)
          have after : ∀ {τ6 : St} {G6 : Hp} {Q : Shared → Prop}, Inv (X.suite z ((z, ob4) :: (X.pn ++ pins))) [] τ6 G6 t6 → (∀ t7, Inv X pins (τ6.set i none) G6 t7 → Q t7) → wpAny (model X.prog X.w) X.A (do bindName X.env n .none; unbindBehindTheSuite X.env n p2) (fun _ t7 => Q t7) X.xe t6 := fun {τ6 G6 Q} U6 qq => gone_ok (U6.unsuite okX) hN hi hln qq
          cases fl with
          | ret uu => obtain ⟨v6, τ6, G6, U6, r6, q6⟩ := fin; exact after U6 fun t7 V7 => ⟨_, _, _, V7, r6, q6⟩
          | next => obtain ⟨τ6, G6, U6, q6⟩ := fin; exact after U6 fun t7 V7 => ⟨_, _, V7, q6⟩
          | brk => obtain ⟨τ6, G6, U6, q6⟩ := fin; exact after U6 fun t7 V7 => ⟨_, _, V7, q6⟩
          | cont => obtain ⟨τ6, G6, U6, q6⟩ := fin; exact after U6 fun t7 V7 => ⟨_, _, V7, q6⟩
    exact walk hh wsh
  · cases fl with
    | ret uu => obtain ⟨v, τ', G', Vt, r, q⟩ := fin; exact ⟨v, τ', G', Vt.ofTry okX, r, q⟩
    | next => obtain ⟨τ', G', Vt, q⟩ := fin; exact wpAny_execs_nil ⟨τ', G', Vt.ofTry okX, q⟩
    | brk => obtain ⟨τ', G', Vt, q⟩ := fin; exact ⟨τ', G', Vt.ofTry okX, q⟩
    | cont => obtain ⟨τ', G', Vt, q⟩ := fin; exact ⟨τ', G', Vt.ofTry okX, q⟩
end
end L2
namespace SK
open PySem PySem.Spec PyProof.Rows L2 SKX LamX
def noExc (r : RS) : RS := match r with
  | .exc _ _ _ _ => .bad
  | r => r
abbrev DCl := (Str → Bool) × (Str → D → Ev → OH → RS)
def pickC : List DCl → Str → D → Ev → OH → RS
  | [], c, w, s, oh => .exc c w s oh
  | (sub, h) :: r, c, w, s, oh => if sub c then noExc (h c w s oh) else pickC r c w s oh
def sTryN (errs : List Str) (mb : SM) (cl : List DCl) : SM := fun s oh => match mb s oh with
  | .exc c w s' oh' => if errs.contains c then pickC cl c w s' oh' else .bad
  | r => r
/-- what a clause's suite does, seen from the own layer -/
def CReads (X : Cx) (W : WX) (errs : List Str) (q : Option Nat) (ts : Addr → Value → Option Addr → TS) (h : Str → D → Ev → OH → RS) : Prop := ∀ (z : Addr) (D0 : Ends) (ρ : List Addr) (G : Hp) (oh : OH) (s : Ev) (τ : L2.St) (c : Str) (w : D) (C dd : Addr) (v : V), RH X.K G ρ oh → RepS X.K G ρ s τ → errs.contains c = true → X.mg c = some (.ref C) →
  G dd = some (.xd [(("what" : Str), v)]) → Rep X.K G ρ w v → OutS X.K X.mg W ρ G (noExc (h c w s oh)) D0 → wish1 q ts D0 (.ref C) (some dd) τ G z
inductive HD (X : Cx) (W : WX) (errs : List Str) : List ExceptHandler → List Clause → List DCl → Prop
  | nil : HD X W errs [] [] []
  | cons {x : Str} {no : Option Str} {q : Option Nat} {Ch : Addr} {sub : Str → Bool} {ts : Addr → Value → Option Addr → TS} {h : Str → D → Ev → OH → RS} {b1 : Stmt} {su : List Stmt} {p1 p2 : Pos} {hr : List ExceptHandler} {cr : List Clause} {dr : List DCl} (hg : Gl X x) (hd : (x == ("__debug__" : Str)) = false) (hx : X.mg x = some (.ref Ch))
      (hq : match no, q with | none, none => True | some n, some i => X.N[i]? = some n ∧ X.env.kindOf n = some .local | _, _ => False)
      (hsub : ∀ c C, errs.contains c = true → X.mg c = some (.ref C) → PySem.W.exmOne X.K (.ref C) (.ref Ch) = some (sub c))
      (hsu : ∀ (z : Addr) (ob : Obj) (cls : Value) (d : Option Addr) (pn : List (Addr × Obj)), Zc cls d ob → (∃ us, ob.data = .fields us) → PSs (X.suite z ((z, ob) :: pn)) (b1 :: su) (ts z cls d))
      (hc : CReads X W errs q ts h) (r : HD X W errs hr cr dr) :
      HD X W errs (.ExceptHandler (some (.Name x p1)) no (b1 :: su) p2 :: hr) ((.ref Ch, q, ts) :: cr) ((sub, h) :: dr)
theorem HD.n {X : Cx} {W : WX} {errs : List Str} {hs : List ExceptHandler} {cl : List Clause} {dl : List DCl} (k : HD X W errs hs cl dl) : HdsN X hs cl := by
  induction k with
  | nil => exact .nil
  | @cons x no q Ch sub ts h b1 su p1 p2 hr cr dr hg hd hx hq hsub hsu hc r ih =>
    cases no with
    | none =>
      cases q with
      | none => exact .bare ⟨hg, hd, .inl hx⟩ hsu ih
      | some i => exact hq.elim
    | some n =>
      cases q with
      | none => exact hq.elim
      | some i => exact .named ⟨hg, hd, .inl hx⟩ hq.1 hq.2 hsu ih
section
variable {X : Cx} {W : WX} {errs : List Str} {body : List Stmt} {hd1 : ExceptHandler} {hr : List ExceptHandler} {cl : List Clause} {dl : List DCl} {mb : SM} {pos : Pos}
theorem rs_tryN (hst : X.stack = X.env :: X.outer) (hf : X.env.frame = some X.env.locals) (hN : X.N.Nodup) (tk : Takes X W)
    (hb : ∀ (W : WX) (pn : List (Addr × Obj)) (xe : Value → Shared → Prop), Takes (X.tr pn xe) W → PassesOwn (model X.prog X.w) X.A X.env xe → RSs (X.tr pn xe) W body mb)
    (hh : HD X W errs (hd1 :: hr) cl dl) : RSt X W (.Try body (hd1 :: hr) [] [] pos) (sTryN errs mb dl) := by
  refine (ps_try_named (tb := fun W => tS X W mb) hst hf hN tk (fun W pn xe tk' hp => hb W pn xe tk' hp) hh.n).imp fun D0 τ G ⟨ρ, oh, s, rh, rs, h⟩ => ?_
  refine ⟨ρ, oh, s, rh, rs, ?_⟩
  unfold sTryN at h
  cases eb : mb s oh with
  | exc c w s1 oh1 =>
    rw [eb] at h
    dsimp only at h
    split at h
    · rename_i hc
      intro ρ1 H1 σ1 dd v C L1 rh1 rs1 rv hm hdd
      have key : ∀ {hs' : List ExceptHandler} {cl' : List Clause} {dl' : List DCl}, HD X W errs hs' cl' dl' → OutS X.K X.mg W ρ G (pickC dl' c w s1 oh1) D0 → wNamed X.K W D0 cl' (.ref C) (some dd) σ1 H1 := by
        intro hs' cl' dl' k
        induction k with
        | nil =>
          intro h
          exact h ρ1 H1 σ1 dd v C L1 rh1 rs1 rv hm hdd
        | @cons x no q Ch sub ts hh b1 su p1 p2 hr2 cr dr hg hd hx hq hsub hsu hcr r ih =>
          intro h
          refine ⟨sub c, hsub c C hc hm, fun hy z hz => ?_, fun hy => ?_⟩
          · rw [pickC, hy, if_pos rfl] at h
            exact hcr z D0 ρ1 H1 oh1 s1 σ1 c w C dd v rh1 rs1 hc hm hdd rv (h.later L1)
          · rw [pickC, hy] at h
            exact ih h
      exact key hh h
    · exact h.elim
  | nx s1 oh1 => rw [eb] at h; exact h
  | rt s1 oh1 => rw [eb] at h; exact h
  | bk s1 oh1 => rw [eb] at h; exact h
  | ct s1 oh1 => rw [eb] at h; exact h
  | bad => rw [eb] at h; exact h
/-- without a name: any statements that raise nothing -/
theorem cr_bare {m : SM} : CReads X W errs none (fun _ _ _ => tS X W0 m) (fun _ _ s oh => m s oh) := fun z D0 ρ G oh s τ c w C dd v rh rs hc hm hdd rv h => by
  dsimp only at h
  refine ⟨ρ, oh, s, rh, rs, ?_⟩
  cases em : m s oh with
  | exc => rw [em] at h; exact h.elim
  | nx s1 oh1 => rw [em] at h; exact h
  | rt s1 oh1 => rw [em] at h; exact h
  | bk s1 oh1 => rw [em] at h; exact h
  | ct s1 oh1 => rw [em] at h; exact h
  | bad => rw [em] at h; exact h
/-- return f(e) -/
theorem cr_ret {i : Nat} {f : Str → D → D} : CReads X W errs (some i) (fun z cls d => tRet (tH X errs i z cls d f)) (fun c w s oh => if i < s.length then .rt (f c w) oh else .bad) := fun z D0 ρ G oh s τ c w C dd v rh rs hc hm hdd rv h => by
  dsimp only at h
  split at h
  · rename_i hi
    exact ⟨ρ, oh, c, w, C, dd, v, List.getElem?_set_self (by rw [← rs.length]; exact hi), hc, hm, rfl, rfl, hdd, rh, rv, fun ρ2 H2 u L2 rh2 _ ru => h ρ2 H2 u L2 rh2 ru⟩
  · exact h.elim
/-- x = f(e) -/
theorem cr_set {i j : Nat} {f : Str → D → D} : CReads X W errs (some i) (fun z cls d => tAsg (tH X errs i z cls d f) (gName j)) (fun c w s oh => if i < s.length ∧ i ≠ j then .nx ((s.set j (some (f c w))).set i none) oh else .bad) := fun z D0 ρ G oh s τ c w C dd v rh rs hc hm hdd rv h => by
  dsimp only at h
  split at h
  · rename_i hi
    refine ⟨ρ, oh, c, w, C, dd, v, List.getElem?_set_self (by rw [← rs.length]; exact hi.1), hc, hm, rfl, rfl, hdd, rh, rv, fun ρ2 H2 u L2 rh2 _ ru => ?_⟩
    show D0.nx (((τ.set i (some (.ref z))).set j (some u)).set i none) H2
    have e : ((τ.set i (some (V.ref z))).set j (some u)).set i none = (τ.set j (some u)).set i none := by
      rw [List.set_comm _ _ hi.2, List.set_set]
    rw [e]
    exact h ρ2 H2 _ L2 rh2 (RepS.unset i (RepS.set ru j (L2.reps rs)))
  · exact h.elim
end
/-! ### a, b, c = e1, e2, e3: three locals -/
def sPar3 (i j l : Nat) (m : Ev → M (List D)) : SM := fun s oh => (m s oh).st s fun ds oh => match ds with
  | [d, d', d2] => .nx (((s.set i (some d)).set j (some d')).set l (some d2)) oh
  | _ => .bad
theorem rep_three {K : PySem.W.Frag} {H : Hp} {ρ : List Addr} {d d' d2 : D} {xs : List V} (r : RepL K H ρ [d, d', d2] xs) : ∃ v w u, xs = [v, w, u] ∧ Rep K H ρ d v ∧ Rep K H ρ d' w ∧ Rep K H ρ d2 u := by
  simp only [RepL] at r
  obtain ⟨v, vs, rfl, r, w, ws, rfl, r', u, us, rfl, r2, rfl⟩ := r
  exact ⟨v, w, u, rfl, r, r', r2⟩
theorem rs_par3 {X : Cx} {W : WX} {e b c : Expr} {ms : Ev → M (List D)} {pos : Pos} {i j l : Nat} {x y z : Str} {px py pz pt : Pos} {kt k2 : Nat} {pt2 : Pos} (hc : X.calm = true) (hN : X.N.Nodup) (hi : X.N[i]? = some x) (hj : X.N[j]? = some y) (hl : X.N[l]? = some z)
    (hx : X.env.scope.names.lookup x = some .local) (hy : X.env.scope.names.lookup y = some .local) (hz : X.env.scope.names.lookup z = some .local) (ha : RA X W [e, b, c] ms)
    (hw : swappedStores [.Tuple [.Name x px, .Name y py, .Name z pz] kt pt] (.Tuple [e, b, c] k2 pt2) X.env = pure (some [x, y, z]) := by rfl) (hij : i ≠ j := by decide) (hil : i ≠ l := by decide) (hjl : j ≠ l := by decide)
    (hs : swapsWithSole [.Tuple [.Name x px, .Name y py, .Name z pz] kt pt] (.Tuple [e, b, c] k2 pt2) pos.line X.env = pure false := by rfl) :
    RSt X W (.Assign [.Tuple [.Name x px, .Name y py, .Name z pz] kt pt] (.Tuple [e, b, c] k2 pt2) pos) (sPar3 i j l ms) := (ps_par3 hc hN hi hj hl hij hil hjl hx hy hz ha hw hs).imp fun D σ H ⟨ρ, oh, s, rh, rs, h⟩ => by
  refine ⟨ρ, oh, s, rh, rs, (Out.toS h rs).imp fun ds oh1 ρ1 H1 L1 rh1 h1 vs rv => ?_⟩
  split at h1
  · obtain ⟨v, w, u, rfl, r1, r2, r3⟩ := rep_three rv
    exact ⟨v, w, u, rfl, h1 ρ1 H1 _ .refl rh1 (RepS.set r3 l (RepS.set r2 j (RepS.set r1 i (L1.reps rs))))⟩
  · exact h1.elim
end SK
namespace SK
open PySem PySem.Spec PyProof.Rows L2 SKX LamX
/-! ### the mirrors, turn by turn -/
/-- kept from the simplifier's own steps: a step is proved once and named afterwards -/
theorem nrfl {α : Sort _} {a : α} : a = a := Eq.trans rfl rfl
section
variable {α β : Type} {a : α} {oh oh' : OH} {s s' : Ev} {d d' x y : D} {c : Str} {w : D} {i j : Int} {k n : Nat} {ma mb mc : Ev → M D} {ms : Ev → M (List D)} {ta tb : Ev → M Bool} {p q : P2} {l : List D}
@[simp] theorem z_bok {f : α → OH → R β} : (R.ok a oh).bnd f = f a oh := nrfl
@[simp] theorem z_bex {f : α → OH → R β} : (R.exc c w oh : R α).bnd f = .exc c w oh := nrfl
@[simp] theorem z_bbad {f : α → OH → R β} : (R.bad : R α).bnd f = .bad := nrfl
@[simp] theorem z_sok {f : α → OH → RS} : (R.ok a oh).st s f = f a oh := nrfl
@[simp] theorem z_sex {f : α → OH → RS} : (R.exc c w oh : R α).st s f = .exc c w s oh := nrfl
@[simp] theorem z_sbad {f : α → OH → RS} : (R.bad : R α).st s f = .bad := nrfl
@[simp] theorem z_nx {f : Ev → OH → RS} : (RS.nx s oh).bnd f = f s oh := nrfl
@[simp] theorem z_rt {f : Ev → OH → RS} : (RS.rt d oh).bnd f = .rt d oh := nrfl
@[simp] theorem z_ex {f : Ev → OH → RS} : (RS.exc c w s oh).bnd f = .exc c w s oh := nrfl
@[simp] theorem z_var : eVar k s oh = (match s[k]? with | some (some d) => .ok d oh | _ => .bad) := nrfl
@[simp] theorem z_c : eC d s oh = .ok d oh := nrfl
@[simp] theorem z_e1 {p : P1} : e1 p ma s oh = (ma s oh).bnd fun x oh => lf (p x oh) := nrfl
@[simp] theorem z_e2 : e2 p ma mb s oh = (ma s oh).bnd fun x oh => (mb s oh).bnd fun y oh => lf (p x y oh) := nrfl
@[simp] theorem z_lf : lf (some (d, oh)) = .ok d oh := nrfl
@[simp] theorem z_tb : tB1 ma s oh = (ma s oh).bnd fun d oh => match d with | .bl b => .ok b oh | _ => .bad := nrfl
@[simp] theorem z_tru : tTru ma s oh = (ma s oh).bnd fun d oh => match truD oh d with | some b => .ok b oh | none => .bad := nrfl
@[simp] theorem z_and : tAndD ta tb s oh = (ta s oh).bnd fun c oh => if c then tb s oh else .ok false oh := nrfl
@[simp] theorem z_or : tOrD ta tb s oh = (ta s oh).bnd fun c oh => if c then .ok true oh else tb s oh := nrfl
@[simp] theorem z_not : tNotD ta s oh = (ta s oh).bnd fun c oh => .ok (!c) oh := nrfl
@[simp] theorem z_eif : eIf ta ma mb s oh = (ta s oh).bnd fun c oh => if c then ma s oh else mb s oh := nrfl
@[simp] theorem z_ch : eCh p q ma mb mc s oh = (ma s oh).bnd fun x oh => (mb s oh).bnd fun y oh => (lf (p x y oh)).bnd fun k oh => match k with
  | .bl true => (mc s oh).bnd fun z oh => lf (q y z oh)
  | .bl false => .ok (.bl false) oh
  | _ => .bad := nrfl
@[simp] theorem z_sub : pSub (.int i) (.int j) oh = some (.int (i - j), oh) := nrfl
@[simp] theorem z_lt : pLt (.int i) (.int j) oh = some (.bl (decide (i < j)), oh) := nrfl
@[simp] theorem z_le : pLe (.int i) (.int j) oh = some (.bl (decide (i ≤ j)), oh) := nrfl
@[simp] theorem z_gt : pGt (.int i) (.int j) oh = some (.bl (decide (j < i)), oh) := nrfl
@[simp] theorem z_ge : pGe (.int i) (.int j) oh = some (.bl (decide (j ≤ i)), oh) := nrfl
@[simp] theorem z_add : pAdd (.int i) (.int j) oh = some (.int (i + j), oh) := nrfl
theorem z_addl {a b : Nat} {l m : List D} (h1 : oh[a]? = some (.lst l)) (h2 : oh[b]? = some (.lst m)) (hl : l.length + m.length ≤ sizeLine) : pAdd (.ref a) (.ref b) oh = some (.ref oh.length, oh ++ [.lst (l ++ m)]) := by
  simp only [pAdd, h1, h2, if_pos hl]
theorem z_mull0 {a : Nat} {l : List D} {k : Int} (h1 : oh[a]? = some (.lst l)) (h2 : 0 ≤ k ∧ k < 2 ^ 20) (hl : l.length * k.toNat ≤ sizeLine) : pMul (.ref a) (.int k) oh = some (.ref oh.length, oh ++ [.lst (List.replicate k.toNat l).flatten]) := by
  simp only [pMul, h1]
  rw [if_pos ⟨by omega, by omega, hl⟩]
@[simp] theorem z_neg : pNeg (.int i) oh = some (.int (-i), oh) := nrfl
theorem z_mod (h : 0 < j) : pMod (.int i) (.int j) oh = some (.int (i % j), oh) := by
  show Option.map _ (if 0 < j then some (D.int (i % j)) else none) = _
  rw [if_pos h]; rfl
theorem log_lt {j : Int} (h : 0 < j) (h2 : j < 2 ^ 64) : j.natAbs.log2 < 9000 := by
  have : j.natAbs.log2 < 64 := (Nat.log2_lt (by omega)).mpr (by omega)
  omega
theorem z_div (h : 0 < j) (h2 : j < 2 ^ 64) : pDiv (.int i) (.int j) oh = some (.int (i / j), oh) := by
  show Option.map _ (if 0 < j ∧ j.natAbs.log2 < 9000 then some (D.int (i / j)) else none) = _
  rw [if_pos ⟨h, log_lt h h2⟩]; rfl
theorem z_mul (h : mulOk i j = true) : pMul (.int i) (.int j) oh = some (.int (i * j), oh) := by
  show (if mulOk i j = true then some (D.int (i * j), oh) else none) = _
  rw [if_pos h]
theorem mul_l (h : -(2 ^ 64) < i) (h' : i < 2 ^ 64) : mulOk i j = true := by
  unfold mulOk
  simp only [decide_eq_true h, decide_eq_true h', Bool.and_true, Bool.or_true, Bool.true_or]
theorem mul_r (h : -(2 ^ 64) < j) (h' : j < 2 ^ 64) : mulOk i j = true := by
  unfold mulOk
  simp only [decide_eq_true h, decide_eq_true h', Bool.and_true, Bool.or_true, Bool.true_or]
theorem z_mull (h : -(2 ^ 64) < i) (h' : i < 2 ^ 64) : pMul (.int i) (.int j) oh = some (.int (i * j), oh) := z_mul (mul_l h h')
theorem z_mulr (h : -(2 ^ 64) < j) (h' : j < 2 ^ 64) : pMul (.int i) (.int j) oh = some (.int (i * j), oh) := z_mul (mul_r h h')
@[simp] theorem z_eqi : pEq (.int i) (.int j) oh = some (.bl (decide (i = j)), oh) := nrfl
@[simp] theorem z_nei : pNe (.int i) (.int j) oh = some (.bl (!decide (i = j)), oh) := nrfl
@[simp] theorem z_eqs {t u : Str} : pEq (.str t) (.str u) oh = some (.bl (decide (t = u)), oh) := nrfl
@[simp] theorem z_nes {t u : Str} : pNe (.str t) (.str u) oh = some (.bl (!decide (t = u)), oh) := nrfl
@[simp] theorem z_nil : aNil s oh = .ok [] oh := nrfl
@[simp] theorem z_cons : aCons ma ms s oh = (ma s oh).bnd fun x oh => (ms s oh).bnd fun xs oh => .ok (x :: xs) oh := nrfl
theorem z_eandT {b : Bool} (h : ma s oh = .ok (.bl b) oh') : eAndD ma mb s oh = if b then mb s oh' else .ok (.bl b) oh' := by
  unfold eAndD
  rw [h]
  cases b <;> rfl
theorem z_eorT {b : Bool} (h : ma s oh = .ok (.bl b) oh') : eOrD ma mb s oh = if b then .ok (.bl b) oh' else mb s oh' := by
  unfold eOrD
  rw [h]
  cases b <;> rfl
theorem z_isB {T : String} {b : Bool} (h : ma s oh = .ok d oh') (h2 : isD oh' T d = some b) : eIsB T ma s oh = .ok (.bl b) oh' := by
  unfold eIsB
  rw [h]
  show (match isD oh' T d with | some b => R.ok (D.bl b) oh' | none => .bad) = _
  rw [h2]
@[simp] theorem z_notv {b : Bool} : pNot (.bl b) oh = some (.bl (!b), oh) := nrfl
theorem is_int (oh : OH) (i : Int) : isD oh "int" (.int i) = some true := by
  show kitB "int" "int" = some true
  decide +kernel
theorem is_intb (oh : OH) (i : Int) : isD oh "bool" (.int i) = some false := by
  show kitB "int" "bool" = some false
  decide +kernel
@[simp] theorem z_tup : eTup ms s oh = (ms s oh).bnd fun ds oh => if ds.length ≤ sizeLine then .ok (.tup ds) oh else .bad := nrfl
@[simp] theorem z_lst : eLst ms s oh = (ms s oh).bnd fun ds oh => if ds.length ≤ sizeLine then .ok (.ref oh.length) (oh ++ [.lst ds]) else .bad := nrfl
@[simp] theorem z_cb {p : PL} : eCB p ms s oh = (ms s oh).bnd fun ds oh => lf (p ds oh) := nrfl
@[simp] theorem z_int : bInt [.int i] oh = some (.int i, oh) := nrfl
@[simp] theorem z_intb {b : Bool} : bInt [.bl b] oh = some (.int (if b then 1 else 0), oh) := nrfl
@[simp] theorem z_max : bMax2 [.int i, .int j] oh = some (.int (if j > i then j else i), oh) := nrfl
@[simp] theorem z_min : bMin2 [.int i, .int j] oh = some (.int (if j < i then j else i), oh) := nrfl
@[simp] theorem z_abs : bAbs [.int i] oh = some (.int (if i < 0 then -i else i), oh) := nrfl
theorem z_len (h : itemsOf oh d = some l) : bLen [d] oh = some (.int l.length, oh) := by
  unfold bLen
  split
  · rename_i e
    cases e
    cases h
  · rename_i d' _ e
    cases e
    rw [h]; rfl
  · rename_i h1 h2
    exact absurd rfl (h2 d)
@[simp] theorem z_itt : itemsOf oh (.tup l) = some l := nrfl
theorem z_itl (h : oh[n]? = some (.lst l)) : itemsOf oh (.ref n) = some l := by simp only [itemsOf, h]
theorem z_itr (h : oh[n]? = some (.ro l)) : itemsOf oh (.ref n) = some l := by simp only [itemsOf, h]
theorem z_ix (h : itemsOf oh x = some l) (h0 : 0 ≤ i) (h1 : i < l.length) : ∃ d, l[i.toNat]? = some d ∧ pIx x (.int i) oh = some (d, oh) := by
  have hlt : i.toNat < l.length := by omega
  refine ⟨l[i.toNat], List.getElem?_eq_getElem hlt, ?_⟩
  cases x with
  | str z => cases h
  | _ => simp only [pIx, h, atI, ixN, if_pos h0, if_pos h1, Option.bind_some, List.getElem?_eq_getElem hlt, Option.map_some]
theorem z_ixd (h : itemsOf oh x = some l) (h0 : 0 ≤ i) (h1 : l[i.toNat]? = some d) : pIx x (.int i) oh = some (d, oh) := by
  have hlt := (List.getElem?_eq_some_iff.mp h1).1
  obtain ⟨e, h2, h3⟩ := z_ix (oh := oh) (i := i) h h0 (by omega)
  rw [h1] at h2
  cases h2
  exact h3
@[simp] theorem z_call {f : Fn} : eCall f ms s oh = (ms s oh).bnd fun ds oh => f ds oh := nrfl
@[simp] theorem z_skip : sSkip s oh = .nx s oh := nrfl
@[simp] theorem z_seq {a b : SM} : sSeq a b s oh = (a s oh).bnd b := nrfl
@[simp] theorem z_expr : sExpr ma s oh = (ma s oh).st s fun _ oh => .nx s oh := nrfl
@[simp] theorem z_ret : sRet ma s oh = (ma s oh).st s fun d oh => .rt d oh := nrfl
@[simp] theorem z_retn : sRetN s oh = .rt .non oh := nrfl
@[simp] theorem z_set : sSet k ma s oh = (ma s oh).st s fun d oh => .nx (s.set k (some d)) oh := nrfl
@[simp] theorem z_if {a b : SM} : sIf ta a b s oh = (ta s oh).st s fun c oh => if c then a s oh else b s oh := nrfl
@[simp] theorem z_raise : sRaise c ma s oh = (ma s oh).st s fun d oh => .exc c d s oh := nrfl
@[simp] theorem z_gn : SK.gN k d s oh = some (s.set k (some d), oh) := nrfl
@[simp] theorem z_gnil : SK.gNil [] s oh = some (s, oh) := nrfl
@[simp] theorem z_gcons {g : GM} {gs : GMs} {ds : List D} : SK.gCons g gs (d :: ds) s oh = (match g d s oh with | some (s, oh) => gs ds s oh | none => none) := nrfl
@[simp] theorem z_gtt {gs : GMs} : gT k gs (.tup l) s oh = if l.length = k then gs l s oh else none := nrfl
@[simp] theorem z_asg {g : GM} : sAsg ma g s oh = (ma s oh).st s fun d oh => match g d s oh with | some (s, oh) => .nx s oh | none => .bad := nrfl
@[simp] theorem z_par {i j : Nat} : sPar2 i j ms s oh = (ms s oh).st s fun ds oh => match ds with
  | [d, d'] => .nx ((s.set i (some d)).set j (some d')) oh
  | _ => .bad := nrfl
@[simp] theorem z_gsub : gSub ma mb d s oh = (match ma s oh with
  | .ok o oh => match mb s oh with
    | .ok i oh => (pSetI o i d oh).map fun oh => (s, oh)
    | _ => none
  | _ => none) := nrfl
theorem z_seti (h : oh[n]? = some (.lst l)) (h0 : 0 ≤ i) (h1 : i < l.length) : pSetI (.ref n) (.int i) d oh = some (oh.set n (.lst (l.set i.toNat d))) := by
  unfold pSetI
  simp only [h]
  unfold ixN
  rw [if_pos h0, if_pos h1]
  rfl
@[simp] theorem z_ival : iVal ma s oh = (ma s oh).bnd fun d oh => .ok (.val d) oh := nrfl
theorem z_r1 (h : (ms s oh) = .ok [.int j] oh') (h1 : -(2 ^ 62) ≤ j) (h2 : j < 2 ^ 62) : iRange1 ms s oh = .ok (.rng 0 j.toNat) oh' := by
  unfold iRange1
  rw [h]
  show (if -(2 ^ 62) ≤ j ∧ j < 2 ^ 62 then (R.ok (Src.rng 0 j.toNat) oh') else .bad) = _
  rw [if_pos ⟨h1, h2⟩]
theorem z_r2 (h : (ms s oh) = .ok [.int i, .int j] oh') (h1 : -(2 ^ 62) ≤ i) (h2 : i < 2 ^ 62) (h3 : -(2 ^ 62) ≤ j) (h4 : j < 2 ^ 62) : iRange2 ms s oh = .ok (.rng i (j - i).toNat) oh' := by
  unfold iRange2
  rw [h]
  show (if -(2 ^ 62) ≤ i ∧ i < 2 ^ 62 ∧ -(2 ^ 62) ≤ j ∧ j < 2 ^ 62 then (R.ok (Src.rng i (j - i).toNat) oh') else .bad) = _
  rw [if_pos ⟨h1, h2, h3, h4⟩]
@[simp] theorem z_fn {body : SM} {ds : List D} : mkFn n body ds oh = (match body (ds.map some ++ List.replicate (n - ds.length) none) oh with
  | .nx _ oh => .ok .non oh
  | .rt d oh => .ok d oh
  | .exc c w _ oh => .exc c w oh
  | _ => .bad) := nrfl
@[simp] theorem z_yes : tYesD s oh = .ok true oh := nrfl
@[simp] theorem z_onone : oNone s oh = .ok none oh := nrfl
@[simp] theorem z_osome : oSome ma s oh = (ma s oh).bnd fun d oh => match d with | .int i => .ok (some i) oh | _ => .bad := nrfl
@[simp] theorem z_sl {ml mu : Ev → M (Option Int)} : eSl ma ml mu s oh = (ma s oh).bnd fun d oh => (ml s oh).bnd fun lo oh => (mu s oh).bnd fun hi oh => lf (pSl d lo hi oh) := nrfl
@[simp] theorem z_k0 {g : Fn} {ix : List Nat} : eCallK0 g ix ms s oh = (ms s oh).bnd fun zs oh => g (sel ix zs) oh := nrfl
theorem z_reprI (h : i.natAbs.log2 < 1920) : bRepr [.int i] oh = some (.str (PyData.int i).shown, oh) := by
  show (if i.natAbs.log2 < 1920 then some ((PyData.int i).shown) else none).map _ = _
  rw [if_pos h]; rfl
/-- loops -/
theorem z_for {m : Ev → M Src} {g : GM} {body : SM} : sFor m g body s oh = (m s oh).st s fun src oh => match src with
  | .rng lo n => loopT g body ((List.range n).map fun (i : Nat) => D.int (lo + (i : Int))) s oh
  | .val (.tup l) => loopT g body l s oh
  | .val (.ref k) => match itemsOf oh (.ref k) with
    | some l => loopR g body k (l.length + 1) 0 s oh
    | none => .bad
  | .val _ => .bad := nrfl
end
theorem loopT_ind {g : GM} {body : SM} (I : List D → Ev → OH → Prop) (step : ∀ d r s oh, I (d :: r) s oh → ∃ s1 oh1, g d s oh = some (s1, oh1) ∧ ∃ s2 oh2, body s1 oh1 = .nx s2 oh2 ∧ I r s2 oh2) :
    ∀ (l : List D) (s : Ev) (oh : OH), I l s oh → ∃ s' oh', loopT g body l s oh = .nx s' oh' ∧ I [] s' oh'
  | [], s, oh, h => ⟨s, oh, rfl, h⟩
  | d :: r, s, oh, h => by
    obtain ⟨s1, oh1, e1, s2, oh2, e2, h2⟩ := step d r s oh h
    obtain ⟨s', oh', e, h'⟩ := loopT_ind I step r s2 oh2 h2
    refine ⟨s', oh', ?_, h'⟩
    simp only [loopT, e1, e2]
    exact e
/-- over a range: the turn's number -/
theorem loopN_ind {g : GM} {body : SM} {lo : Int} {n : Nat} (I : Nat → Ev → OH → Prop) (step : ∀ (i : Nat) s oh, i < n → I i s oh → ∃ s1 oh1, g (.int (lo + (i : Int))) s oh = some (s1, oh1) ∧ ∃ s2 oh2, body s1 oh1 = .nx s2 oh2 ∧ I (i + 1) s2 oh2)
    {s : Ev} {oh : OH} (h : I 0 s oh) : ∃ s' oh', loopT g body ((List.range n).map fun (i : Nat) => D.int (lo + (i : Int))) s oh = .nx s' oh' ∧ I n s' oh' := by
  have key := loopT_ind (g := g) (body := body) (fun l s oh => ∃ j, j ≤ n ∧ l = ((List.range n).map fun (i : Nat) => D.int (lo + (i : Int))).drop j ∧ I j s oh) (fun d r s oh ⟨j, hj, e, hI⟩ => by
    have hlt : j < n := by
      rcases Nat.lt_or_ge j n with h | h
      · exact h
      · rw [List.drop_eq_nil_of_le (by simp; exact h)] at e
        cases e
    rw [List.drop_eq_getElem_cons (by simp; exact hlt)] at e
    simp only [List.getElem_map, List.getElem_range] at e
    cases e
    obtain ⟨s1, oh1, e1, s2, oh2, e2, h2⟩ := step j s oh hlt hI
    exact ⟨s1, oh1, e1, s2, oh2, e2, j + 1, hlt, rfl, h2⟩) _ s oh ⟨0, Nat.zero_le _, rfl, h⟩
  obtain ⟨s', oh', e, j, hj, e2, hI⟩ := key
  have : j = n := by
    have := congrArg List.length e2
    simp at this
    omega
  subst this
  exact ⟨s', oh', e, hI⟩
theorem loopR_ind {g : GM} {body : SM} {k : Nat} {l : List D} (I : List D → Ev → OH → Prop) (hl : ∀ r s oh, I r s oh → itemsOf oh (.ref k) = some l) (step : ∀ d r s oh, I (d :: r) s oh → ∃ s1 oh1, g d s oh = some (s1, oh1) ∧ ∃ s2 oh2, body s1 oh1 = .nx s2 oh2 ∧ I r s2 oh2) :
    ∀ (f i : Nat) (s : Ev) (oh : OH), l.length < f + i → i ≤ l.length → I (l.drop i) s oh → ∃ s' oh', loopR g body k f i s oh = .nx s' oh' ∧ I [] s' oh'
  | 0, i, s, oh, hf, hi, h => absurd hf (by omega)
  | f + 1, i, s, oh, hf, hi, h => by
    unfold loopR
    rw [hl _ _ _ h]
    rcases Nat.lt_or_ge i l.length with hlt | hge
    · rw [List.drop_eq_getElem_cons hlt] at h
      obtain ⟨s1, oh1, e1, s2, oh2, e2, h2⟩ := step _ _ s oh h
      obtain ⟨s', oh', e, h'⟩ := loopR_ind I hl step f (i + 1) s2 oh2 (by omega) hlt h2
      refine ⟨s', oh', ?_, h'⟩
      simp only [List.getElem?_eq_getElem hlt, e1, e2]
      exact e
    · rw [List.drop_eq_nil_of_le hge] at h
      exact ⟨s, oh, by simp only [List.getElem?_eq_none hge], h⟩
theorem forR_ind {m : Ev → M Src} {g : GM} {body : SM} {k : Nat} {l : List D} {s : Ev} {oh oh1 : OH} (hm : m s oh = .ok (.val (.ref k)) oh1) (I : List D → Ev → OH → Prop) (hl : ∀ r s oh, I r s oh → itemsOf oh (.ref k) = some l) (step : ∀ d r s oh, I (d :: r) s oh → ∃ s1 oh1, g d s oh = some (s1, oh1) ∧ ∃ s2 oh2, body s1 oh1 = .nx s2 oh2 ∧ I r s2 oh2)
    (h : I l s oh1) : ∃ s' oh', sFor m g body s oh = .nx s' oh' ∧ I [] s' oh' := by
  obtain ⟨s', oh', e, h'⟩ := loopR_ind I hl step (l.length + 1) 0 s oh1 (by omega) (Nat.zero_le _) h
  refine ⟨s', oh', ?_, h'⟩
  unfold sFor
  rw [hm]
  simp only [z_sok, hl _ _ _ h]
  exact e
theorem forN_ind {m : Ev → M Src} {g : GM} {body : SM} {lo : Int} {n : Nat} {s : Ev} {oh oh1 : OH} (hm : m s oh = .ok (.rng lo n) oh1) (I : Nat → Ev → OH → Prop) (h : I 0 s oh1)
    (step : ∀ (i : Nat) s oh, i < n → I i s oh → ∃ s1 oh1, g (.int (lo + (i : Int))) s oh = some (s1, oh1) ∧ ∃ s2 oh2, body s1 oh1 = .nx s2 oh2 ∧ I (i + 1) s2 oh2) : ∃ s' oh', sFor m g body s oh = .nx s' oh' ∧ I n s' oh' := by
  obtain ⟨s', oh', e, h'⟩ := loopN_ind I step h
  refine ⟨s', oh', ?_, h'⟩
  unfold sFor
  rw [hm]
  exact e
/-- list comprehensions -/
def CStep (n : Nat) (g : GM) (t : Ev → M Bool) (el : Ev → M D) (s : Ev) (I : List D → List D → OH → Prop) (d : D) (r acc : List D) (oh : OH) : Prop :=
  ∃ s1 oh1, g d s oh = some (s1, oh1) ∧ ∃ b oh2, t s1 oh1 = .ok b oh2 ∧ ((b = false ∧ I r acc oh2) ∨ (b = true ∧ ∃ y oh3, el s1 oh2 = .ok y oh3 ∧ oh3[n]? = some (.lst acc) ∧ acc.length < sizeLine ∧ I r (acc ++ [y]) (oh3.set n (.lst (acc ++ [y])))))
theorem compT_ind {n : Nat} {g : GM} {t : Ev → M Bool} {el : Ev → M D} {s : Ev} (I : List D → List D → OH → Prop) (step : ∀ d r acc oh, I (d :: r) acc oh → CStep n g t el s I d r acc oh) :
    ∀ (l acc : List D) (oh : OH), I l acc oh → ∃ oh' acc', compT n g t el s l oh = some oh' ∧ I [] acc' oh'
  | [], acc, oh, h => ⟨oh, acc, rfl, h⟩
  | d :: r, acc, oh, h => by
    obtain ⟨s1, oh1, e1, b, oh2, e2, ⟨rfl, hI⟩ | ⟨rfl, y, oh3, e3, e4, e5, hI⟩⟩ := step d r acc oh h
    · obtain ⟨oh', acc', e, h'⟩ := compT_ind I step r acc oh2 hI
      refine ⟨oh', acc', ?_, h'⟩
      simp only [compT, e1, e2]
      exact e
    · obtain ⟨oh', acc', e, h'⟩ := compT_ind I step r _ _ hI
      refine ⟨oh', acc', ?_, h'⟩
      simp only [compT, e1, e2, e3, e4, if_pos e5]
      exact e
theorem compR_ind {n k : Nat} {l : List D} {g : GM} {t : Ev → M Bool} {el : Ev → M D} {s : Ev} (I : List D → List D → OH → Prop) (hl : ∀ r acc oh, I r acc oh → itemsOf oh (.ref k) = some l) (step : ∀ d r acc oh, I (d :: r) acc oh → CStep n g t el s I d r acc oh) :
    ∀ (f i : Nat) (acc : List D) (oh : OH), l.length < f + i → i ≤ l.length → I (l.drop i) acc oh → ∃ oh' acc', compR n k g t el s f i oh = some oh' ∧ I [] acc' oh'
  | 0, i, acc, oh, hf, hi, h => absurd hf (by omega)
  | f + 1, i, acc, oh, hf, hi, h => by
    unfold compR
    rw [hl _ _ _ h]
    rcases Nat.lt_or_ge i l.length with hlt | hge
    · rw [List.drop_eq_getElem_cons hlt] at h
      obtain ⟨s1, oh1, e1, b, oh2, e2, ⟨rfl, hI⟩ | ⟨rfl, y, oh3, e3, e4, e5, hI⟩⟩ := step _ _ acc oh h
      · obtain ⟨oh', acc', e, h'⟩ := compR_ind I hl step f (i + 1) acc oh2 (by omega) hlt hI
        refine ⟨oh', acc', ?_, h'⟩
        simp only [List.getElem?_eq_getElem hlt, e1, e2]
        exact e
      · obtain ⟨oh', acc', e, h'⟩ := compR_ind I hl step f (i + 1) _ _ (by omega) hlt hI
        refine ⟨oh', acc', ?_, h'⟩
        simp only [List.getElem?_eq_getElem hlt, e1, e2, e3, e4, if_pos e5]
        exact e
    · rw [List.drop_eq_nil_of_le hge] at h
      exact ⟨oh, acc, by simp only [List.getElem?_eq_none hge], h⟩
/-- the heap only grows -/
def Up (oh oh' : OH) : Prop := ∀ (k : Nat) (c : Cell), oh[k]? = some c → oh'[k]? = some c
theorem Up.refl (oh : OH) : Up oh oh := fun _ _ h => h
theorem Up.trans {a b c : OH} (h : Up a b) (h2 : Up b c) : Up a c := fun k x e => h2 k x (h k x e)
theorem Up.app (oh g : OH) : Up oh (oh ++ g) := fun k c e => by
  rw [List.getElem?_append_left (List.getElem?_eq_some_iff.mp e).1]
  exact e
theorem Up.set {a b : OH} {n : Nat} {c : Cell} (h : Up a b) (hn : a.length ≤ n) : Up a (b.set n c) := fun k x e => by
  have := (List.getElem?_eq_some_iff.mp e).1
  rw [List.getElem?_set_ne (by omega)]
  exact h k x e
theorem Up.len {a b : OH} (h : Up a b) : a.length ≤ b.length := by
  rcases Nat.eq_zero_or_pos a.length with e | e
  · omega
  · have hl : a.length - 1 < a.length := by omega
    have := h (a.length - 1) _ (List.getElem?_eq_getElem hl)
    have := (List.getElem?_eq_some_iff.mp this).1
    omega
@[simp] theorem get_new (oh : OH) (c : Cell) : (oh ++ [c])[oh.length]? = some c := by simp
theorem get_set {oh : OH} {n : Nat} {c c' : Cell} (h : oh[n]? = some c) : (oh.set n c')[n]? = some c' := by
  rw [List.getElem?_set_self (List.getElem?_eq_some_iff.mp h).1]
/-- comprehensions, whole -/
theorem lcN_ind {mi : Ev → M Src} {g : GM} {t : Ev → M Bool} {el : Ev → M D} {vs : List Nat} {s : Ev} {oh oh1 : OH} {lo : Int} {k : Nat} (hm : mi s oh = .ok (.rng lo k) oh1) (I : List D → List D → OH → Prop)
    (h : I ((List.range k).map fun (i : Nat) => D.int (lo + (i : Int))) [] (oh1 ++ [.lst []])) (step : ∀ d r acc oh, I (d :: r) acc oh → CStep oh1.length g t el (wipeE s vs) I d r acc oh) :
    ∃ oh' acc', eLc mi g t el vs s oh = .ok (.ref oh1.length) oh' ∧ I [] acc' oh' := by
  obtain ⟨oh', acc', e, h'⟩ := compT_ind I step _ _ _ h
  refine ⟨oh', acc', ?_, h'⟩
  unfold eLc
  rw [hm]
  simp only [z_bok, e]
  rfl
theorem lcT_ind {mi : Ev → M Src} {g : GM} {t : Ev → M Bool} {el : Ev → M D} {vs : List Nat} {s : Ev} {oh oh1 : OH} {l : List D} (hm : mi s oh = .ok (.val (.tup l)) oh1) (I : List D → List D → OH → Prop)
    (h : I l [] (oh1 ++ [.lst []])) (step : ∀ d r acc oh, I (d :: r) acc oh → CStep oh1.length g t el (wipeE s vs) I d r acc oh) :
    ∃ oh' acc', eLc mi g t el vs s oh = .ok (.ref oh1.length) oh' ∧ I [] acc' oh' := by
  obtain ⟨oh', acc', e, h'⟩ := compT_ind I step _ _ _ h
  refine ⟨oh', acc', ?_, h'⟩
  unfold eLc
  rw [hm]
  simp only [z_bok, e]
  rfl
theorem lcR_ind {mi : Ev → M Src} {g : GM} {t : Ev → M Bool} {el : Ev → M D} {vs : List Nat} {s : Ev} {oh oh1 : OH} {k : Nat} {l : List D} (hm : mi s oh = .ok (.val (.ref k)) oh1) (hk : itemsOf oh1 (.ref k) = some l) (I : List D → List D → OH → Prop) (hl : ∀ r acc oh, I r acc oh → itemsOf oh (.ref k) = some l)
    (h : I l [] (oh1 ++ [.lst []])) (step : ∀ d r acc oh, I (d :: r) acc oh → CStep oh1.length g t el (wipeE s vs) I d r acc oh) :
    ∃ oh' acc', eLc mi g t el vs s oh = .ok (.ref oh1.length) oh' ∧ I [] acc' oh' := by
  obtain ⟨oh', acc', e, h'⟩ := compR_ind I hl step (l.length + 1) 0 _ _ (by omega) (Nat.zero_le _) h
  refine ⟨oh', acc', ?_, h'⟩
  unfold eLc
  rw [hm]
  simp only [z_bok, hk, e]
  rfl
theorem size_lt {n : Nat} (h : n ≤ 2 ^ 20) : n < sizeLine := by unfold sizeLine; omega
theorem size_le {n : Nat} (h : n ≤ 2 ^ 20) : n ≤ sizeLine := Nat.le_of_lt (size_lt h)
/-- all elements told at once: sources with filter, no new object made by the element -/
def CPure (g : GM) (t : Ev → M Bool) (el : Ev → M D) (s : Ev) (oh1 : OH) (P : D → Bool) (f : D → D) (d : D) : Prop := ∀ o, Up oh1 o → ∃ s1, g d s o = some (s1, o) ∧ t s1 o = .ok (P d) o ∧ (P d = true → el s1 o = .ok (f d) o)
theorem cpure_step {g : GM} {t : Ev → M Bool} {el : Ev → M D} {s : Ev} {oh1 : OH} {P : D → Bool} {f : D → D} {L : List D} (hL : L.length ≤ 2 ^ 20) (hp : ∀ d ∈ L, CPure g t el s oh1 P f d) (d : D) (r acc : List D) (o : OH)
    (h : ∃ a, L = a ++ (d :: r) ∧ acc = (a.filter P).map f ∧ Up oh1 o ∧ o[oh1.length]? = some (.lst acc)) :
    CStep oh1.length g t el s (fun rest acc o => ∃ a, L = a ++ rest ∧ acc = (a.filter P).map f ∧ Up oh1 o ∧ o[oh1.length]? = some (.lst acc)) d r acc o := by
  obtain ⟨a, e1, e2, hup, hn⟩ := h
  obtain ⟨s1, h1, h2, h3⟩ := hp d (by rw [e1]; simp) o hup
  refine ⟨s1, o, h1, P d, o, h2, ?_⟩
  cases hd : P d with
  | false => exact .inl ⟨rfl, a ++ [d], by simp [e1], by simp [e2, List.filter_append, hd], hup, hn⟩
  | true =>
    refine .inr ⟨rfl, f d, o, h3 hd, hn, ?_, a ++ [d], by simp [e1], by simp [e2, List.filter_append, hd], hup.set (Nat.le_refl _), get_set hn⟩
    refine size_lt (Nat.le_trans ?_ hL)
    rw [e1, e2, List.length_map, List.length_append]
    have := List.length_filter_le P a
    omega
theorem lcT_pure {mi : Ev → M Src} {g : GM} {t : Ev → M Bool} {el : Ev → M D} {vs : List Nat} {s : Ev} {oh oh1 : OH} {l : List D} (P : D → Bool) (f : D → D) (hm : mi s oh = .ok (.val (.tup l)) oh1) (hl : l.length ≤ 2 ^ 20) (hp : ∀ d ∈ l, CPure g t el (wipeE s vs) oh1 P f d) :
    ∃ oh', eLc mi g t el vs s oh = .ok (.ref oh1.length) oh' ∧ Up oh1 oh' ∧ oh'[oh1.length]? = some (.lst ((l.filter P).map f)) := by
  obtain ⟨oh', acc', e, a, e1, e2, hup, hn⟩ := lcT_ind hm (fun rest acc o => ∃ a, l = a ++ rest ∧ acc = (a.filter P).map f ∧ Up oh1 o ∧ o[oh1.length]? = some (.lst acc)) ⟨[], rfl, rfl, Up.app _ _, by simp⟩ (cpure_step hl hp)
  rw [List.append_nil] at e1
  subst e1; subst e2
  exact ⟨oh', e, hup, hn⟩
theorem lcR_pure {mi : Ev → M Src} {g : GM} {t : Ev → M Bool} {el : Ev → M D} {vs : List Nat} {s : Ev} {oh oh1 : OH} {k : Nat} {l : List D} (P : D → Bool) (f : D → D) (hm : mi s oh = .ok (.val (.ref k)) oh1) (hk : itemsOf oh1 (.ref k) = some l) (hl : l.length ≤ 2 ^ 20) (hp : ∀ d ∈ l, CPure g t el (wipeE s vs) oh1 P f d) :
    ∃ oh', eLc mi g t el vs s oh = .ok (.ref oh1.length) oh' ∧ Up oh1 oh' ∧ oh'[oh1.length]? = some (.lst ((l.filter P).map f)) := by
  have hit : ∀ o, Up oh1 o → itemsOf o (.ref k) = some l := fun o u => by
    simp only [itemsOf] at hk ⊢
    cases h : oh1[k]? with
    | none => rw [h] at hk; cases hk
    | some c =>
      rw [h] at hk
      rw [u _ _ h]
      exact hk
  obtain ⟨oh', acc', e, a, e1, e2, hup, hn⟩ := lcR_ind hm hk (fun rest acc o => ∃ a, l = a ++ rest ∧ acc = (a.filter P).map f ∧ Up oh1 o ∧ o[oh1.length]? = some (.lst acc)) (fun r acc o ⟨_, _, _, u, _⟩ => hit o u) ⟨[], rfl, rfl, Up.app _ _, by simp⟩ (cpure_step hl hp)
  rw [List.append_nil] at e1
  subst e1; subst e2
  exact ⟨oh', e, hup, hn⟩
theorem lcN_pure {mi : Ev → M Src} {g : GM} {t : Ev → M Bool} {el : Ev → M D} {vs : List Nat} {s : Ev} {oh oh1 : OH} {lo : Int} {k : Nat} (P : D → Bool) (f : D → D) (hm : mi s oh = .ok (.rng lo k) oh1) (hl : k ≤ 2 ^ 20) (hp : ∀ i : Nat, i < k → CPure g t el (wipeE s vs) oh1 P f (.int (lo + (i : Int)))) :
    ∃ oh', eLc mi g t el vs s oh = .ok (.ref oh1.length) oh' ∧ Up oh1 oh' ∧ oh'[oh1.length]? = some (.lst ((((List.range k).map fun (i : Nat) => D.int (lo + (i : Int))).filter P).map f)) := by
  obtain ⟨oh', acc', e, a, e1, e2, hup, hn⟩ := lcN_ind hm (fun rest acc o => ∃ a, ((List.range k).map fun (i : Nat) => D.int (lo + (i : Int))) = a ++ rest ∧ acc = (a.filter P).map f ∧ Up oh1 o ∧ o[oh1.length]? = some (.lst acc)) ⟨[], rfl, rfl, Up.app _ _, by simp⟩
    (cpure_step (by simpa using hl) (fun d hd => by
      obtain ⟨i, hi, rfl⟩ := List.mem_map.mp hd
      exact hp i (List.mem_range.mp hi)))
  rw [List.append_nil] at e1
  subst e1; subst e2
  exact ⟨oh', e, hup, hn⟩
/-- the element may make new objects: what it tells stands as long as nothing but the own list changes -/
def UpX (n : Nat) (oh oh' : OH) : Prop := ∀ (k : Nat) (c : Cell), k ≠ n → oh[k]? = some c → oh'[k]? = some c
theorem Up.upx {n : Nat} {a b : OH} (h : Up a b) : UpX n a b := fun k c _ e => h k c e
theorem UpX.trans {n : Nat} {a b c : OH} (h : UpX n a b) (h2 : UpX n b c) : UpX n a c := fun k x hk e => h2 k x hk (h k x hk e)
theorem UpX.of_set {n : Nat} {a : OH} {c : Cell} : UpX n a (a.set n c) := fun k x hk e => by
  rw [List.getElem?_set_ne (Ne.symm hk)]
  exact e
theorem Up.of_x {n : Nat} {a b : OH} (h : UpX n a b) (hn : a.length ≤ n) : Up a b := fun k x e => h k x (by
  have := (List.getElem?_eq_some_iff.mp e).1
  omega) e
inductive All2 {α β : Type} (Y : α → β → Prop) : List α → List β → Prop
  | nil : All2 Y [] []
  | cons {a : α} {b : β} {as : List α} {bs : List β} : Y a b → All2 Y as bs → All2 Y (a :: as) (b :: bs)
theorem All2.imp {α β : Type} {Y Z : α → β → Prop} (h : ∀ a b, Y a b → Z a b) : ∀ {as : List α} {bs : List β}, All2 Y as bs → All2 Z as bs
  | _, _, .nil => .nil
  | _, _, .cons y r => .cons (h _ _ y) (All2.imp h r)
theorem All2.app {α β : Type} {Y : α → β → Prop} : ∀ {as : List α} {bs : List β} {as' : List α} {bs' : List β}, All2 Y as bs → All2 Y as' bs' → All2 Y (as ++ as') (bs ++ bs')
  | _, _, _, _, .nil, h => h
  | _, _, _, _, .cons y r, h => .cons y (All2.app r h)
theorem All2.len {α β : Type} {Y : α → β → Prop} : ∀ {as : List α} {bs : List β}, All2 Y as bs → as.length = bs.length
  | _, _, .nil => rfl
  | _, _, .cons _ r => congrArg Nat.succ r.len
/-- no filter; a row stands for each element of the source -/
def CMake {β : Type} (g : GM) (t : Ev → M Bool) (el : Ev → M D) (s : Ev) (oh1 : OH) (Y : OH → D → β → Prop) (Z : OH → D → β → Prop) (d : D) (b : β) : Prop :=
  ∀ o, Up oh1 o → o[oh1.length]? ≠ none → Z o d b → ∃ s1, g d s o = some (s1, o) ∧ t s1 o = .ok true o ∧ ∃ y o3, el s1 o = .ok y o3 ∧ Up o o3 ∧ Y o3 y b
theorem lcR_make {β : Type} {mi : Ev → M Src} {g : GM} {t : Ev → M Bool} {el : Ev → M D} {vs : List Nat} {s : Ev} {oh oh1 : OH} {k : Nat} {l : List D} {bs : List β} {Y Z : OH → D → β → Prop} (hY : ∀ o o' y b, UpX oh1.length o o' → Y o y b → Y o' y b) (hZ : ∀ o o' y b, Up oh1 o → Up oh1 o' → UpX oh1.length o o' → Z o y b → Z o' y b) (hm : mi s oh = .ok (.val (.ref k)) oh1) (hk : itemsOf oh1 (.ref k) = some l) (hl : l.length ≤ 2 ^ 20)
    (hz : All2 (Z oh1) l bs) (hp : ∀ d ∈ l, ∀ b, CMake g t el (wipeE s vs) oh1 Y Z d b) :
    ∃ oh' ds, eLc mi g t el vs s oh = .ok (.ref oh1.length) oh' ∧ Up oh1 oh' ∧ oh'[oh1.length]? = some (.lst ds) ∧ All2 (Y oh') ds bs := by
  have hit : ∀ o, Up oh1 o → itemsOf o (.ref k) = some l := fun o u => by
    simp only [itemsOf] at hk ⊢
    cases h : oh1[k]? with
    | none => rw [h] at hk; cases hk
    | some c =>
      rw [h] at hk
      rw [u _ _ h]
      exact hk
  obtain ⟨oh', acc', e, a, rb, ab, e1, e2, h1, h2, hup, hn⟩ := lcR_ind (g := g) (t := t) (el := el) (vs := vs) hm hk (fun rest acc o => ∃ a rb ab, l = a ++ rest ∧ bs = ab ++ rb ∧ All2 (Z o) rest rb ∧ All2 (Y o) acc ab ∧ Up oh1 o ∧ o[oh1.length]? = some (.lst acc)) (fun r acc o ⟨_, _, _, _, _, _, _, u, _⟩ => hit o u)
    ⟨[], bs, [], rfl, rfl, hz.imp fun a b q => hZ _ _ _ _ (Up.refl _) (Up.app _ _) (Up.app _ _).upx q, .nil, Up.app _ _, by simp⟩
    (fun d r acc o ⟨a, rb, ab, e1, e2, h1, h2, hup, hn⟩ => by
      cases h1 with
      | @cons _ b _ rb' q h1 =>
        obtain ⟨s1, g1, g2, y, o3, g3, u3, hy⟩ := hp d (by rw [e1]; simp) b o hup (by rw [hn]; simp) q
        have ux : UpX oh1.length o (o3.set oh1.length (.lst (acc ++ [y]))) := u3.upx.trans .of_set
        refine ⟨s1, o, g1, true, o, g2, .inr ⟨rfl, y, o3, g3, u3 _ _ hn, ?_, a ++ [d], rb', ab ++ [b], by simp [e1], by simp [e2], h1.imp fun _ _ z => hZ _ _ _ _ hup ((hup.trans u3).set (Nat.le_refl _)) ux z, (h2.imp fun _ _ z => hY _ _ _ _ ux z).app (.cons (hY _ _ _ _ .of_set hy) .nil), (hup.trans u3).set (Nat.le_refl _), get_set (u3 _ _ hn)⟩⟩
        refine size_lt (Nat.le_trans ?_ hl)
        have l1 := h2.len
        have l2 := h1.len
        have l3 := hz.len
        rw [e2] at l3
        simp at l3
        omega)
  cases h1
  rw [List.append_nil] at e2
  subst e2
  exact ⟨oh', acc', e, hup, hn, h2⟩
/-- lists of whole numbers side by side -/
theorem toPys_ints (f : D → Option PyData) (hf : ∀ i, f (.int i) = some (.int i)) : ∀ xs : List Int, toPys f (xs.map D.int) = some (xs.map PyData.int)
  | [] => rfl
  | x :: xs => by
    simp only [List.map_cons, toPys, hf, toPys_ints f hf xs]
theorem toPy_int (oh : OH) (k : Nat) (i : Int) : toPy oh k (.int i) = some (.int i) := by cases k <;> rfl
theorem lay_ints : ∀ xs : List Int, PyData.canLayAll0 (xs.map PyData.int) = true
  | [] => by simp [PyData.canLayAll0]
  | x :: xs => by simp [PyData.canLayAll0, PyData.canLay0, lay_ints xs]
theorem depth_ints : ∀ xs : List Int, PyData.depthAll (xs.map PyData.int) = 0
  | [] => by simp [PyData.depthAll]
  | x :: xs => by simp [PyData.depthAll, PyData.depth, depth_ints xs]
theorem shaped_ints (xs : List Int) : SeqAt.shaped (.list (xs.map PyData.int)) = true := by
  simp [SeqAt.shaped, PyData.canLay0, lay_ints, PyData.depth, depth_ints]
theorem shaped_tints (xs : List Int) : SeqAt.shaped (.tuple (xs.map PyData.int)) = true := by
  simp [SeqAt.shaped, PyData.canLay0, lay_ints, PyData.depth, depth_ints]
theorem eqv_ints : ∀ xs ys : List Int, PyData.eqvAll (xs.map PyData.int) (ys.map PyData.int) = decide (xs = ys)
  | [], [] => by simp [PyData.eqvAll]
  | [], y :: ys => by simp [PyData.eqvAll]
  | x :: xs, [] => by simp [PyData.eqvAll]
  | x :: xs, y :: ys => by
    simp only [List.map_cons, PyData.eqvAll, PyData.eqv, eqv_ints xs ys]
    by_cases h1 : x = y <;> by_cases h2 : xs = ys <;> simp [h1, h2]
theorem toPy_lints {oh : OH} {a k : Nat} {xs : List Int} (h : oh[a]? = some (.lst (xs.map D.int))) : toPy oh (k + 1) (.ref a) = some (.list (xs.map PyData.int)) := by
  simp only [toPy, h, toPys_ints (toPy oh k) (toPy_int oh k) xs, Option.map_some]
theorem eqD_ints {oh : OH} {a b : Nat} {xs ys : List Int} (h1 : oh[a]? = some (.lst (xs.map D.int))) (h2 : oh[b]? = some (.lst (ys.map D.int))) : eqD oh (.ref a) (.ref b) = some (decide (xs = ys)) := by
  simp only [eqD, eqS, eqDp, toPy_lints (k := 59) h1, toPy_lints (k := 59) h2, shaped_ints, Bool.and_true, if_true, PyData.eqv, eqv_ints]
theorem z_eqli {oh : OH} {a b : Nat} {xs ys : List Int} (h1 : oh[a]? = some (.lst (xs.map D.int))) (h2 : oh[b]? = some (.lst (ys.map D.int))) : pEq (.ref a) (.ref b) oh = some (.bl (decide (xs = ys)), oh) := by
  simp only [pEq, eqD_ints h1 h2, Option.map_some]
/-- texts of pairs -/
theorem int_len {i : Int} (h : i.natAbs.log2 < 1920) : (PyData.int i).shown.length ≤ 1921 := by
  show (PySem.Str.ofString (toString i)).length ≤ 1921
  rw [PySem.ofString_length]
  exact PySem.int_text_length_le (k := 1920) (by decide) h
theorem pair_len {a b : Str} {n m : Nat} (ha : a.length ≤ n) (hb : b.length ≤ m) : (tupleText [a, b]).length ≤ n + m + 4 := by
  have e : tupleText [a, b] = (Str.ofString "(" ++ (a ++ Str.ofString ", " ++ b)) ++ Str.ofString ")" := rfl
  have e1 : (Str.ofString "(").length = 1 := by decide
  have e2 : (Str.ofString ")").length = 1 := by decide
  have e3 : (Str.ofString ", ").length = 2 := by decide
  rw [e, Str.length_append, Str.length_append, Str.length_append, Str.length_append, e1, e2, e3]
  omega
theorem z_reprErr {t : Str} {z : Int} {oh : OH} (ht : (reprText t).length ≤ 1000 ∧ PyData.strOk t = true) (hz : z.natAbs.log2 < 1920) : bRepr [.tup [.str t, .int z]] oh = some (.str (PyData.tuple [.str t, .int z]).shown, oh) := by
  have hk : reprOk (PyData.tuple [.str t, .int z]) = true := by
    have h1 := pair_len ht.1 (int_len hz)
    have h2 : (PyData.tuple [.str t, .int z]).shown = tupleText [reprText t, (PyData.int z).shown] := by simp [PyData.shown, PyData.shownAll]
    unfold reprOk
    rw [h2, decide_eq_true (size_le (by omega))]
    simp [PyData.showable, PyData.showableAll, hz, SeqAt.shaped, PyData.canLay0, PyData.canLayAll0, ht.2, PyData.depth, PyData.depthAll]
  show (match toPy oh 50 (.tup [.str t, .int z]) with | some p => if reprOk p then some p.shown else none | none => none).map _ = _
  have : toPy oh 50 (.tup [.str t, .int z]) = some (.tuple [.str t, .int z]) := rfl
  rw [this]
  simp only [hk, if_true, Option.map_some]
theorem z_app {mo : Ev → M D} {ms : Ev → M (List D)} {s : Ev} {oh oh1 : OH} {n : Nat} {l l1 : List D} {d : D} (h : mo s oh = .ok (.ref n) oh) (hn : oh[n]? = some (.lst l)) (hm : ms s oh = .ok [d] oh1) (h1 : oh1[n]? = some (.lst l1)) (hl : l1.length < sizeLine) : eAppend mo ms s oh = .ok .non (oh1.set n (.lst (l1 ++ [d]))) := by
  unfold eAppend
  rw [h]
  show (if isLst oh n = true then (ms s oh).bnd fun ds oh => lf (pAppend n ds oh) else .bad) = _
  have : isLst oh n = true := by unfold isLst; rw [hn]
  rw [if_pos this, hm, z_bok]
  unfold pAppend
  simp only [h1, if_pos hl, z_lf]
theorem z_addt {l m : List D} {oh : OH} (hl : l.length + m.length ≤ sizeLine) : pAdd (.tup l) (.tup m) oh = some (.tup (l ++ m), oh) := by
  simp only [pAdd, if_pos hl]
theorem toInts_map : ∀ ns : List Int, toInts (ns.map D.int) = some ns
  | [] => rfl
  | n :: r => by simp only [List.map_cons, toInts, toInts_map r, Option.map_some]
theorem z_sum {oh : OH} {n : Nat} {ns : List Int} (h : oh[n]? = some (.lst (ns.map D.int))) : bSum [.ref n] oh = some (.int ns.sum, oh) := by
  simp only [bSum, z_itl h, toInts_map, Option.map_some]
theorem z_last {oh : OH} {x d : D} {l : List D} (h : itemsOf oh x = some l) (hl : l.getLast? = some d) : pIx x (.int (-1)) oh = some (d, oh) := by
  have hne : l ≠ [] := fun z => by subst z; cases hl
  have hp : 0 < l.length := List.length_pos_iff.mpr hne
  have e : atI l (-1) = some d := by
    unfold atI ixN
    rw [if_neg (by omega), if_pos (by omega), Option.bind_some]
    have : (-1 + (l.length : Int)).toNat = l.length - 1 := by omega
    rw [this, ← List.getLast?_eq_getElem?]
    exact hl
  cases x with
  | str z => cases h
  | _ => simp only [pIx, h, e, Option.map_some]
theorem while_ind {t : Ev → M Bool} {body : SM} (I : Nat → Ev → OH → Prop) (F : Ev → OH → Prop) (step : ∀ m s oh, I m s oh → ∃ c oh1, t s oh = .ok c oh1 ∧ ((c = false ∧ F s oh1) ∨ (c = true ∧ ∃ s2 oh2 m2, body s oh1 = .nx s2 oh2 ∧ m2 < m ∧ I m2 s2 oh2))) {m : Nat} {s : Ev} {oh : OH} (h : I m s oh) :
    ∃ s' oh', sWhile t body s oh = .nx s' oh' ∧ F s' oh' := by
  have key : ∀ (k m : Nat), m < k → ∀ s oh, I m s oh → ∃ s' oh', loopW t body k s oh = .nx s' oh' ∧ F s' oh' := by
    intro k
    induction k with
    | zero => intro m hm; omega
    | succ k ih =>
      intro m hm s oh h
      obtain ⟨c, oh1, e1, ⟨rfl, hF⟩ | ⟨rfl, s2, oh2, m2, e2, hlt, h2⟩⟩ := step m s oh h
      · refine ⟨s, oh1, ?_, hF⟩
        rw [loopW.eq_2, e1]
        rfl
      · obtain ⟨s', oh', e, hF⟩ := ih m2 (by omega) s2 oh2 h2
        refine ⟨s', oh', ?_, hF⟩
        rw [loopW.eq_2, e1]
        show (match body s oh1 with
          | .nx s2 oh2 => loopW t body k s2 oh2
          | .ct s2 oh2 => loopW t body k s2 oh2
          | .bk s2 oh2 => .nx s2 oh2
          | r => r) = _
        rw [e2]
        exact e
  obtain ⟨s', oh', e, hF⟩ := key (m + 1) m (by omega) s oh h
  exact ⟨s', oh', sWhile_of e (by simp), hF⟩
end SK
set_option maxHeartbeats 4000000
namespace Wk
open PySem PySem.Spec PyProof.Rows L2 SKX SK LamX
def topS (i : Nat) : Stmt := PySem.Challenge.pw_skeinturns_k36_rows_of_a_lot_counted.main.body.getD i (.Pass ⟨0, 0, 0, 0⟩)
abbrev s_choose : Stmt := topS 9
theorem sc_choose : FnScope ["a", "b", "found", "step"] ["a", "b"] (defScope s_choose) := ⟨rfl, rfl, rfl, by decide +kernel, rfl, by decide +kernel, by decide +kernel⟩
abbrev s_bags : Stmt := topS 10
theorem sc_bags : FnScope ["kinds", "many", "count"] ["kinds", "many"] (defScope s_bags) := ⟨rfl, rfl, rfl, by decide +kernel, rfl, by decide +kernel, by decide +kernel⟩
abbrev s_power : Stmt := topS 13
theorem sc_power : FnScope ["base", "times", "found", "turn"] ["base", "times"] (defScope s_power) := ⟨rfl, rfl, rfl, by decide +kernel, rfl, by decide +kernel, by decide +kernel⟩
abbrev s_want_places : Stmt := topS 14
theorem sc_want_places : FnScope ["b"] ["b"] (defScope s_want_places) := ⟨rfl, rfl, rfl, by decide +kernel, rfl, by decide +kernel, by decide +kernel⟩
abbrev s_want_wheel : Stmt := topS 17
theorem sc_want_wheel : FnScope ["M"] ["M"] (defScope s_want_wheel) := ⟨rfl, rfl, rfl, by decide +kernel, rfl, by decide +kernel, by decide +kernel⟩
abbrev s_common : Stmt := topS 18
theorem sc_common : FnScope ["m", "numbers", "number"] ["m", "numbers"] (defScope s_common) := ⟨rfl, rfl, rfl, by decide +kernel, rfl, by decide +kernel, by decide +kernel⟩
abbrev s_measure : Stmt := topS 19
theorem sc_measure : FnScope ["M", "numbers"] ["M", "numbers"] (defScope s_measure) := ⟨rfl, rfl, rfl, by decide +kernel, rfl, by decide +kernel, by decide +kernel⟩
abbrev s_want_threads : Stmt := topS 23
theorem sc_want_threads : FnScope ["many", "M"] ["many", "M"] (defScope s_want_threads) := ⟨rfl, rfl, rfl, by decide +kernel, rfl, by decide +kernel, by decide +kernel⟩
abbrev s_rows_of_lot : Stmt := topS 24
theorem sc_rows_of_lot : FnScope ["b", "many", "M", "ring", "step"] ["b", "many", "M"] (defScope s_rows_of_lot) := ⟨rfl, rfl, rfl, by decide +kernel, rfl, by decide +kernel, by decide +kernel⟩
abbrev s_lot_ledgers : Stmt := topS 25
theorem sc_lot_ledgers : FnScope ["b", "many", "M"] ["b", "many", "M"] (defScope s_lot_ledgers) := ⟨rfl, rfl, rfl, by decide +kernel, rfl, by decide +kernel, by decide +kernel⟩
abbrev s__law_pool : Stmt := topS 27
theorem sc__law_pool : FnScope ["script", "k", "cell", "big", "mixed"] ["script", "k"] (defScope s__law_pool) := ⟨rfl, rfl, rfl, by decide +kernel, rfl, by decide +kernel, by decide +kernel⟩
abbrev s__law_take : Stmt := topS 28
theorem sc__law_take : FnScope ["source", "top", "drawn"] ["source", "top"] (defScope s__law_take) := ⟨rfl, rfl, rfl, by decide +kernel, rfl, by decide +kernel, by decide +kernel⟩
abbrev s__law_one : Stmt := topS 29
theorem sc__law_one : FnScope ["source", "things"] ["source", "things"] (defScope s__law_one) := ⟨rfl, rfl, rfl, by decide +kernel, rfl, by decide +kernel, by decide +kernel⟩
abbrev s__law_bags : Stmt := topS 30
theorem sc__law_bags : FnScope ["kinds", "many", "found", "turn", "rows", "row", "kind"] ["kinds", "many"] (defScope s__law_bags) := ⟨rfl, rfl, rfl, by decide +kernel, rfl, by decide +kernel, by decide +kernel⟩
abbrev s__law_common : Stmt := topS 31
theorem sc__law_common : FnScope ["a", "b"] ["a", "b"] (defScope s__law_common) := ⟨rfl, rfl, rfl, by decide +kernel, rfl, by decide +kernel, by decide +kernel⟩
abbrev s__law_rows : Stmt := topS 32
theorem sc__law_rows : FnScope ["b", "many", "wheel", "spares", "kinds", "ring", "found", "step", "rows", "turn", "longer", "row", "height"] ["b", "many", "wheel"] (defScope s__law_rows) := ⟨rfl, rfl, rfl, by decide +kernel, rfl, by decide +kernel, by decide +kernel⟩
abbrev s__law_refused : Stmt := topS 33
theorem sc__law_refused : FnScope ["b", "many", "wheel", "found", "e"] ["b", "many", "wheel"] (defScope s__law_refused) := ⟨rfl, rfl, rfl, by decide +kernel, rfl, by decide +kernel, by decide +kernel⟩
abbrev s_law : Stmt := topS 34
theorem sc_law : FnScope ["script", "turn", "source", "b", "many", "wheel", "told", "far", "bad", "worse", "worst"] ["script"] (defScope s_law) := ⟨rfl, rfl, rfl, by decide +kernel, rfl, by decide +kernel, by decide +kernel⟩
/-! ### the mirrors -/
def errs_ : List Str := ["BadSize", "BadWheel", "BadCount"]
def subOf (B c : Str) : Bool := c == B || B == "Refused"
noncomputable def m_choose : SM := (sSeq (sIf (tB1 (e2 (pLt) (eVar 0) (eC (.int 0)))) (sRaise "BadCount" (eVar 0)) sSkip) (sSeq (sIf (tNotD (tB1 (eCh pLe pLe (eC (.int 0)) (eVar 1) (eC (.int 400))))) (sRaise "BadCount" (eVar 1)) sSkip) (sSeq (sIf (tB1 (e2 (pLt) (eVar 0) (eVar 1))) (sRet (eC (.int 0))) sSkip) (sSeq (sSet 2 (eC (.int 1))) (sSeq (sFor (iRange1 (aCons (eVar 1) aNil)) (gN 3) (sSet 2 (e2 pDiv (e2 pMul (eVar 2) (e2 pSub (eVar 0) (eVar 3))) (e2 pAdd (eVar 3) (eC (.int 1)))))) (sRet (eVar 2)))))))
noncomputable def f_choose : Fn := mkFn 4 (m_choose)
noncomputable def m_bags : SM := (sSeq (sFor (iVal (eTup (aCons (eVar 0) (aCons (eVar 1) aNil)))) (gN 2) (sIf (tB1 (e2 (pLt) (eVar 2) (eC (.int 0)))) (sRaise "BadCount" (eVar 2)) sSkip)) (sSeq (sIf (tAndD (tB1 (e2 (pGt) (eVar 1) (eC (.int 60)))) (tB1 (e2 (pGt) (eVar 0) (eC (.int 400))))) (sRaise "BadCount" (eVar 0)) sSkip) (sSeq (sIf (tB1 (e2 (pEq) (eVar 0) (eC (.int 0)))) (sRet (eIf (tB1 (e2 (pEq) (eVar 1) (eC (.int 0)))) (eC (.int 1)) (eC (.int 0)))) sSkip) (sSeq (sIf (tB1 (e2 (pLe) (eVar 1) (eC (.int 60)))) (sRet (eCall f_choose (aCons (e2 pSub (e2 pAdd (eVar 0) (eVar 1)) (eC (.int 1))) (aCons (eVar 1) aNil)))) sSkip) (sRet (eCall f_choose (aCons (e2 pSub (e2 pAdd (eVar 0) (eVar 1)) (eC (.int 1))) (aCons (e2 pSub (eVar 0) (eC (.int 1))) aNil))))))))
noncomputable def f_bags : Fn := mkFn 3 (m_bags)
noncomputable def m_power : SM := (sSeq (sSet 2 (eC (.int 1))) (sSeq (sFor (iRange1 (aCons (eVar 1) aNil)) (gN 3) (sSet 2 (e2 pMul (eVar 2) (eVar 0)))) (sRet (eVar 2))))
noncomputable def f_power : Fn := mkFn 4 (m_power)
noncomputable def m_want_places : SM := (sIf (tNotD (tB1 (eCh pLe pLe (eC (.int 1)) (eVar 0) (eC (.int 20))))) (sRaise "BadSize" (eVar 0)) sSkip)
noncomputable def f_want_places : Fn := mkFn 1 (m_want_places)
noncomputable def m_want_wheel : SM := (sIf (tNotD (tB1 (eCh pLe pLe (eC (.int 0)) (eVar 0) (eC (.int 1000000))))) (sRaise "BadWheel" (eVar 0)) sSkip)
noncomputable def f_want_wheel : Fn := mkFn 1 (m_want_wheel)
noncomputable def m_common : SM := (sSeq (sFor (iVal (eVar 1)) (gN 2) (sSet 0 (eCB bGcd (aCons (eVar 0) (aCons (eVar 2) aNil))))) (sRet (eVar 0)))
noncomputable def f_common : Fn := mkFn 3 (m_common)
noncomputable def m_measure : SM := (sSeq (sExpr (eCall f_want_wheel (aCons (eVar 0) aNil))) (sRet (eCall f_common (aCons (eVar 0) (aCons (eVar 1) aNil)))))
noncomputable def f_measure : Fn := mkFn 2 (m_measure)
noncomputable def m_want_threads : SM := (sSeq (sIf (tNotD (tB1 (eCh pLe pLe (eC (.int 0)) (eVar 0) (eC (.int 40))))) (sRaise "BadCount" (eVar 0)) sSkip) (sIf (tNotD (tB1 (eCh pLe pLe (eC (.int 1)) (eVar 1) (eC (.int 1000))))) (sRaise "BadWheel" (eVar 1)) sSkip))
noncomputable def f_want_threads : Fn := mkFn 2 (m_want_threads)
noncomputable def m_rows_of_lot : SM := (sSeq (sIf (tB1 (e2 (pEq) (eVar 0) (eC (.int 1)))) (sRet (eCB bInt (aCons (e2 (pEq) (eVar 1) (eC (.int 0))) aNil))) sSkip) (sSeq (sIf (tB1 (e2 (pEq) (eVar 0) (eC (.int 2)))) (sRet (eIf (tB1 (e2 (pGt) (eVar 1) (eC (.int 0)))) (eCall f_bags (aCons (eVar 2) (aCons (eVar 1) aNil))) (eC (.int 0)))) sSkip) (sSeq (sIf (tB1 (e2 (pLt) (eVar 1) (e2 pSub (eVar 0) (eC (.int 1))))) (sRet (eC (.int 0))) sSkip) (sSeq (sIf (tB1 (e2 (pEq) (eVar 1) (e2 pSub (eVar 0) (eC (.int 1))))) (sRet (eCall f_power (aCons (eVar 2) (aCons (e2 pSub (eVar 0) (eC (.int 1))) aNil)))) sSkip) (sSeq (sIf (tB1 (e2 (pEq) (eVar 1) (eVar 0))) (sRet (eCB bSum (aCons (eLc (iRange1 (aCons (e2 pAdd (e2 pDiv (eVar 2) (eC (.int 2))) (eC (.int 1))) aNil)) ((CT.one 3)).g tYesD (eCall f_power (aCons (eCall f_measure (aCons (eVar 2) (aCons (eTup (aCons (eVar 3) aNil)) aNil))) (aCons (e2 pSub (eVar 0) (eC (.int 1))) aNil))) [3]) aNil))) sSkip) (sRet (eCB bSum (aCons (eLc (iRange2 (aCons (eC (.int 1)) (aCons (e2 pAdd (eVar 2) (eC (.int 1))) aNil))) ((CT.one 4)).g (tB1 (e2 (pEq) (e2 pMod (eVar 2) (eVar 4)) (eC (.int 0)))) (eCall f_power (aCons (eVar 4) (aCons (e2 pSub (eVar 0) (eC (.int 1))) aNil))) [4]) aNil))))))))
noncomputable def f_rows_of_lot : Fn := mkFn 5 (m_rows_of_lot)
noncomputable def m_lot_ledgers : SM := (sSeq (sExpr (eCall f_want_places (aCons (eVar 0) aNil))) (sSeq (sExpr (eCall f_want_threads (aCons (eVar 1) (aCons (eVar 2) aNil)))) (sRet (eCall f_rows_of_lot (aCons (eVar 0) (aCons (eVar 1) (aCons (eVar 2) aNil)))))))
noncomputable def f_lot_ledgers : Fn := mkFn 3 (m_lot_ledgers)
noncomputable def m__law_pool : SM := (sSeq (sSet 2 (eC (.int 0))) (sSeq (sIf (tB1 (e2 (pLt) (eVar 1) (eCB bLen (aCons (eVar 0) aNil)))) (sSet 2 (e2 pIx (eVar 0) (eVar 1))) (sIf (tTru (eVar 0)) (sSet 2 (e2 pIx (eVar 0) (eC (.int 0)))) sSkip)) (sSeq (sSet 3 (eCB bMax2 (aCons (eCB bInt (aCons (eVar 2) aNil)) (aCons (eCB bInt (aCons (e2 pSub (e1 pNeg (eC (.int 1))) (eVar 2)) aNil)) aNil)))) (sSeq (sSet 4 (e2 pMod (eCB bInt (aCons (e2 pMul (e2 pAdd (e2 pAdd (e2 pAdd (e2 pMod (eCB bInt (aCons (eVar 3) aNil)) (eC (.int 2147483629))) (e2 pMul (e2 pMul (eC (.int 7919)) (eVar 1)) (eVar 1))) (e2 pMul (eC (.int 31)) (eVar 1))) (eC (.int 17))) (eC (.int 48271))) aNil)) (eC (.int 2147483647)))) (sRet (eLst (aCons (e2 pMul (eVar 3) (eCB bInt (aCons (e2 (pGe) (eVar 3) (e2 pPow (eC (.int 10)) (eC (.int 18)))) aNil))) (aCons (eVar 4) aNil))))))))
noncomputable def f__law_pool : Fn := mkFn 5 (m__law_pool)
noncomputable def m__law_take : SM := (sSeq (sIf (tB1 (e2 (pGt) (e2 pIx (eVar 0) (eC (.int 0))) (eC (.int 0)))) (sSeq (sSet 2 (e2 pMod (eCB bInt (aCons (e2 pIx (eVar 0) (eC (.int 0))) aNil)) (eVar 1))) (sSeq (sAsg (e2 pDiv (e2 pIx (eVar 0) (eC (.int 0))) (eVar 1)) (gSub (eVar 0) (eC (.int 0)))) (sRet (eVar 2)))) sSkip) (sSeq (sAsg (e2 pMod (eCB bInt (aCons (e2 pAdd (e2 pMul (e2 pIx (eVar 0) (eC (.int 1))) (eC (.int 39373))) (eC (.int 7))) aNil)) (eC (.int 2147483647))) (gSub (eVar 0) (eC (.int 1)))) (sRet (e2 pMod (eCB bInt (aCons (e2 pDiv (e2 pMod (eCB bInt (aCons (e2 pMul (e2 pIx (eVar 0) (eC (.int 1))) (e2 pIx (eVar 0) (eC (.int 1)))) aNil)) (eC (.int 2147483629))) (eC (.int 32))) aNil)) (eVar 1)))))
noncomputable def f__law_take : Fn := mkFn 3 (m__law_take)
noncomputable def m__law_one : SM := (sRet (e2 pIx (eVar 1) (eCall f__law_take (aCons (eVar 0) (aCons (eCB bLen (aCons (eVar 1) aNil)) aNil)))))
noncomputable def f__law_one : Fn := mkFn 2 (m__law_one)
noncomputable def m__law_bags : SM := (sSeq (sSet 2 (eLst (aCons (eTup aNil) aNil))) (sSeq (sFor (iRange1 (aCons (eVar 1) aNil)) (gN 3) (sSeq (sSet 4 (eLst aNil)) (sSeq (sFor (iVal (eVar 2)) (gN 5) (sFor (iRange2 (aCons (eIf (tTru (eVar 5)) (e2 pIx (eVar 5) (e1 pNeg (eC (.int 1)))) (eC (.int 0))) (aCons (eVar 0) aNil))) (gN 6) (sExpr (eAppend (eVar 4) (aCons (e2 pAdd (eVar 5) (eTup (aCons (eVar 6) aNil))) aNil))))) (sSet 2 (eVar 4))))) (sRet (eVar 2))))
noncomputable def f__law_bags : Fn := mkFn 7 (m__law_bags)
noncomputable def m__law_common : SM := (sSeq (sWhile (tB1 (e2 (pGt) (eVar 1) (eC (.int 0)))) (sPar2 0 1 (aCons (eVar 1) (aCons (e2 pMod (eCB bInt (aCons (eVar 0) aNil)) (eVar 1)) aNil)))) (sRet (eVar 0)))
noncomputable def f__law_common : Fn := mkFn 2 (m__law_common)
noncomputable def m__law_rows : SM := (sSeq (sIf (tB1 (e2 (pEq) (eVar 0) (eC (.int 1)))) (sRet (eIf (tB1 (e2 (pEq) (eVar 1) (eC (.int 0)))) (eLst (aCons (eC (.str "one")) aNil)) (eLst aNil))) sSkip) (sSeq (sIf (tB1 (e2 (pEq) (eVar 0) (eC (.int 2)))) (sRet (eIf (tB1 (e2 (pGt) (eVar 1) (eC (.int 0)))) (eCall f__law_bags (aCons (eVar 2) (aCons (eVar 1) aNil))) (eLst aNil))) sSkip) (sSeq (sPar2 3 4 (aCons (e2 pAdd (e2 pSub (eVar 1) (eVar 0)) (eC (.int 1))) (aCons (eLst aNil) aNil))) (sSeq (sIf (tB1 (e2 (pEq) (eVar 3) (eC (.int 0)))) (sSet 4 (eLst (aCons (eTup (aCons (eVar 2) (aCons (eC .non) aNil))) aNil))) sSkip) (sSeq (sIf (tB1 (e2 (pEq) (eVar 3) (eC (.int 1)))) (sFor (iRange1 (aCons (eVar 2) aNil)) (gN 5) (sIf (tB1 (e2 (pLe) (eVar 5) (e2 pSub (eVar 2) (eVar 5)))) (sExpr (eAppend (eVar 4) (aCons (eTup (aCons (eCall f__law_common (aCons (eVar 2) (aCons (eVar 5) aNil))) (aCons (eVar 5) aNil))) aNil))) sSkip)) sSkip) (sSeq (sIf (tB1 (e2 (pGt) (eVar 3) (eC (.int 1)))) (sSet 4 (eLc (iRange2 (aCons (eC (.int 1)) (aCons (e2 pAdd (eVar 2) (eC (.int 1))) aNil))) ((CT.one 7)).g (tB1 (e2 (pEq) (e2 pMod (eVar 2) (eVar 7)) (eC (.int 0)))) (eTup (aCons (eVar 7) (aCons (eC .non) aNil))) [7])) sSkip) (sSeq (sSet 6 (eLst aNil)) (sSeq (sFor (iVal (eVar 4)) (gT 2 (SK.gCons (gN 7) (SK.gCons (gN 5) SK.gNil))) (sSeq (sSet 8 (eLst (aCons (eTup (aCons (eVar 7) (aCons (eVar 5) aNil))) aNil))) (sSeq (sFor (iRange1 (aCons (e2 pSub (eVar 0) (eC (.int 1))) aNil)) (gN 9) (sSeq (sSet 10 (eLst aNil)) (sSeq (sFor (iVal (eVar 8)) (gN 11) (sFor (iRange1 (aCons (eVar 7) aNil)) (gN 12) (sExpr (eAppend (eVar 10) (aCons (e2 pAdd (eVar 11) (eTup (aCons (eVar 12) aNil))) aNil))))) (sSet 8 (eVar 10))))) (sSet 6 (e2 pAdd (eVar 6) (eVar 8)))))) (sRet (eVar 6))))))))))
noncomputable def f__law_rows : Fn := mkFn 13 (m__law_rows)
noncomputable def m__law_refused : SM := (sSeq (sSet 3 (eTup aNil)) (sSeq (sTryN errs_ (sExpr (eCall f_lot_ledgers (aCons (eVar 0) (aCons (eVar 1) (aCons (eVar 2) aNil))))) [(subOf "BadSize", fun c w s oh => if 4 < s.length ∧ 4 ≠ 3 then .nx ((s.set 3 (some (.tup [.str "size", w]))).set 4 none) oh else .bad), (subOf "BadCount", fun c w s oh => if 4 < s.length ∧ 4 ≠ 3 then .nx ((s.set 3 (some (.tup [.str "count", w]))).set 4 none) oh else .bad), (subOf "BadWheel", fun c w s oh => if 4 < s.length ∧ 4 ≠ 3 then .nx ((s.set 3 (some (.tup [.str "wheel", w]))).set 4 none) oh else .bad), (subOf "Refused", fun _ _ s oh => (sSet 3 (eTup (aCons (eC (.str "other")) (aCons (eC (.int 0)) aNil)))) s oh)]) (sRet (eVar 3))))
noncomputable def f__law_refused : Fn := mkFn 5 (m__law_refused)
noncomputable def m_law : SM := (sSeq (sFor (iRange1 (aCons (eC (.int 3)) aNil)) (gN 1) (sSeq (sSet 2 (eCall f__law_pool (aCons (eVar 0) (aCons (eVar 1) aNil)))) (sSeq (sPar3 3 4 5 (aCons (e2 pAdd (eC (.int 1)) (eCall f__law_take (aCons (eVar 2) (aCons (eC (.int 4)) aNil)))) (aCons (eCall f__law_take (aCons (eVar 2) (aCons (eC (.int 7)) aNil))) (aCons (e2 pAdd (eC (.int 1)) (eCall f__law_take (aCons (eVar 2) (aCons (eC (.int 12)) aNil)))) aNil)))) (sSeq (sIf (tAndD (tB1 (e2 (pEq) (eVar 3) (eC (.int 2)))) (tB1 (e2 (pGt) (eVar 4) (eC (.int 3))))) (sSet 5 (e2 pAdd (eC (.int 1)) (e2 pMod (eCB bInt (aCons (eVar 5) aNil)) (eC (.int 4))))) sSkip) (sSeq (sIf (tB1 (e2 (pEq) (eVar 3) (eC (.int 4)))) (sSet 5 (e2 pAdd (eC (.int 1)) (e2 pMod (eCB bInt (aCons (eVar 5) aNil)) (eC (.int 6))))) sSkip) (sSeq (sSet 6 (eCallK0 f_lot_ledgers [2, 1, 0] (aCons (eVar 5) (aCons (eVar 4) (aCons (eVar 3) aNil))))) (sSeq (sIf (tOrD (tNotD (tTru (eIsB "int" (eVar 6)))) (tOrD (tTru (eIsB "bool" (eVar 6))) (tB1 (e2 (pNe) (eVar 6) (eCB bLen (aCons (eCall f__law_rows (aCons (eVar 3) (aCons (eVar 4) (aCons (eVar 5) aNil)))) aNil)))))) (sRet (eC (.bl false))) sSkip) (sSeq (sSet 7 (e2 pAdd (eC (.int 1)) (e2 pMul (eCall f__law_take (aCons (eVar 2) (aCons (eC (.int 3)) aNil))) (eCall f__law_take (aCons (eVar 2) (aCons (e2 pPow (eC (.int 10)) (eC (.int 9))) aNil)))))) (sSeq (sSet 8 (eCall f__law_one (aCons (eVar 2) (aCons (eLst (aCons (eC (.int 0)) (aCons (e2 pSub (eC (.int 1)) (eVar 7)) (aCons (e2 pAdd (eC (.int 20)) (eVar 7)) aNil)))) aNil)))) (sSeq (sSet 9 (eCall f__law_one (aCons (eVar 2) (aCons (eLst (aCons (e1 pNeg (eVar 7)) (aCons (e2 pAdd (eC (.int 40)) (eVar 7)) aNil))) aNil)))) (sSeq (sSet 10 (eCall f__law_one (aCons (eVar 2) (aCons (eLst (aCons (eC (.int 0)) (aCons (e2 pSub (eC (.int 1)) (eVar 7)) (aCons (e2 pAdd (eC (.int 1000)) (eVar 7)) aNil)))) aNil)))) (sSeq (sIf (tB1 (e2 (pNe) (eCall f__law_refused (aCons (eVar 8) (aCons (eCall f__law_one (aCons (eVar 2) (aCons (eLst (aCons (eVar 4) (aCons (eVar 9) aNil))) aNil))) (aCons (eCall f__law_one (aCons (eVar 2) (aCons (eLst (aCons (eVar 5) (aCons (eVar 10) aNil))) aNil))) aNil)))) (eTup (aCons (eC (.str "size")) (aCons (eVar 8) aNil))))) (sRet (eC (.bl false))) sSkip) (sSeq (sIf (tB1 (e2 (pNe) (eCall f__law_refused (aCons (eVar 3) (aCons (eVar 9) (aCons (eCall f__law_one (aCons (eVar 2) (aCons (eLst (aCons (eVar 5) (aCons (eVar 10) aNil))) aNil))) aNil)))) (eTup (aCons (eC (.str "count")) (aCons (eVar 9) aNil))))) (sRet (eC (.bl false))) sSkip) (sIf (tB1 (e2 (pNe) (eCall f__law_refused (aCons (eVar 3) (aCons (eVar 4) (aCons (eVar 10) aNil)))) (eTup (aCons (eC (.str "wheel")) (aCons (eVar 10) aNil))))) (sRet (eC (.bl false))) sSkip)))))))))))))) (sRet (eAndD (e2 (pEq) (eCall f_lot_ledgers (aCons (eC (.int 20)) (aCons (eC (.int 19)) (aCons (eC (.int 1)) aNil)))) (eC (.int 1))) (eAndD (e2 (pEq) (eCall f_lot_ledgers (aCons (eC (.int 1)) (aCons (eC (.int 40)) (aCons (eC (.int 1000)) aNil)))) (eC (.int 0))) (e2 (pEq) (eCall f_lot_ledgers (aCons (eC (.int 2)) (aCons (eC (.int 1)) (aCons (eC (.int 1000)) aNil)))) (eC (.int 1000)))))))
noncomputable def f_law : Fn := mkFn 11 (m_law)
/-! ### what the top has written -/
structure Txt (PP : Program) (K : PySem.W.Frag) (mg : Str → Option Value) (fI cc cda C_Refused C_BadSize C_BadWheel C_BadCount : Addr) (a_choose a_bags a_power a_want_places a_want_wheel a_common a_measure a_want_threads a_rows_of_lot a_lot_ledgers a__law_pool a__law_take a__law_one a__law_bags a__law_common a__law_rows a__law_refused a_law : Addr) (fd_choose fd_bags fd_power fd_want_places fd_want_wheel fd_common fd_measure fd_want_threads fd_rows_of_lot fd_lot_ledgers fd__law_pool fd__law_take fd__law_one fd__law_bags fd__law_common fd__law_rows fd__law_refused fd_law : FuncData) : Prop where
  ref : RefTxt PP K mg C_Refused fI cc cda
  e_Refused : ErrTxt K mg C_Refused fI "Refused" C_Refused
  e_BadSize : ErrTxt K mg C_Refused fI "BadSize" C_BadSize
  e_BadWheel : ErrTxt K mg C_Refused fI "BadWheel" C_BadWheel
  e_BadCount : ErrTxt K mg C_Refused fI "BadCount" C_BadCount
  exm_BadCount : ∀ c C, errs_.contains c = true → mg c = some (.ref C) → PySem.W.exmOne K (.ref C) (.ref C_BadCount) = some (subOf "BadCount" c)
  exm_BadSize : ∀ c C, errs_.contains c = true → mg c = some (.ref C) → PySem.W.exmOne K (.ref C) (.ref C_BadSize) = some (subOf "BadSize" c)
  exm_BadWheel : ∀ c C, errs_.contains c = true → mg c = some (.ref C) → PySem.W.exmOne K (.ref C) (.ref C_BadWheel) = some (subOf "BadWheel" c)
  exm_Refused : ∀ c C, errs_.contains c = true → mg c = some (.ref C) → PySem.W.exmOne K (.ref C) (.ref C_Refused) = some (subOf "Refused" c)
  g_MOST_CHOSEN : ∃ tk, mg "MOST_CHOSEN" = some (.int 400 tk)
  g_MOST_PLACES : ∃ tk, mg "MOST_PLACES" = some (.int 20 tk)
  g_MOST_SMALL : ∃ tk, mg "MOST_SMALL" = some (.int 60 tk)
  g_MOST_THREADS : ∃ tk, mg "MOST_THREADS" = some (.int 40 tk)
  g_MOST_WHEEL_howmany : ∃ tk, mg "MOST_WHEEL_howmany" = some (.int 1000 tk)
  g_MOST_WHEEL_rests : ∃ tk, mg "MOST_WHEEL_rests" = some (.int 1000000 tk)
  b_bool : mg "bool" = none
  b_int : mg "int" = none
  b_isinstance : mg "isinstance" = none
  b_len : mg "len" = none
  b_max : mg "max" = none
  b_range : mg "range" = none
  b_sum : mg "sum" = none
  m_gcd : mg "gcd" = some (.builtin "math.gcd")
  m_choose : mg "choose" = some (.ref a_choose)
  F_choose : Fun K "choose" "choose" s_choose a_choose fd_choose
  m_bags : mg "bags" = some (.ref a_bags)
  F_bags : Fun K "bags" "bags" s_bags a_bags fd_bags
  m_power : mg "power" = some (.ref a_power)
  F_power : Fun K "power" "power" s_power a_power fd_power
  m_want_places : mg "want_places" = some (.ref a_want_places)
  F_want_places : Fun K "want_places" "want_places" s_want_places a_want_places fd_want_places
  m_want_wheel : mg "want_wheel" = some (.ref a_want_wheel)
  F_want_wheel : Fun K "want_wheel" "want_wheel" s_want_wheel a_want_wheel fd_want_wheel
  m_common : mg "common" = some (.ref a_common)
  F_common : Fun K "common" "common" s_common a_common fd_common
  m_measure : mg "measure" = some (.ref a_measure)
  F_measure : Fun K "measure" "measure" s_measure a_measure fd_measure
  m_want_threads : mg "want_threads" = some (.ref a_want_threads)
  F_want_threads : Fun K "want_threads" "want_threads" s_want_threads a_want_threads fd_want_threads
  m_rows_of_lot : mg "rows_of_lot" = some (.ref a_rows_of_lot)
  F_rows_of_lot : Fun K "rows_of_lot" "rows_of_lot" s_rows_of_lot a_rows_of_lot fd_rows_of_lot
  m_lot_ledgers : mg "lot_ledgers" = some (.ref a_lot_ledgers)
  F_lot_ledgers : Fun K "lot_ledgers" "lot_ledgers" s_lot_ledgers a_lot_ledgers fd_lot_ledgers
  m__law_pool : mg "_law_pool" = some (.ref a__law_pool)
  F__law_pool : Fun K "_law_pool" "_law_pool" s__law_pool a__law_pool fd__law_pool
  m__law_take : mg "_law_take" = some (.ref a__law_take)
  F__law_take : Fun K "_law_take" "_law_take" s__law_take a__law_take fd__law_take
  m__law_one : mg "_law_one" = some (.ref a__law_one)
  F__law_one : Fun K "_law_one" "_law_one" s__law_one a__law_one fd__law_one
  m__law_bags : mg "_law_bags" = some (.ref a__law_bags)
  F__law_bags : Fun K "_law_bags" "_law_bags" s__law_bags a__law_bags fd__law_bags
  m__law_common : mg "_law_common" = some (.ref a__law_common)
  F__law_common : Fun K "_law_common" "_law_common" s__law_common a__law_common fd__law_common
  m__law_rows : mg "_law_rows" = some (.ref a__law_rows)
  F__law_rows : Fun K "_law_rows" "_law_rows" s__law_rows a__law_rows fd__law_rows
  m__law_refused : mg "_law_refused" = some (.ref a__law_refused)
  F__law_refused : Fun K "_law_refused" "_law_refused" s__law_refused a__law_refused fd__law_refused
  m_law : mg "law" = some (.ref a_law)
  F_law : Fun K "law" "law" s_law a_law fd_law
section
variable {PP : Program} {w : World} {K : PySem.W.Frag} {mg : Str → Option Value} {base : Heap} {fI cc cda C_Refused C_BadSize C_BadWheel C_BadCount : Addr} {a_choose a_bags a_power a_want_places a_want_wheel a_common a_measure a_want_threads a_rows_of_lot a_lot_ledgers a__law_pool a__law_take a__law_one a__law_bags a__law_common a__law_rows a__law_refused a_law : Addr} {fd_choose fd_bags fd_power fd_want_places fd_want_wheel fd_common fd_measure fd_want_threads fd_rows_of_lot fd_lot_ledgers fd__law_pool fd__law_take fd__law_one fd__law_bags fd__law_common fd__law_rows fd__law_refused fd_law : FuncData}
theorem errs_of {X : Cx} (hK : X.K = K) (hm : X.mg = mg) (T : Txt PP K mg fI cc cda C_Refused C_BadSize C_BadWheel C_BadCount a_choose a_bags a_power a_want_places a_want_wheel a_common a_measure a_want_threads a_rows_of_lot a_lot_ledgers a__law_pool a__law_take a__law_one a__law_bags a__law_common a__law_rows a__law_refused a_law fd_choose fd_bags fd_power fd_want_places fd_want_wheel fd_common fd_measure fd_want_threads fd_rows_of_lot fd_lot_ledgers fd__law_pool fd__law_take fd__law_one fd__law_bags fd__law_common fd__law_rows fd__law_refused fd_law) : Errs X C_Refused fI errs_ := by
  refine ⟨fun c C h1 h2 => ?_⟩
  subst hK; subst hm
  rw [List.contains_iff_mem] at h1
  simp only [errs_, List.mem_cons, List.not_mem_nil, or_false] at h1
  rcases h1 with rfl | rfl | rfl
  · have e := T.e_BadSize.gC.symm.trans h2
    cases e
    exact T.e_BadSize
  · have e := T.e_BadWheel.gC.symm.trans h2
    cases e
    exact T.e_BadWheel
  · have e := T.e_BadCount.gC.symm.trans h2
    cases e
    exact T.e_BadCount
theorem bd_choose (T : Txt PP K mg fI cc cda C_Refused C_BadSize C_BadWheel C_BadCount a_choose a_bags a_power a_want_places a_want_wheel a_common a_measure a_want_threads a_rows_of_lot a_lot_ledgers a__law_pool a__law_take a__law_one a__law_bags a__law_common a__law_rows a__law_refused a_law fd_choose fd_bags fd_power fd_want_places fd_want_wheel fd_common fd_measure fd_want_threads fd_rows_of_lot fd_lot_ledgers fd__law_pool fd__law_take fd__law_one fd__law_bags fd__law_common fd__law_rows fd__law_refused fd_law) : Binds K fd_choose ["a", "b"] [] := by
  obtain ⟨oc, od, kV, doc, pm, an, cdv, ct, osl, rfl, _⟩ := T.F_choose.ex
  exact Binds.all fun us hl => match us, hl with | [_, _], _ => rfl
theorem bd_bags (T : Txt PP K mg fI cc cda C_Refused C_BadSize C_BadWheel C_BadCount a_choose a_bags a_power a_want_places a_want_wheel a_common a_measure a_want_threads a_rows_of_lot a_lot_ledgers a__law_pool a__law_take a__law_one a__law_bags a__law_common a__law_rows a__law_refused a_law fd_choose fd_bags fd_power fd_want_places fd_want_wheel fd_common fd_measure fd_want_threads fd_rows_of_lot fd_lot_ledgers fd__law_pool fd__law_take fd__law_one fd__law_bags fd__law_common fd__law_rows fd__law_refused fd_law) : Binds K fd_bags ["kinds", "many"] [] := by
  obtain ⟨oc, od, kV, doc, pm, an, cdv, ct, osl, rfl, _⟩ := T.F_bags.ex
  exact Binds.all fun us hl => match us, hl with | [_, _], _ => rfl
theorem bd_power (T : Txt PP K mg fI cc cda C_Refused C_BadSize C_BadWheel C_BadCount a_choose a_bags a_power a_want_places a_want_wheel a_common a_measure a_want_threads a_rows_of_lot a_lot_ledgers a__law_pool a__law_take a__law_one a__law_bags a__law_common a__law_rows a__law_refused a_law fd_choose fd_bags fd_power fd_want_places fd_want_wheel fd_common fd_measure fd_want_threads fd_rows_of_lot fd_lot_ledgers fd__law_pool fd__law_take fd__law_one fd__law_bags fd__law_common fd__law_rows fd__law_refused fd_law) : Binds K fd_power ["base", "times"] [] := by
  obtain ⟨oc, od, kV, doc, pm, an, cdv, ct, osl, rfl, _⟩ := T.F_power.ex
  exact Binds.all fun us hl => match us, hl with | [_, _], _ => rfl
theorem bd_want_places (T : Txt PP K mg fI cc cda C_Refused C_BadSize C_BadWheel C_BadCount a_choose a_bags a_power a_want_places a_want_wheel a_common a_measure a_want_threads a_rows_of_lot a_lot_ledgers a__law_pool a__law_take a__law_one a__law_bags a__law_common a__law_rows a__law_refused a_law fd_choose fd_bags fd_power fd_want_places fd_want_wheel fd_common fd_measure fd_want_threads fd_rows_of_lot fd_lot_ledgers fd__law_pool fd__law_take fd__law_one fd__law_bags fd__law_common fd__law_rows fd__law_refused fd_law) : Binds K fd_want_places ["b"] [] := by
  obtain ⟨oc, od, kV, doc, pm, an, cdv, ct, osl, rfl, _⟩ := T.F_want_places.ex
  exact Binds.all fun us hl => match us, hl with | [_], _ => rfl
theorem bd_want_wheel (T : Txt PP K mg fI cc cda C_Refused C_BadSize C_BadWheel C_BadCount a_choose a_bags a_power a_want_places a_want_wheel a_common a_measure a_want_threads a_rows_of_lot a_lot_ledgers a__law_pool a__law_take a__law_one a__law_bags a__law_common a__law_rows a__law_refused a_law fd_choose fd_bags fd_power fd_want_places fd_want_wheel fd_common fd_measure fd_want_threads fd_rows_of_lot fd_lot_ledgers fd__law_pool fd__law_take fd__law_one fd__law_bags fd__law_common fd__law_rows fd__law_refused fd_law) : Binds K fd_want_wheel ["M"] [] := by
  obtain ⟨oc, od, kV, doc, pm, an, cdv, ct, osl, rfl, _⟩ := T.F_want_wheel.ex
  exact Binds.all fun us hl => match us, hl with | [_], _ => rfl
theorem bd_common (T : Txt PP K mg fI cc cda C_Refused C_BadSize C_BadWheel C_BadCount a_choose a_bags a_power a_want_places a_want_wheel a_common a_measure a_want_threads a_rows_of_lot a_lot_ledgers a__law_pool a__law_take a__law_one a__law_bags a__law_common a__law_rows a__law_refused a_law fd_choose fd_bags fd_power fd_want_places fd_want_wheel fd_common fd_measure fd_want_threads fd_rows_of_lot fd_lot_ledgers fd__law_pool fd__law_take fd__law_one fd__law_bags fd__law_common fd__law_rows fd__law_refused fd_law) : Binds K fd_common ["m", "numbers"] [] := by
  obtain ⟨oc, od, kV, doc, pm, an, cdv, ct, osl, rfl, _⟩ := T.F_common.ex
  exact Binds.all fun us hl => match us, hl with | [_, _], _ => rfl
theorem bd_measure (T : Txt PP K mg fI cc cda C_Refused C_BadSize C_BadWheel C_BadCount a_choose a_bags a_power a_want_places a_want_wheel a_common a_measure a_want_threads a_rows_of_lot a_lot_ledgers a__law_pool a__law_take a__law_one a__law_bags a__law_common a__law_rows a__law_refused a_law fd_choose fd_bags fd_power fd_want_places fd_want_wheel fd_common fd_measure fd_want_threads fd_rows_of_lot fd_lot_ledgers fd__law_pool fd__law_take fd__law_one fd__law_bags fd__law_common fd__law_rows fd__law_refused fd_law) : Binds K fd_measure ["M", "numbers"] [] := by
  obtain ⟨oc, od, kV, doc, pm, an, cdv, ct, osl, rfl, _⟩ := T.F_measure.ex
  exact Binds.all fun us hl => match us, hl with | [_, _], _ => rfl
theorem bd_want_threads (T : Txt PP K mg fI cc cda C_Refused C_BadSize C_BadWheel C_BadCount a_choose a_bags a_power a_want_places a_want_wheel a_common a_measure a_want_threads a_rows_of_lot a_lot_ledgers a__law_pool a__law_take a__law_one a__law_bags a__law_common a__law_rows a__law_refused a_law fd_choose fd_bags fd_power fd_want_places fd_want_wheel fd_common fd_measure fd_want_threads fd_rows_of_lot fd_lot_ledgers fd__law_pool fd__law_take fd__law_one fd__law_bags fd__law_common fd__law_rows fd__law_refused fd_law) : Binds K fd_want_threads ["many", "M"] [] := by
  obtain ⟨oc, od, kV, doc, pm, an, cdv, ct, osl, rfl, _⟩ := T.F_want_threads.ex
  exact Binds.all fun us hl => match us, hl with | [_, _], _ => rfl
theorem bd_rows_of_lot (T : Txt PP K mg fI cc cda C_Refused C_BadSize C_BadWheel C_BadCount a_choose a_bags a_power a_want_places a_want_wheel a_common a_measure a_want_threads a_rows_of_lot a_lot_ledgers a__law_pool a__law_take a__law_one a__law_bags a__law_common a__law_rows a__law_refused a_law fd_choose fd_bags fd_power fd_want_places fd_want_wheel fd_common fd_measure fd_want_threads fd_rows_of_lot fd_lot_ledgers fd__law_pool fd__law_take fd__law_one fd__law_bags fd__law_common fd__law_rows fd__law_refused fd_law) : Binds K fd_rows_of_lot ["b", "many", "M"] [] := by
  obtain ⟨oc, od, kV, doc, pm, an, cdv, ct, osl, rfl, _⟩ := T.F_rows_of_lot.ex
  exact Binds.all fun us hl => match us, hl with | [_, _, _], _ => rfl
theorem bd_lot_ledgers (T : Txt PP K mg fI cc cda C_Refused C_BadSize C_BadWheel C_BadCount a_choose a_bags a_power a_want_places a_want_wheel a_common a_measure a_want_threads a_rows_of_lot a_lot_ledgers a__law_pool a__law_take a__law_one a__law_bags a__law_common a__law_rows a__law_refused a_law fd_choose fd_bags fd_power fd_want_places fd_want_wheel fd_common fd_measure fd_want_threads fd_rows_of_lot fd_lot_ledgers fd__law_pool fd__law_take fd__law_one fd__law_bags fd__law_common fd__law_rows fd__law_refused fd_law) : Binds K fd_lot_ledgers ["b", "many", "M"] [] := by
  obtain ⟨oc, od, kV, doc, pm, an, cdv, ct, osl, rfl, _⟩ := T.F_lot_ledgers.ex
  exact Binds.all fun us hl => match us, hl with | [_, _, _], _ => rfl
theorem bd__law_pool (T : Txt PP K mg fI cc cda C_Refused C_BadSize C_BadWheel C_BadCount a_choose a_bags a_power a_want_places a_want_wheel a_common a_measure a_want_threads a_rows_of_lot a_lot_ledgers a__law_pool a__law_take a__law_one a__law_bags a__law_common a__law_rows a__law_refused a_law fd_choose fd_bags fd_power fd_want_places fd_want_wheel fd_common fd_measure fd_want_threads fd_rows_of_lot fd_lot_ledgers fd__law_pool fd__law_take fd__law_one fd__law_bags fd__law_common fd__law_rows fd__law_refused fd_law) : Binds K fd__law_pool ["script", "k"] [] := by
  obtain ⟨oc, od, kV, doc, pm, an, cdv, ct, osl, rfl, _⟩ := T.F__law_pool.ex
  exact Binds.all fun us hl => match us, hl with | [_, _], _ => rfl
theorem bd__law_take (T : Txt PP K mg fI cc cda C_Refused C_BadSize C_BadWheel C_BadCount a_choose a_bags a_power a_want_places a_want_wheel a_common a_measure a_want_threads a_rows_of_lot a_lot_ledgers a__law_pool a__law_take a__law_one a__law_bags a__law_common a__law_rows a__law_refused a_law fd_choose fd_bags fd_power fd_want_places fd_want_wheel fd_common fd_measure fd_want_threads fd_rows_of_lot fd_lot_ledgers fd__law_pool fd__law_take fd__law_one fd__law_bags fd__law_common fd__law_rows fd__law_refused fd_law) : Binds K fd__law_take ["source", "top"] [] := by
  obtain ⟨oc, od, kV, doc, pm, an, cdv, ct, osl, rfl, _⟩ := T.F__law_take.ex
  exact Binds.all fun us hl => match us, hl with | [_, _], _ => rfl
theorem bd__law_one (T : Txt PP K mg fI cc cda C_Refused C_BadSize C_BadWheel C_BadCount a_choose a_bags a_power a_want_places a_want_wheel a_common a_measure a_want_threads a_rows_of_lot a_lot_ledgers a__law_pool a__law_take a__law_one a__law_bags a__law_common a__law_rows a__law_refused a_law fd_choose fd_bags fd_power fd_want_places fd_want_wheel fd_common fd_measure fd_want_threads fd_rows_of_lot fd_lot_ledgers fd__law_pool fd__law_take fd__law_one fd__law_bags fd__law_common fd__law_rows fd__law_refused fd_law) : Binds K fd__law_one ["source", "things"] [] := by
  obtain ⟨oc, od, kV, doc, pm, an, cdv, ct, osl, rfl, _⟩ := T.F__law_one.ex
  exact Binds.all fun us hl => match us, hl with | [_, _], _ => rfl
theorem bd__law_bags (T : Txt PP K mg fI cc cda C_Refused C_BadSize C_BadWheel C_BadCount a_choose a_bags a_power a_want_places a_want_wheel a_common a_measure a_want_threads a_rows_of_lot a_lot_ledgers a__law_pool a__law_take a__law_one a__law_bags a__law_common a__law_rows a__law_refused a_law fd_choose fd_bags fd_power fd_want_places fd_want_wheel fd_common fd_measure fd_want_threads fd_rows_of_lot fd_lot_ledgers fd__law_pool fd__law_take fd__law_one fd__law_bags fd__law_common fd__law_rows fd__law_refused fd_law) : Binds K fd__law_bags ["kinds", "many"] [] := by
  obtain ⟨oc, od, kV, doc, pm, an, cdv, ct, osl, rfl, _⟩ := T.F__law_bags.ex
  exact Binds.all fun us hl => match us, hl with | [_, _], _ => rfl
theorem bd__law_common (T : Txt PP K mg fI cc cda C_Refused C_BadSize C_BadWheel C_BadCount a_choose a_bags a_power a_want_places a_want_wheel a_common a_measure a_want_threads a_rows_of_lot a_lot_ledgers a__law_pool a__law_take a__law_one a__law_bags a__law_common a__law_rows a__law_refused a_law fd_choose fd_bags fd_power fd_want_places fd_want_wheel fd_common fd_measure fd_want_threads fd_rows_of_lot fd_lot_ledgers fd__law_pool fd__law_take fd__law_one fd__law_bags fd__law_common fd__law_rows fd__law_refused fd_law) : Binds K fd__law_common ["a", "b"] [] := by
  obtain ⟨oc, od, kV, doc, pm, an, cdv, ct, osl, rfl, _⟩ := T.F__law_common.ex
  exact Binds.all fun us hl => match us, hl with | [_, _], _ => rfl
theorem bd__law_rows (T : Txt PP K mg fI cc cda C_Refused C_BadSize C_BadWheel C_BadCount a_choose a_bags a_power a_want_places a_want_wheel a_common a_measure a_want_threads a_rows_of_lot a_lot_ledgers a__law_pool a__law_take a__law_one a__law_bags a__law_common a__law_rows a__law_refused a_law fd_choose fd_bags fd_power fd_want_places fd_want_wheel fd_common fd_measure fd_want_threads fd_rows_of_lot fd_lot_ledgers fd__law_pool fd__law_take fd__law_one fd__law_bags fd__law_common fd__law_rows fd__law_refused fd_law) : Binds K fd__law_rows ["b", "many", "wheel"] [] := by
  obtain ⟨oc, od, kV, doc, pm, an, cdv, ct, osl, rfl, _⟩ := T.F__law_rows.ex
  exact Binds.all fun us hl => match us, hl with | [_, _, _], _ => rfl
theorem bd__law_refused (T : Txt PP K mg fI cc cda C_Refused C_BadSize C_BadWheel C_BadCount a_choose a_bags a_power a_want_places a_want_wheel a_common a_measure a_want_threads a_rows_of_lot a_lot_ledgers a__law_pool a__law_take a__law_one a__law_bags a__law_common a__law_rows a__law_refused a_law fd_choose fd_bags fd_power fd_want_places fd_want_wheel fd_common fd_measure fd_want_threads fd_rows_of_lot fd_lot_ledgers fd__law_pool fd__law_take fd__law_one fd__law_bags fd__law_common fd__law_rows fd__law_refused fd_law) : Binds K fd__law_refused ["b", "many", "wheel"] [] := by
  obtain ⟨oc, od, kV, doc, pm, an, cdv, ct, osl, rfl, _⟩ := T.F__law_refused.ex
  exact Binds.all fun us hl => match us, hl with | [_, _, _], _ => rfl
theorem bd_law (T : Txt PP K mg fI cc cda C_Refused C_BadSize C_BadWheel C_BadCount a_choose a_bags a_power a_want_places a_want_wheel a_common a_measure a_want_threads a_rows_of_lot a_lot_ledgers a__law_pool a__law_take a__law_one a__law_bags a__law_common a__law_rows a__law_refused a_law fd_choose fd_bags fd_power fd_want_places fd_want_wheel fd_common fd_measure fd_want_threads fd_rows_of_lot fd_lot_ledgers fd__law_pool fd__law_take fd__law_one fd__law_bags fd__law_common fd__law_rows fd__law_refused fd_law) : Binds K fd_law ["script"] [] := by
  obtain ⟨oc, od, kV, doc, pm, an, cdv, ct, osl, rfl, _⟩ := T.F_law.ex
  exact Binds.all fun us hl => match us, hl with | [_], _ => rfl
theorem kb_lot_ledgers_0_M_many_b (T : Txt PP K mg fI cc cda C_Refused C_BadSize C_BadWheel C_BadCount a_choose a_bags a_power a_want_places a_want_wheel a_common a_measure a_want_threads a_rows_of_lot a_lot_ledgers a__law_pool a__law_take a__law_one a__law_bags a__law_common a__law_rows a__law_refused a_law fd_choose fd_bags fd_power fd_want_places fd_want_wheel fd_common fd_measure fd_want_threads fd_rows_of_lot fd_lot_ledgers fd__law_pool fd__law_take fd__law_one fd__law_bags fd__law_common fd__law_rows fd__law_refused fd_law) (s : Shared) (ws : List Value) (hw : ws.length = 3) : BindsTo s fd_lot_ledgers ⟨[], List.zip ["M", "many", "b"] ws⟩ (List.zip ["b", "many", "M"] (sel [2, 1, 0] ws)) := by
  obtain ⟨oc, od, kV, doc, pm, an, cdv, ct, osl, rfl, _⟩ := T.F_lot_ledgers.ex
  exact match ws, hw with | [_, _, _], _ => .of_eq rfl
theorem ok_choose (T : Txt PP K mg fI cc cda C_Refused C_BadSize C_BadWheel C_BadCount a_choose a_bags a_power a_want_places a_want_wheel a_common a_measure a_want_threads a_rows_of_lot a_lot_ledgers a__law_pool a__law_take a__law_one a__law_bags a__law_common a__law_rows a__law_refused a_law fd_choose fd_bags fd_power fd_want_places fd_want_wheel fd_common fd_measure fd_want_threads fd_rows_of_lot fd_lot_ledgers fd__law_pool fd__law_take fd__law_one fd__law_bags fd__law_common fd__law_rows fd__law_refused fd_law)  : FnOk PP w K mg base (L2.CX PP w) 4 a_choose fd_choose ["a", "b"] (spF K mg 2 (f_choose)) := by
  refine fn_ok T.F_choose sc_choose fun cdv A outer s H E hr => ?_
  have tk_ : Takes (cxOf (L2.CX PP w) PP w K mg base ["a", "b", "found", "step"] "choose" (defScope s_choose) a_choose cdv A outer s H E) (fun cls d _ H => E cls d H) := takes_of rfl rfl rfl rfl
  exact (rss_cons (rs_if (rt_cmp o_lt (rv 0) re_int (nomark _)) (rss_one (rs_raise rfl T.ref T.e_BadCount hr tk_ (rv 0))) rss_nil) (rss_cons (rs_if (rt_not (rt_chain o_le o_le re_int (rv 1) (re_gint T.g_MOST_CHOSEN.choose_spec rfl))) (rss_one (rs_raise rfl T.ref T.e_BadCount hr tk_ (rv 1))) rss_nil) (rss_cons (rs_if (rt_cmp o_lt (rv 0) (rv 1) (nomark _)) (rss_one (rs_ret re_int)) rss_nil) (rss_cons (rs_set (i := 2) sc_choose.nd rfl (.inl rfl) re_int) (rss_cons (rs_for (passes_of rfl) rfl (ri_range1 T.b_range (ra_cons (rv 1) ra_nil)) (rg_name (i := 3) sc_choose.nd rfl (.inl rfl)) (rss_one (rs_set (i := 2) sc_choose.nd rfl (.inl rfl) (re_op o_div (re_op o_mul (rv 2) (re_op o_sub (rv 0) (rv 3))) (re_op o_add (rv 3) re_int))))) (rss_one (rs_ret (rv 2))))))))
theorem ok_bags (T : Txt PP K mg fI cc cda C_Refused C_BadSize C_BadWheel C_BadCount a_choose a_bags a_power a_want_places a_want_wheel a_common a_measure a_want_threads a_rows_of_lot a_lot_ledgers a__law_pool a__law_take a__law_one a__law_bags a__law_common a__law_rows a__law_refused a_law fd_choose fd_bags fd_power fd_want_places fd_want_wheel fd_common fd_measure fd_want_threads fd_rows_of_lot fd_lot_ledgers fd__law_pool fd__law_take fd__law_one fd__law_bags fd__law_common fd__law_rows fd__law_refused fd_law) (O_choose : FnOk PP w K mg base (L2.CX PP w) 4 a_choose fd_choose ["a", "b"] (spF K mg 2 (f_choose))) : FnOk PP w K mg base (L2.CX PP w) 5 a_bags fd_bags ["kinds", "many"] (spF K mg 2 (f_bags)) := by
  refine fn_ok T.F_bags sc_bags fun cdv A outer s H E hr => ?_
  have tk_ : Takes (cxOf (L2.CX PP w) PP w K mg base ["kinds", "many", "count"] "bags" (defScope s_bags) a_bags cdv A outer s H E) (fun cls d _ H => E cls d H) := takes_of rfl rfl rfl rfl
  exact (rss_cons (rs_for (passes_of rfl) rfl (ri_seq (re_tup (ra_cons (rv 0) (ra_cons (rv 1) ra_nil)))) (rg_name (i := 2) sc_bags.nd rfl (.inl rfl)) (rss_one (rs_if (rt_cmp o_lt (rv 2) re_int (nomark _)) (rss_one (rs_raise rfl T.ref T.e_BadCount hr tk_ (rv 2))) rss_nil))) (rss_cons (rs_if (rt_w (rw_and (rt_cmp o_gt (rv 1) (re_gint T.g_MOST_SMALL.choose_spec rfl) (nomark _)) (rw_and1 (rt_cmp o_gt (rv 0) (re_gint T.g_MOST_CHOSEN.choose_spec rfl) (nomark _))))) (rss_one (rs_raise rfl T.ref T.e_BadCount hr tk_ (rv 0))) rss_nil) (rss_cons (rs_if (rt_cmp (o_eq hr.units) (rv 0) re_int (nomark _)) (rss_one (rs_ret (re_if (rt_cmp (o_eq hr.units) (rv 1) re_int (nomark _)) re_int re_int))) rss_nil) (rss_cons (rs_if (rt_cmp o_le (rv 1) (re_gint T.g_MOST_SMALL.choose_spec rfl) (nomark _)) (rss_one (rs_ret (re_callR (RunAt.ok O_choose (hr.mono (by decide))) T.m_choose T.F_choose.kp (bd_choose T) tk_ (ra_cons (re_op o_sub (re_op o_add (rv 0) (rv 1)) re_int) (ra_cons (rv 1) ra_nil)) (len_cons (len_cons len_nil))))) rss_nil) (rss_one (rs_ret (re_callR (RunAt.ok O_choose (hr.mono (by decide))) T.m_choose T.F_choose.kp (bd_choose T) tk_ (ra_cons (re_op o_sub (re_op o_add (rv 0) (rv 1)) re_int) (ra_cons (re_op o_sub (rv 0) re_int) ra_nil)) (len_cons (len_cons len_nil)))))))))
theorem ok_power (T : Txt PP K mg fI cc cda C_Refused C_BadSize C_BadWheel C_BadCount a_choose a_bags a_power a_want_places a_want_wheel a_common a_measure a_want_threads a_rows_of_lot a_lot_ledgers a__law_pool a__law_take a__law_one a__law_bags a__law_common a__law_rows a__law_refused a_law fd_choose fd_bags fd_power fd_want_places fd_want_wheel fd_common fd_measure fd_want_threads fd_rows_of_lot fd_lot_ledgers fd__law_pool fd__law_take fd__law_one fd__law_bags fd__law_common fd__law_rows fd__law_refused fd_law)  : FnOk PP w K mg base (L2.CX PP w) 1 a_power fd_power ["base", "times"] (spF K mg 2 (f_power)) := by
  refine fn_ok T.F_power sc_power fun cdv A outer s H E hr => ?_
  have tk_ : Takes (cxOf (L2.CX PP w) PP w K mg base ["base", "times", "found", "turn"] "power" (defScope s_power) a_power cdv A outer s H E) (fun cls d _ H => E cls d H) := takes_of rfl rfl rfl rfl
  exact (rss_cons (rs_set (i := 2) sc_power.nd rfl (.inl rfl) re_int) (rss_cons (rs_for (passes_of rfl) rfl (ri_range1 T.b_range (ra_cons (rv 1) ra_nil)) (rg_name (i := 3) sc_power.nd rfl (.inl rfl)) (rss_one (rs_set (i := 2) sc_power.nd rfl (.inl rfl) (re_op o_mul (rv 2) (rv 0))))) (rss_one (rs_ret (rv 2)))))
theorem ok_want_places (T : Txt PP K mg fI cc cda C_Refused C_BadSize C_BadWheel C_BadCount a_choose a_bags a_power a_want_places a_want_wheel a_common a_measure a_want_threads a_rows_of_lot a_lot_ledgers a__law_pool a__law_take a__law_one a__law_bags a__law_common a__law_rows a__law_refused a_law fd_choose fd_bags fd_power fd_want_places fd_want_wheel fd_common fd_measure fd_want_threads fd_rows_of_lot fd_lot_ledgers fd__law_pool fd__law_take fd__law_one fd__law_bags fd__law_common fd__law_rows fd__law_refused fd_law)  : FnOk PP w K mg base (L2.CX PP w) 4 a_want_places fd_want_places ["b"] (spF K mg 1 (f_want_places)) := by
  refine fn_ok T.F_want_places sc_want_places fun cdv A outer s H E hr => ?_
  have tk_ : Takes (cxOf (L2.CX PP w) PP w K mg base ["b"] "want_places" (defScope s_want_places) a_want_places cdv A outer s H E) (fun cls d _ H => E cls d H) := takes_of rfl rfl rfl rfl
  exact (rss_one (rs_if (rt_not (rt_chain o_le o_le re_int (rv 0) (re_gint T.g_MOST_PLACES.choose_spec rfl))) (rss_one (rs_raise rfl T.ref T.e_BadSize hr tk_ (rv 0))) rss_nil))
theorem ok_want_wheel (T : Txt PP K mg fI cc cda C_Refused C_BadSize C_BadWheel C_BadCount a_choose a_bags a_power a_want_places a_want_wheel a_common a_measure a_want_threads a_rows_of_lot a_lot_ledgers a__law_pool a__law_take a__law_one a__law_bags a__law_common a__law_rows a__law_refused a_law fd_choose fd_bags fd_power fd_want_places fd_want_wheel fd_common fd_measure fd_want_threads fd_rows_of_lot fd_lot_ledgers fd__law_pool fd__law_take fd__law_one fd__law_bags fd__law_common fd__law_rows fd__law_refused fd_law)  : FnOk PP w K mg base (L2.CX PP w) 4 a_want_wheel fd_want_wheel ["M"] (spF K mg 1 (f_want_wheel)) := by
  refine fn_ok T.F_want_wheel sc_want_wheel fun cdv A outer s H E hr => ?_
  have tk_ : Takes (cxOf (L2.CX PP w) PP w K mg base ["M"] "want_wheel" (defScope s_want_wheel) a_want_wheel cdv A outer s H E) (fun cls d _ H => E cls d H) := takes_of rfl rfl rfl rfl
  exact (rss_one (rs_if (rt_not (rt_chain o_le o_le re_int (rv 0) (re_gint T.g_MOST_WHEEL_rests.choose_spec rfl))) (rss_one (rs_raise rfl T.ref T.e_BadWheel hr tk_ (rv 0))) rss_nil))
theorem ok_common (T : Txt PP K mg fI cc cda C_Refused C_BadSize C_BadWheel C_BadCount a_choose a_bags a_power a_want_places a_want_wheel a_common a_measure a_want_threads a_rows_of_lot a_lot_ledgers a__law_pool a__law_take a__law_one a__law_bags a__law_common a__law_rows a__law_refused a_law fd_choose fd_bags fd_power fd_want_places fd_want_wheel fd_common fd_measure fd_want_threads fd_rows_of_lot fd_lot_ledgers fd__law_pool fd__law_take fd__law_one fd__law_bags fd__law_common fd__law_rows fd__law_refused fd_law)  : FnOk PP w K mg base (L2.CX PP w) 1 a_common fd_common ["m", "numbers"] (spF K mg 2 (f_common)) := by
  refine fn_ok T.F_common sc_common fun cdv A outer s H E hr => ?_
  have tk_ : Takes (cxOf (L2.CX PP w) PP w K mg base ["m", "numbers", "number"] "common" (defScope s_common) a_common cdv A outer s H E) (fun cls d _ H => E cls d H) := takes_of rfl rfl rfl rfl
  exact (rss_cons (rs_for (passes_of rfl) rfl (ri_seq (rv 1)) (rg_name (i := 2) sc_common.nd rfl (.inl rfl)) (rss_one (rs_set (i := 0) sc_common.nd rfl (.inl rfl) (re_gcd T.m_gcd (ra_cons (rv 0) (ra_cons (rv 2) ra_nil)))))) (rss_one (rs_ret (rv 0))))
theorem ok_measure (T : Txt PP K mg fI cc cda C_Refused C_BadSize C_BadWheel C_BadCount a_choose a_bags a_power a_want_places a_want_wheel a_common a_measure a_want_threads a_rows_of_lot a_lot_ledgers a__law_pool a__law_take a__law_one a__law_bags a__law_common a__law_rows a__law_refused a_law fd_choose fd_bags fd_power fd_want_places fd_want_wheel fd_common fd_measure fd_want_threads fd_rows_of_lot fd_lot_ledgers fd__law_pool fd__law_take fd__law_one fd__law_bags fd__law_common fd__law_rows fd__law_refused fd_law) (O_want_wheel : FnOk PP w K mg base (L2.CX PP w) 4 a_want_wheel fd_want_wheel ["M"] (spF K mg 1 (f_want_wheel))) (O_common : FnOk PP w K mg base (L2.CX PP w) 1 a_common fd_common ["m", "numbers"] (spF K mg 2 (f_common))) : FnOk PP w K mg base (L2.CX PP w) 5 a_measure fd_measure ["M", "numbers"] (spF K mg 2 (f_measure)) := by
  refine fn_ok T.F_measure sc_measure fun cdv A outer s H E hr => ?_
  have tk_ : Takes (cxOf (L2.CX PP w) PP w K mg base ["M", "numbers"] "measure" (defScope s_measure) a_measure cdv A outer s H E) (fun cls d _ H => E cls d H) := takes_of rfl rfl rfl rfl
  exact (rss_cons (rs_expr (re_callR (RunAt.ok O_want_wheel (hr.mono (by decide))) T.m_want_wheel T.F_want_wheel.kp (bd_want_wheel T) tk_ (ra_cons (rv 0) ra_nil) (len_cons len_nil))) (rss_one (rs_ret (re_callR (RunAt.ok O_common (hr.mono (by decide))) T.m_common T.F_common.kp (bd_common T) tk_ (ra_cons (rv 0) (ra_cons (rv 1) ra_nil)) (len_cons (len_cons len_nil))))))
theorem ok_want_threads (T : Txt PP K mg fI cc cda C_Refused C_BadSize C_BadWheel C_BadCount a_choose a_bags a_power a_want_places a_want_wheel a_common a_measure a_want_threads a_rows_of_lot a_lot_ledgers a__law_pool a__law_take a__law_one a__law_bags a__law_common a__law_rows a__law_refused a_law fd_choose fd_bags fd_power fd_want_places fd_want_wheel fd_common fd_measure fd_want_threads fd_rows_of_lot fd_lot_ledgers fd__law_pool fd__law_take fd__law_one fd__law_bags fd__law_common fd__law_rows fd__law_refused fd_law)  : FnOk PP w K mg base (L2.CX PP w) 4 a_want_threads fd_want_threads ["many", "M"] (spF K mg 2 (f_want_threads)) := by
  refine fn_ok T.F_want_threads sc_want_threads fun cdv A outer s H E hr => ?_
  have tk_ : Takes (cxOf (L2.CX PP w) PP w K mg base ["many", "M"] "want_threads" (defScope s_want_threads) a_want_threads cdv A outer s H E) (fun cls d _ H => E cls d H) := takes_of rfl rfl rfl rfl
  exact (rss_cons (rs_if (rt_not (rt_chain o_le o_le re_int (rv 0) (re_gint T.g_MOST_THREADS.choose_spec rfl))) (rss_one (rs_raise rfl T.ref T.e_BadCount hr tk_ (rv 0))) rss_nil) (rss_one (rs_if (rt_not (rt_chain o_le o_le re_int (rv 1) (re_gint T.g_MOST_WHEEL_howmany.choose_spec rfl))) (rss_one (rs_raise rfl T.ref T.e_BadWheel hr tk_ (rv 1))) rss_nil)))
theorem ok_rows_of_lot (T : Txt PP K mg fI cc cda C_Refused C_BadSize C_BadWheel C_BadCount a_choose a_bags a_power a_want_places a_want_wheel a_common a_measure a_want_threads a_rows_of_lot a_lot_ledgers a__law_pool a__law_take a__law_one a__law_bags a__law_common a__law_rows a__law_refused a_law fd_choose fd_bags fd_power fd_want_places fd_want_wheel fd_common fd_measure fd_want_threads fd_rows_of_lot fd_lot_ledgers fd__law_pool fd__law_take fd__law_one fd__law_bags fd__law_common fd__law_rows fd__law_refused fd_law) (O_power : FnOk PP w K mg base (L2.CX PP w) 1 a_power fd_power ["base", "times"] (spF K mg 2 (f_power))) (O_bags : FnOk PP w K mg base (L2.CX PP w) 5 a_bags fd_bags ["kinds", "many"] (spF K mg 2 (f_bags))) (O_measure : FnOk PP w K mg base (L2.CX PP w) 5 a_measure fd_measure ["M", "numbers"] (spF K mg 2 (f_measure))) : FnOk PP w K mg base (L2.CX PP w) 6 a_rows_of_lot fd_rows_of_lot ["b", "many", "M"] (spF K mg 3 (f_rows_of_lot)) := by
  refine fn_ok T.F_rows_of_lot sc_rows_of_lot fun cdv A outer s H E hr => ?_
  have tk_ : Takes (cxOf (L2.CX PP w) PP w K mg base ["b", "many", "M", "ring", "step"] "rows_of_lot" (defScope s_rows_of_lot) a_rows_of_lot cdv A outer s H E) (fun cls d _ H => E cls d H) := takes_of rfl rfl rfl rfl
  exact (rss_cons (rs_if (rt_cmp (o_eq hr.units) (rv 0) re_int (nomark _)) (rss_one (rs_ret (re_ct c_int T.b_int boot_int_ (ra_cons (re_cmp (o_eq hr.units) (rv 1) re_int (nomark _)) ra_nil)))) rss_nil) (rss_cons (rs_if (rt_cmp (o_eq hr.units) (rv 0) re_int (nomark _)) (rss_one (rs_ret (re_if (rt_cmp o_gt (rv 1) re_int (nomark _)) (re_callR (RunAt.ok O_bags (hr.mono (by decide))) T.m_bags T.F_bags.kp (bd_bags T) tk_ (ra_cons (rv 2) (ra_cons (rv 1) ra_nil)) (len_cons (len_cons len_nil))) re_int))) rss_nil) (rss_cons (rs_if (rt_cmp o_lt (rv 1) (re_op o_sub (rv 0) re_int) (nomark _)) (rss_one (rs_ret re_int)) rss_nil) (rss_cons (rs_if (rt_cmp (o_eq hr.units) (rv 1) (re_op o_sub (rv 0) re_int) (nomark _)) (rss_one (rs_ret (re_callR (RunAt.ok O_power (hr.mono (by decide))) T.m_power T.F_power.kp (bd_power T) tk_ (ra_cons (rv 2) (ra_cons (re_op o_sub (rv 0) re_int) ra_nil)) (len_cons (len_cons len_nil))))) rss_nil) (rss_cons (rs_if (rt_cmp (o_eq hr.units) (rv 1) (rv 0) (nomark _)) (rss_one (rs_ret (re_cb (c_sum rfl) T.b_sum boot_sum_ (ra_cons (re_lc (own := [("ring", 3)]) (c := (CT.one 3)) rfl sc_rows_of_lot.nd (ri_range1 T.b_range (ra_cons (re_op o_add (re_op o_div (rv 2) re_int) re_int) ra_nil)) (blkOk_by (N := ["b", "many", "M", "ring", "step"]) (sc := defScope s_rows_of_lot) (by decide +kernel)) (by decide) (fun _ _ _ _ _ => (pg_name sc_rows_of_lot.nd rfl (.inl rfl))) (fun _ _ _ _ _ => rts_nil) (fun _ _ _ _ _ => (re_callR (RunAt.ok O_power (hr.mono (by decide))) T.m_power T.F_power.kp (bd_power T) L2.takes0 (ra_cons (re_callR (RunAt.ok O_measure (hr.mono (by decide))) T.m_measure T.F_measure.kp (bd_measure T) L2.takes0 (ra_cons (rv 2) (ra_cons (re_tup (ra_cons (rv 3) ra_nil)) ra_nil)) (len_cons (len_cons len_nil))) (ra_cons (re_op o_sub (rv 0) re_int) ra_nil)) (len_cons (len_cons len_nil))))) ra_nil)))) rss_nil) (rss_one (rs_ret (re_cb (c_sum rfl) T.b_sum boot_sum_ (ra_cons (re_lc (own := [("step", 4)]) (c := (CT.one 4)) rfl sc_rows_of_lot.nd (ri_range2 T.b_range (ra_cons re_int (ra_cons (re_op o_add (rv 2) re_int) ra_nil))) (blkOk_by (N := ["b", "many", "M", "ring", "step"]) (sc := defScope s_rows_of_lot) (by decide +kernel)) (by decide) (fun _ _ _ _ _ => (pg_name sc_rows_of_lot.nd rfl (.inl rfl))) (fun _ _ _ _ _ => rts_one (rt_cmp (o_eq hr.units) (re_op o_mod (rv 2) (rv 4)) re_int (nomark _))) (fun _ _ _ _ _ => (re_callR (RunAt.ok O_power (hr.mono (by decide))) T.m_power T.F_power.kp (bd_power T) L2.takes0 (ra_cons (rv 4) (ra_cons (re_op o_sub (rv 0) re_int) ra_nil)) (len_cons (len_cons len_nil))))) ra_nil)))))))))
theorem ok_lot_ledgers (T : Txt PP K mg fI cc cda C_Refused C_BadSize C_BadWheel C_BadCount a_choose a_bags a_power a_want_places a_want_wheel a_common a_measure a_want_threads a_rows_of_lot a_lot_ledgers a__law_pool a__law_take a__law_one a__law_bags a__law_common a__law_rows a__law_refused a_law fd_choose fd_bags fd_power fd_want_places fd_want_wheel fd_common fd_measure fd_want_threads fd_rows_of_lot fd_lot_ledgers fd__law_pool fd__law_take fd__law_one fd__law_bags fd__law_common fd__law_rows fd__law_refused fd_law) (O_want_places : FnOk PP w K mg base (L2.CX PP w) 4 a_want_places fd_want_places ["b"] (spF K mg 1 (f_want_places))) (O_want_threads : FnOk PP w K mg base (L2.CX PP w) 4 a_want_threads fd_want_threads ["many", "M"] (spF K mg 2 (f_want_threads))) (O_rows_of_lot : FnOk PP w K mg base (L2.CX PP w) 6 a_rows_of_lot fd_rows_of_lot ["b", "many", "M"] (spF K mg 3 (f_rows_of_lot))) : FnOk PP w K mg base (L2.CX PP w) 7 a_lot_ledgers fd_lot_ledgers ["b", "many", "M"] (spF K mg 3 (f_lot_ledgers)) := by
  refine fn_ok T.F_lot_ledgers sc_lot_ledgers fun cdv A outer s H E hr => ?_
  have tk_ : Takes (cxOf (L2.CX PP w) PP w K mg base ["b", "many", "M"] "lot_ledgers" (defScope s_lot_ledgers) a_lot_ledgers cdv A outer s H E) (fun cls d _ H => E cls d H) := takes_of rfl rfl rfl rfl
  exact (rss_cons (rs_expr (re_callR (RunAt.ok O_want_places (hr.mono (by decide))) T.m_want_places T.F_want_places.kp (bd_want_places T) tk_ (ra_cons (rv 0) ra_nil) (len_cons len_nil))) (rss_cons (rs_expr (re_callR (RunAt.ok O_want_threads (hr.mono (by decide))) T.m_want_threads T.F_want_threads.kp (bd_want_threads T) tk_ (ra_cons (rv 1) (ra_cons (rv 2) ra_nil)) (len_cons (len_cons len_nil)))) (rss_one (rs_ret (re_callR (RunAt.ok O_rows_of_lot (hr.mono (by decide))) T.m_rows_of_lot T.F_rows_of_lot.kp (bd_rows_of_lot T) tk_ (ra_cons (rv 0) (ra_cons (rv 1) (ra_cons (rv 2) ra_nil))) (len_cons (len_cons (len_cons len_nil))))))))
theorem ok__law_pool (T : Txt PP K mg fI cc cda C_Refused C_BadSize C_BadWheel C_BadCount a_choose a_bags a_power a_want_places a_want_wheel a_common a_measure a_want_threads a_rows_of_lot a_lot_ledgers a__law_pool a__law_take a__law_one a__law_bags a__law_common a__law_rows a__law_refused a_law fd_choose fd_bags fd_power fd_want_places fd_want_wheel fd_common fd_measure fd_want_threads fd_rows_of_lot fd_lot_ledgers fd__law_pool fd__law_take fd__law_one fd__law_bags fd__law_common fd__law_rows fd__law_refused fd_law)  : FnOk PP w K mg base (L2.CX PP w) 1 a__law_pool fd__law_pool ["script", "k"] (spF K mg 2 (f__law_pool)) := by
  refine fn_ok T.F__law_pool sc__law_pool fun cdv A outer s H E hr => ?_
  have tk_ : Takes (cxOf (L2.CX PP w) PP w K mg base ["script", "k", "cell", "big", "mixed"] "_law_pool" (defScope s__law_pool) a__law_pool cdv A outer s H E) (fun cls d _ H => E cls d H) := takes_of rfl rfl rfl rfl
  exact (rss_cons (rs_set (i := 2) sc__law_pool.nd rfl (.inl rfl) re_int) (rss_cons (rs_if (rt_cmp o_lt (rv 1) (re_cb c_len T.b_len boot_len_ (ra_cons (rv 0) ra_nil)) (nomark _)) (rss_one (rs_set (i := 2) sc__law_pool.nd rfl (.inl rfl) (re_ix o_ix (rv 0) (rv 1)))) (rss_one (rs_if (rt_tru (rv 0)) (rss_one (rs_set (i := 2) sc__law_pool.nd rfl (.inl rfl) (re_ix o_ix (rv 0) re_int))) rss_nil))) (rss_cons (rs_set (i := 3) sc__law_pool.nd rfl (.inl rfl) (re_cb (c_max2 rfl) T.b_max boot_max_ (ra_cons (re_ct c_int T.b_int boot_int_ (ra_cons (rv 2) ra_nil)) (ra_cons (re_ct c_int T.b_int boot_int_ (ra_cons (re_op o_sub (re_un o_neg re_int) (rv 2)) ra_nil)) ra_nil)))) (rss_cons (rs_set (i := 4) sc__law_pool.nd rfl (.inl rfl) (re_op o_mod (re_ct c_int T.b_int boot_int_ (ra_cons (re_op o_mul (re_op o_add (re_op o_add (re_op o_add (re_op o_mod (re_ct c_int T.b_int boot_int_ (ra_cons (rv 3) ra_nil)) re_int) (re_op o_mul (re_op o_mul re_int (rv 1)) (rv 1))) (re_op o_mul re_int (rv 1))) re_int) re_int) ra_nil)) re_int)) (rss_one (rs_ret (re_lst (ra_cons (re_op o_mul (rv 3) (re_ct c_int T.b_int boot_int_ (ra_cons (re_cmp o_ge (rv 3) (re_op o_pow re_int re_int) (nomark _)) ra_nil))) (ra_cons (rv 4) ra_nil)))))))))
theorem ok__law_take (T : Txt PP K mg fI cc cda C_Refused C_BadSize C_BadWheel C_BadCount a_choose a_bags a_power a_want_places a_want_wheel a_common a_measure a_want_threads a_rows_of_lot a_lot_ledgers a__law_pool a__law_take a__law_one a__law_bags a__law_common a__law_rows a__law_refused a_law fd_choose fd_bags fd_power fd_want_places fd_want_wheel fd_common fd_measure fd_want_threads fd_rows_of_lot fd_lot_ledgers fd__law_pool fd__law_take fd__law_one fd__law_bags fd__law_common fd__law_rows fd__law_refused fd_law)  : FnOk PP w K mg base (L2.CX PP w) 1 a__law_take fd__law_take ["source", "top"] (spF K mg 2 (f__law_take)) := by
  refine fn_ok T.F__law_take sc__law_take fun cdv A outer s H E hr => ?_
  have tk_ : Takes (cxOf (L2.CX PP w) PP w K mg base ["source", "top", "drawn"] "_law_take" (defScope s__law_take) a__law_take cdv A outer s H E) (fun cls d _ H => E cls d H) := takes_of rfl rfl rfl rfl
  exact (rss_cons (rs_if (rt_cmp o_gt (re_ix o_ix (rv 0) re_int) re_int (nomark _)) (rss_cons (rs_set (i := 2) sc__law_take.nd rfl (.inl rfl) (re_op o_mod (re_ct c_int T.b_int boot_int_ (ra_cons (re_ix o_ix (rv 0) re_int) ra_nil)) (rv 1))) (rss_cons (rs_asg (re_op o_div (re_ix o_ix (rv 0) re_int) (rv 1)) (rg_sub (W := fun cls d _ H => E cls d H) (rv 0) re_int)) (rss_one (rs_ret (rv 2))))) rss_nil) (rss_cons (rs_asg (re_op o_mod (re_ct c_int T.b_int boot_int_ (ra_cons (re_op o_add (re_op o_mul (re_ix o_ix (rv 0) re_int) re_int) re_int) ra_nil)) re_int) (rg_sub (W := fun cls d _ H => E cls d H) (rv 0) re_int)) (rss_one (rs_ret (re_op o_mod (re_ct c_int T.b_int boot_int_ (ra_cons (re_op o_div (re_op o_mod (re_ct c_int T.b_int boot_int_ (ra_cons (re_op o_mul (re_ix o_ix (rv 0) re_int) (re_ix o_ix (rv 0) re_int)) ra_nil)) re_int) re_int) ra_nil)) (rv 1))))))
theorem ok__law_one (T : Txt PP K mg fI cc cda C_Refused C_BadSize C_BadWheel C_BadCount a_choose a_bags a_power a_want_places a_want_wheel a_common a_measure a_want_threads a_rows_of_lot a_lot_ledgers a__law_pool a__law_take a__law_one a__law_bags a__law_common a__law_rows a__law_refused a_law fd_choose fd_bags fd_power fd_want_places fd_want_wheel fd_common fd_measure fd_want_threads fd_rows_of_lot fd_lot_ledgers fd__law_pool fd__law_take fd__law_one fd__law_bags fd__law_common fd__law_rows fd__law_refused fd_law) (O__law_take : FnOk PP w K mg base (L2.CX PP w) 1 a__law_take fd__law_take ["source", "top"] (spF K mg 2 (f__law_take))) : FnOk PP w K mg base (L2.CX PP w) 2 a__law_one fd__law_one ["source", "things"] (spF K mg 2 (f__law_one)) := by
  refine fn_ok T.F__law_one sc__law_one fun cdv A outer s H E hr => ?_
  have tk_ : Takes (cxOf (L2.CX PP w) PP w K mg base ["source", "things"] "_law_one" (defScope s__law_one) a__law_one cdv A outer s H E) (fun cls d _ H => E cls d H) := takes_of rfl rfl rfl rfl
  exact (rss_one (rs_ret (re_ix o_ix (rv 1) (re_callR (RunAt.ok O__law_take (hr.mono (by decide))) T.m__law_take T.F__law_take.kp (bd__law_take T) tk_ (ra_cons (rv 0) (ra_cons (re_cb c_len T.b_len boot_len_ (ra_cons (rv 1) ra_nil)) ra_nil)) (len_cons (len_cons len_nil))))))
theorem ok__law_bags (T : Txt PP K mg fI cc cda C_Refused C_BadSize C_BadWheel C_BadCount a_choose a_bags a_power a_want_places a_want_wheel a_common a_measure a_want_threads a_rows_of_lot a_lot_ledgers a__law_pool a__law_take a__law_one a__law_bags a__law_common a__law_rows a__law_refused a_law fd_choose fd_bags fd_power fd_want_places fd_want_wheel fd_common fd_measure fd_want_threads fd_rows_of_lot fd_lot_ledgers fd__law_pool fd__law_take fd__law_one fd__law_bags fd__law_common fd__law_rows fd__law_refused fd_law)  : FnOk PP w K mg base (L2.CX PP w) 1 a__law_bags fd__law_bags ["kinds", "many"] (spF K mg 2 (f__law_bags)) := by
  refine fn_ok T.F__law_bags sc__law_bags fun cdv A outer s H E hr => ?_
  have tk_ : Takes (cxOf (L2.CX PP w) PP w K mg base ["kinds", "many", "found", "turn", "rows", "row", "kind"] "_law_bags" (defScope s__law_bags) a__law_bags cdv A outer s H E) (fun cls d _ H => E cls d H) := takes_of rfl rfl rfl rfl
  exact (rss_cons (rs_set (i := 2) sc__law_bags.nd rfl (.inl rfl) (re_lst (ra_cons (re_tup ra_nil) ra_nil))) (rss_cons (rs_for (passes_of rfl) rfl (ri_range1 T.b_range (ra_cons (rv 1) ra_nil)) (rg_name (i := 3) sc__law_bags.nd rfl (.inl rfl)) (rss_cons (rs_set (i := 4) sc__law_bags.nd rfl (.inl rfl) (re_lst ra_nil)) (rss_cons (rs_for (passes_of rfl) rfl (ri_seq (rv 2)) (rg_name (i := 5) sc__law_bags.nd rfl (.inl rfl)) (rss_one (rs_for (passes_of rfl) rfl (ri_range2 T.b_range (ra_cons (re_if (rt_tru (rv 5)) (re_ix o_ix (rv 5) (re_un o_neg re_int)) re_int) (ra_cons (rv 0) ra_nil))) (rg_name (i := 6) sc__law_bags.nd rfl (.inl rfl)) (rss_one (rs_expr (re_append (rv 4) (ra_cons (re_op o_add (rv 5) (re_tup (ra_cons (rv 6) ra_nil))) ra_nil))))))) (rss_one (rs_set (i := 2) sc__law_bags.nd rfl (.inl rfl) (rv 4)))))) (rss_one (rs_ret (rv 2)))))
theorem ok__law_common (T : Txt PP K mg fI cc cda C_Refused C_BadSize C_BadWheel C_BadCount a_choose a_bags a_power a_want_places a_want_wheel a_common a_measure a_want_threads a_rows_of_lot a_lot_ledgers a__law_pool a__law_take a__law_one a__law_bags a__law_common a__law_rows a__law_refused a_law fd_choose fd_bags fd_power fd_want_places fd_want_wheel fd_common fd_measure fd_want_threads fd_rows_of_lot fd_lot_ledgers fd__law_pool fd__law_take fd__law_one fd__law_bags fd__law_common fd__law_rows fd__law_refused fd_law)  : FnOk PP w K mg base (L2.CX PP w) 1 a__law_common fd__law_common ["a", "b"] (spF K mg 2 (f__law_common)) := by
  refine fn_ok T.F__law_common sc__law_common fun cdv A outer s H E hr => ?_
  have tk_ : Takes (cxOf (L2.CX PP w) PP w K mg base ["a", "b"] "_law_common" (defScope s__law_common) a__law_common cdv A outer s H E) (fun cls d _ H => E cls d H) := takes_of rfl rfl rfl rfl
  exact (rss_cons (rs_while (passes_of rfl) (rt_cmp o_gt (rv 1) re_int (nomark _)) (rss_one (rs_par (i := 0) (j := 1) rfl sc__law_common.nd rfl rfl rfl rfl (ra_cons (rv 1) (ra_cons (re_op o_mod (re_ct c_int T.b_int boot_int_ (ra_cons (rv 0) ra_nil)) (rv 1)) ra_nil))))) (rss_one (rs_ret (rv 0))))
theorem ok__law_rows (T : Txt PP K mg fI cc cda C_Refused C_BadSize C_BadWheel C_BadCount a_choose a_bags a_power a_want_places a_want_wheel a_common a_measure a_want_threads a_rows_of_lot a_lot_ledgers a__law_pool a__law_take a__law_one a__law_bags a__law_common a__law_rows a__law_refused a_law fd_choose fd_bags fd_power fd_want_places fd_want_wheel fd_common fd_measure fd_want_threads fd_rows_of_lot fd_lot_ledgers fd__law_pool fd__law_take fd__law_one fd__law_bags fd__law_common fd__law_rows fd__law_refused fd_law) (O__law_bags : FnOk PP w K mg base (L2.CX PP w) 1 a__law_bags fd__law_bags ["kinds", "many"] (spF K mg 2 (f__law_bags))) (O__law_common : FnOk PP w K mg base (L2.CX PP w) 1 a__law_common fd__law_common ["a", "b"] (spF K mg 2 (f__law_common))) : FnOk PP w K mg base (L2.CX PP w) 2 a__law_rows fd__law_rows ["b", "many", "wheel"] (spF K mg 3 (f__law_rows)) := by
  refine fn_ok T.F__law_rows sc__law_rows fun cdv A outer s H E hr => ?_
  have tk_ : Takes (cxOf (L2.CX PP w) PP w K mg base ["b", "many", "wheel", "spares", "kinds", "ring", "found", "step", "rows", "turn", "longer", "row", "height"] "_law_rows" (defScope s__law_rows) a__law_rows cdv A outer s H E) (fun cls d _ H => E cls d H) := takes_of rfl rfl rfl rfl
  exact (rss_cons (rs_if (rt_cmp (o_eq hr.units) (rv 0) re_int (nomark _)) (rss_one (rs_ret (re_if (rt_cmp (o_eq hr.units) (rv 1) re_int (nomark _)) (re_lst (ra_cons re_str ra_nil)) (re_lst ra_nil)))) rss_nil) (rss_cons (rs_if (rt_cmp (o_eq hr.units) (rv 0) re_int (nomark _)) (rss_one (rs_ret (re_if (rt_cmp o_gt (rv 1) re_int (nomark _)) (re_callR (RunAt.ok O__law_bags (hr.mono (by decide))) T.m__law_bags T.F__law_bags.kp (bd__law_bags T) tk_ (ra_cons (rv 2) (ra_cons (rv 1) ra_nil)) (len_cons (len_cons len_nil))) (re_lst ra_nil)))) rss_nil) (rss_cons (rs_par (i := 3) (j := 4) rfl sc__law_rows.nd rfl rfl rfl rfl (ra_cons (re_op o_add (re_op o_sub (rv 1) (rv 0)) re_int) (ra_cons (re_lst ra_nil) ra_nil))) (rss_cons (rs_if (rt_cmp (o_eq hr.units) (rv 3) re_int (nomark _)) (rss_one (rs_set (i := 4) sc__law_rows.nd rfl (.inl rfl) (re_lst (ra_cons (re_tup (ra_cons (rv 2) (ra_cons re_non ra_nil))) ra_nil)))) rss_nil) (rss_cons (rs_if (rt_cmp (o_eq hr.units) (rv 3) re_int (nomark _)) (rss_one (rs_for (passes_of rfl) rfl (ri_range1 T.b_range (ra_cons (rv 2) ra_nil)) (rg_name (i := 5) sc__law_rows.nd rfl (.inl rfl)) (rss_one (rs_if (rt_cmp o_le (rv 5) (re_op o_sub (rv 2) (rv 5)) (nomark _)) (rss_one (rs_expr (re_append (rv 4) (ra_cons (re_tup (ra_cons (re_callR (RunAt.ok O__law_common (hr.mono (by decide))) T.m__law_common T.F__law_common.kp (bd__law_common T) tk_ (ra_cons (rv 2) (ra_cons (rv 5) ra_nil)) (len_cons (len_cons len_nil))) (ra_cons (rv 5) ra_nil))) ra_nil)))) rss_nil)))) rss_nil) (rss_cons (rs_if (rt_cmp o_gt (rv 3) re_int (nomark _)) (rss_one (rs_lc (i := 4) (own := [("step", 7)]) (c := (CT.one 7)) rfl sc__law_rows.nd  rfl rfl (sw_true rfl rfl rfl (by decide +kernel)) (ri_range2 T.b_range (ra_cons re_int (ra_cons (re_op o_add (rv 2) re_int) ra_nil))) (blkOk_by (N := ["b", "many", "wheel", "spares", "kinds", "ring", "found", "step", "rows", "turn", "longer", "row", "height"]) (sc := defScope s__law_rows) (by decide +kernel)) (by decide) (fun _ _ _ _ _ => (pg_name sc__law_rows.nd rfl (.inl rfl))) (fun _ _ _ _ _ => rts_one (rt_cmp (o_eq hr.units) (re_op o_mod (rv 2) (rv 7)) re_int (nomark _))) (fun _ _ _ _ _ => (re_tup (ra_cons (rv 7) (ra_cons re_non ra_nil)))))) rss_nil) (rss_cons (rs_set (i := 6) sc__law_rows.nd rfl (.inl rfl) (re_lst ra_nil)) (rss_cons (rs_for (passes_of rfl) rfl (ri_seq (rv 4)) (rg_tup rfl (rgs_cons (rg_name (i := 7) sc__law_rows.nd rfl (.inl rfl)) (rgs_cons (rg_name (i := 5) sc__law_rows.nd rfl (.inl rfl)) rgs_nil))) (rss_cons (rs_set (i := 8) sc__law_rows.nd rfl (.inl rfl) (re_lst (ra_cons (re_tup (ra_cons (rv 7) (ra_cons (rv 5) ra_nil))) ra_nil))) (rss_cons (rs_for (passes_of rfl) rfl (ri_range1 T.b_range (ra_cons (re_op o_sub (rv 0) re_int) ra_nil)) (rg_name (i := 9) sc__law_rows.nd rfl (.inl rfl)) (rss_cons (rs_set (i := 10) sc__law_rows.nd rfl (.inl rfl) (re_lst ra_nil)) (rss_cons (rs_for (passes_of rfl) rfl (ri_seq (rv 8)) (rg_name (i := 11) sc__law_rows.nd rfl (.inl rfl)) (rss_one (rs_for (passes_of rfl) rfl (ri_range1 T.b_range (ra_cons (rv 7) ra_nil)) (rg_name (i := 12) sc__law_rows.nd rfl (.inl rfl)) (rss_one (rs_expr (re_append (rv 10) (ra_cons (re_op o_add (rv 11) (re_tup (ra_cons (rv 12) ra_nil))) ra_nil))))))) (rss_one (rs_set (i := 8) sc__law_rows.nd rfl (.inl rfl) (rv 10)))))) (rss_one (rs_set (i := 6) sc__law_rows.nd rfl (.inl rfl) (re_op o_add (rv 6) (rv 8))))))) (rss_one (rs_ret (rv 6)))))))))))
theorem ok__law_refused (T : Txt PP K mg fI cc cda C_Refused C_BadSize C_BadWheel C_BadCount a_choose a_bags a_power a_want_places a_want_wheel a_common a_measure a_want_threads a_rows_of_lot a_lot_ledgers a__law_pool a__law_take a__law_one a__law_bags a__law_common a__law_rows a__law_refused a_law fd_choose fd_bags fd_power fd_want_places fd_want_wheel fd_common fd_measure fd_want_threads fd_rows_of_lot fd_lot_ledgers fd__law_pool fd__law_take fd__law_one fd__law_bags fd__law_common fd__law_rows fd__law_refused fd_law) (O_lot_ledgers : FnOk PP w K mg base (L2.CX PP w) 7 a_lot_ledgers fd_lot_ledgers ["b", "many", "M"] (spF K mg 3 (f_lot_ledgers))) : FnOk PP w K mg base (L2.CX PP w) 8 a__law_refused fd__law_refused ["b", "many", "wheel"] (spF K mg 3 (f__law_refused)) := by
  refine fn_ok T.F__law_refused sc__law_refused fun cdv A outer s H E hr => ?_
  have tk_ : Takes (cxOf (L2.CX PP w) PP w K mg base ["b", "many", "wheel", "found", "e"] "_law_refused" (defScope s__law_refused) a__law_refused cdv A outer s H E) (fun cls d _ H => E cls d H) := takes_of rfl rfl rfl rfl
  have ER := errs_of (X := cxOf (L2.CX PP w) PP w K mg base ["b", "many", "wheel", "found", "e"] "_law_refused" (defScope s__law_refused) a__law_refused cdv A outer s H E) rfl rfl T
  exact (rss_cons (rs_set (i := 3) sc__law_refused.nd rfl (.inl rfl) (re_tup ra_nil)) (rss_cons (rs_tryN (errs := errs_) rfl rfl sc__law_refused.nd tk_ (fun W2 pn2 xe2 tk2_ po2 => (rss_one (rs_expr (re_callR (RunAt.ok O_lot_ledgers (hr.mono (by decide))) T.m_lot_ledgers T.F_lot_ledgers.kp (bd_lot_ledgers T) tk2_ (ra_cons (rv 0) (ra_cons (rv 1) (ra_cons (rv 2) ra_nil))) (len_cons (len_cons (len_cons len_nil))))))) (.cons (q := some 4) (sub := subOf "BadSize") rfl (by decide) T.e_BadSize.gC ⟨rfl, rfl⟩ (fun c C h1 h2 => T.exm_BadSize c C h1 h2) (fun z ob cls d pn hz hv => pss_one (ps_set (i := 3) sc__law_refused.nd rfl (.inl rfl) (he_tup (ha_cons he_str (ha_cons (he_what ER hz hv rfl (.inl rfl)) ha_nil))))) (cr_set (i := 4) (j := 3) (f := fun c w => .tup [.str "size", w])) (.cons (q := some 4) (sub := subOf "BadCount") rfl (by decide) T.e_BadCount.gC ⟨rfl, rfl⟩ (fun c C h1 h2 => T.exm_BadCount c C h1 h2) (fun z ob cls d pn hz hv => pss_one (ps_set (i := 3) sc__law_refused.nd rfl (.inl rfl) (he_tup (ha_cons he_str (ha_cons (he_what ER hz hv rfl (.inl rfl)) ha_nil))))) (cr_set (i := 4) (j := 3) (f := fun c w => .tup [.str "count", w])) (.cons (q := some 4) (sub := subOf "BadWheel") rfl (by decide) T.e_BadWheel.gC ⟨rfl, rfl⟩ (fun c C h1 h2 => T.exm_BadWheel c C h1 h2) (fun z ob cls d pn hz hv => pss_one (ps_set (i := 3) sc__law_refused.nd rfl (.inl rfl) (he_tup (ha_cons he_str (ha_cons (he_what ER hz hv rfl (.inl rfl)) ha_nil))))) (cr_set (i := 4) (j := 3) (f := fun c w => .tup [.str "wheel", w])) (.cons (q := none) (sub := subOf "Refused") rfl (by decide) T.e_Refused.gC trivial (fun c C h1 h2 => T.exm_Refused c C h1 h2) (fun z ob cls d pn hz hv => (rss_one (rs_set (i := 3) sc__law_refused.nd rfl (.inl rfl) (re_tup (ra_cons re_str (ra_cons re_int ra_nil)))))) (cr_bare (m := (sSet 3 (eTup (aCons (eC (.str "other")) (aCons (eC (.int 0)) aNil)))))) .nil))))) (rss_one (rs_ret (rv 3)))))
theorem ok_law (T : Txt PP K mg fI cc cda C_Refused C_BadSize C_BadWheel C_BadCount a_choose a_bags a_power a_want_places a_want_wheel a_common a_measure a_want_threads a_rows_of_lot a_lot_ledgers a__law_pool a__law_take a__law_one a__law_bags a__law_common a__law_rows a__law_refused a_law fd_choose fd_bags fd_power fd_want_places fd_want_wheel fd_common fd_measure fd_want_threads fd_rows_of_lot fd_lot_ledgers fd__law_pool fd__law_take fd__law_one fd__law_bags fd__law_common fd__law_rows fd__law_refused fd_law) (O__law_pool : FnOk PP w K mg base (L2.CX PP w) 1 a__law_pool fd__law_pool ["script", "k"] (spF K mg 2 (f__law_pool))) (O_lot_ledgers : FnOk PP w K mg base (L2.CX PP w) 7 a_lot_ledgers fd_lot_ledgers ["b", "many", "M"] (spF K mg 3 (f_lot_ledgers))) (O__law_one : FnOk PP w K mg base (L2.CX PP w) 2 a__law_one fd__law_one ["source", "things"] (spF K mg 2 (f__law_one))) (O__law_take : FnOk PP w K mg base (L2.CX PP w) 1 a__law_take fd__law_take ["source", "top"] (spF K mg 2 (f__law_take))) (O__law_refused : FnOk PP w K mg base (L2.CX PP w) 8 a__law_refused fd__law_refused ["b", "many", "wheel"] (spF K mg 3 (f__law_refused))) (O__law_rows : FnOk PP w K mg base (L2.CX PP w) 2 a__law_rows fd__law_rows ["b", "many", "wheel"] (spF K mg 3 (f__law_rows))) : FnOk PP w K mg base (L2.CX PP w) 9 a_law fd_law ["script"] (spF K mg 1 (f_law)) := by
  refine fn_ok T.F_law sc_law fun cdv A outer s H E hr => ?_
  have tk_ : Takes (cxOf (L2.CX PP w) PP w K mg base ["script", "turn", "source", "b", "many", "wheel", "told", "far", "bad", "worse", "worst"] "law" (defScope s_law) a_law cdv A outer s H E) (fun cls d _ H => E cls d H) := takes_of rfl rfl rfl rfl
  exact (rss_cons (rs_for (passes_of rfl) rfl (ri_range1 T.b_range (ra_cons re_int ra_nil)) (rg_name (i := 1) sc_law.nd rfl (.inl rfl)) (rss_cons (rs_set (i := 2) sc_law.nd rfl (.inl rfl) (re_callR (RunAt.ok O__law_pool (hr.mono (by decide))) T.m__law_pool T.F__law_pool.kp (bd__law_pool T) tk_ (ra_cons (rv 0) (ra_cons (rv 1) ra_nil)) (len_cons (len_cons len_nil)))) (rss_cons (rs_par3 (i := 3) (j := 4) (l := 5) rfl sc_law.nd rfl rfl rfl rfl rfl rfl (ra_cons (re_op o_add re_int (re_callR (RunAt.ok O__law_take (hr.mono (by decide))) T.m__law_take T.F__law_take.kp (bd__law_take T) tk_ (ra_cons (rv 2) (ra_cons re_int ra_nil)) (len_cons (len_cons len_nil)))) (ra_cons (re_callR (RunAt.ok O__law_take (hr.mono (by decide))) T.m__law_take T.F__law_take.kp (bd__law_take T) tk_ (ra_cons (rv 2) (ra_cons re_int ra_nil)) (len_cons (len_cons len_nil))) (ra_cons (re_op o_add re_int (re_callR (RunAt.ok O__law_take (hr.mono (by decide))) T.m__law_take T.F__law_take.kp (bd__law_take T) tk_ (ra_cons (rv 2) (ra_cons re_int ra_nil)) (len_cons (len_cons len_nil)))) ra_nil)))) (rss_cons (rs_if (rt_w (rw_and (rt_cmp (o_eq hr.units) (rv 3) re_int (nomark _)) (rw_and1 (rt_cmp o_gt (rv 4) re_int (nomark _))))) (rss_one (rs_set (i := 5) sc_law.nd rfl (.inl rfl) (re_op o_add re_int (re_op o_mod (re_ct c_int T.b_int boot_int_ (ra_cons (rv 5) ra_nil)) re_int)))) rss_nil) (rss_cons (rs_if (rt_cmp (o_eq hr.units) (rv 3) re_int (nomark _)) (rss_one (rs_set (i := 5) sc_law.nd rfl (.inl rfl) (re_op o_add re_int (re_op o_mod (re_ct c_int T.b_int boot_int_ (ra_cons (rv 5) ra_nil)) re_int)))) rss_nil) (rss_cons (rs_set (i := 6) sc_law.nd rfl (.inl rfl) (re_callK0 (ix := [2, 1, 0]) (n := 3) (RunAt.ok O_lot_ledgers (hr.mono (by decide))) T.m_lot_ledgers T.F_lot_ledgers.kp tk_ (rk_cons (rv 5) (rk_cons (rv 4) (rk_cons (rv 3) rk_nil))) (len_cons (len_cons (len_cons len_nil))) (by decide) rfl (kb_lot_ledgers_0_M_many_b T))) (rss_cons (rs_if (rt_w (rw_or (rt_not (rt_tru (re_isB (rv 6) T.b_isinstance T.b_int boot_int_ boot_isinstance_))) (rw_or (rt_tru (re_isB (rv 6) T.b_isinstance T.b_bool boot_bool_ boot_isinstance_)) (rw_or1 (rt_cmp (o_ne hr.units) (rv 6) (re_cb c_len T.b_len boot_len_ (ra_cons (re_callR (RunAt.ok O__law_rows (hr.mono (by decide))) T.m__law_rows T.F__law_rows.kp (bd__law_rows T) tk_ (ra_cons (rv 3) (ra_cons (rv 4) (ra_cons (rv 5) ra_nil))) (len_cons (len_cons (len_cons len_nil)))) ra_nil)) (nomark _)))))) (rss_one (rs_ret re_bl)) rss_nil) (rss_cons (rs_set (i := 7) sc_law.nd rfl (.inl rfl) (re_op o_add re_int (re_op o_mul (re_callR (RunAt.ok O__law_take (hr.mono (by decide))) T.m__law_take T.F__law_take.kp (bd__law_take T) tk_ (ra_cons (rv 2) (ra_cons re_int ra_nil)) (len_cons (len_cons len_nil))) (re_callR (RunAt.ok O__law_take (hr.mono (by decide))) T.m__law_take T.F__law_take.kp (bd__law_take T) tk_ (ra_cons (rv 2) (ra_cons (re_op o_pow re_int re_int) ra_nil)) (len_cons (len_cons len_nil)))))) (rss_cons (rs_set (i := 8) sc_law.nd rfl (.inl rfl) (re_callR (RunAt.ok O__law_one (hr.mono (by decide))) T.m__law_one T.F__law_one.kp (bd__law_one T) tk_ (ra_cons (rv 2) (ra_cons (re_lst (ra_cons re_int (ra_cons (re_op o_sub re_int (rv 7)) (ra_cons (re_op o_add re_int (rv 7)) ra_nil)))) ra_nil)) (len_cons (len_cons len_nil)))) (rss_cons (rs_set (i := 9) sc_law.nd rfl (.inl rfl) (re_callR (RunAt.ok O__law_one (hr.mono (by decide))) T.m__law_one T.F__law_one.kp (bd__law_one T) tk_ (ra_cons (rv 2) (ra_cons (re_lst (ra_cons (re_un o_neg (rv 7)) (ra_cons (re_op o_add re_int (rv 7)) ra_nil))) ra_nil)) (len_cons (len_cons len_nil)))) (rss_cons (rs_set (i := 10) sc_law.nd rfl (.inl rfl) (re_callR (RunAt.ok O__law_one (hr.mono (by decide))) T.m__law_one T.F__law_one.kp (bd__law_one T) tk_ (ra_cons (rv 2) (ra_cons (re_lst (ra_cons re_int (ra_cons (re_op o_sub re_int (rv 7)) (ra_cons (re_op o_add re_int (rv 7)) ra_nil)))) ra_nil)) (len_cons (len_cons len_nil)))) (rss_cons (rs_if (rt_cmp (o_ne hr.units) (re_callR (RunAt.ok O__law_refused (hr.mono (by decide))) T.m__law_refused T.F__law_refused.kp (bd__law_refused T) tk_ (ra_cons (rv 8) (ra_cons (re_callR (RunAt.ok O__law_one (hr.mono (by decide))) T.m__law_one T.F__law_one.kp (bd__law_one T) tk_ (ra_cons (rv 2) (ra_cons (re_lst (ra_cons (rv 4) (ra_cons (rv 9) ra_nil))) ra_nil)) (len_cons (len_cons len_nil))) (ra_cons (re_callR (RunAt.ok O__law_one (hr.mono (by decide))) T.m__law_one T.F__law_one.kp (bd__law_one T) tk_ (ra_cons (rv 2) (ra_cons (re_lst (ra_cons (rv 5) (ra_cons (rv 10) ra_nil))) ra_nil)) (len_cons (len_cons len_nil))) ra_nil))) (len_cons (len_cons (len_cons len_nil)))) (re_tup (ra_cons re_str (ra_cons (rv 8) ra_nil))) (nomark _)) (rss_one (rs_ret re_bl)) rss_nil) (rss_cons (rs_if (rt_cmp (o_ne hr.units) (re_callR (RunAt.ok O__law_refused (hr.mono (by decide))) T.m__law_refused T.F__law_refused.kp (bd__law_refused T) tk_ (ra_cons (rv 3) (ra_cons (rv 9) (ra_cons (re_callR (RunAt.ok O__law_one (hr.mono (by decide))) T.m__law_one T.F__law_one.kp (bd__law_one T) tk_ (ra_cons (rv 2) (ra_cons (re_lst (ra_cons (rv 5) (ra_cons (rv 10) ra_nil))) ra_nil)) (len_cons (len_cons len_nil))) ra_nil))) (len_cons (len_cons (len_cons len_nil)))) (re_tup (ra_cons re_str (ra_cons (rv 9) ra_nil))) (nomark _)) (rss_one (rs_ret re_bl)) rss_nil) (rss_one (rs_if (rt_cmp (o_ne hr.units) (re_callR (RunAt.ok O__law_refused (hr.mono (by decide))) T.m__law_refused T.F__law_refused.kp (bd__law_refused T) tk_ (ra_cons (rv 3) (ra_cons (rv 4) (ra_cons (rv 10) ra_nil))) (len_cons (len_cons (len_cons len_nil)))) (re_tup (ra_cons re_str (ra_cons (rv 10) ra_nil))) (nomark _)) (rss_one (rs_ret re_bl)) rss_nil))))))))))))))) (rss_one (rs_ret (re_and (re_cmp (o_eq hr.units) (re_callR (RunAt.ok O_lot_ledgers (hr.mono (by decide))) T.m_lot_ledgers T.F_lot_ledgers.kp (bd_lot_ledgers T) tk_ (ra_cons re_int (ra_cons re_int (ra_cons re_int ra_nil))) (len_cons (len_cons (len_cons len_nil)))) re_int (nomark _)) (re_and (re_cmp (o_eq hr.units) (re_callR (RunAt.ok O_lot_ledgers (hr.mono (by decide))) T.m_lot_ledgers T.F_lot_ledgers.kp (bd_lot_ledgers T) tk_ (ra_cons re_int (ra_cons re_int (ra_cons re_int ra_nil))) (len_cons (len_cons (len_cons len_nil)))) re_int (nomark _)) (re_one (re_cmp (o_eq hr.units) (re_callR (RunAt.ok O_lot_ledgers (hr.mono (by decide))) T.m_lot_ledgers T.F_lot_ledgers.kp (bd_lot_ledgers T) tk_ (ra_cons re_int (ra_cons re_int (ra_cons re_int ra_nil))) (len_cons (len_cons (len_cons len_nil)))) re_int (nomark _))))))))
end
end Wk
namespace Wk
open PySem PySem.Spec PyProof.Rows L2 SKX SK LamX
/-! ### the law's own drawing -/
/-- a source of draws stands at n -/
def SrcAt (n : Nat) (oh : OH) : Prop := ∃ a m : Int, oh[n]? = some (.lst [.int a, .int m]) ∧ 0 ≤ a ∧ 0 ≤ m ∧ m < 2147483647
/-- another heap that differs at the source alone -/
def Src2 (n : Nat) (oh oh' : OH) : Prop := ∃ c, oh' = oh.set n c
theorem take_ok {oh : OH} {n : Nat} {top : Int} (h : SrcAt n oh) (ht : 0 < top) (ht2 : top < 2 ^ 64) : ∃ d oh', f__law_take [.ref n, .int top] oh = .ok (.int d) oh' ∧ 0 ≤ d ∧ d < top ∧ SrcAt n oh' ∧ Src2 n oh oh' := by
  obtain ⟨a, m, hn, ha, hm, hm2⟩ := h
  have i0 : ∀ s, itemsOf (oh.set n (.lst s)) (.ref n) = some s := fun s => z_itl (get_set hn)
  have il := z_itl hn
  by_cases hp : 0 < a
  · refine ⟨a % top, oh.set n (.lst [.int (a / top), .int m]), ?_, Int.emod_nonneg _ (by omega), Int.emod_lt_of_pos _ ht, ⟨a / top, m, get_set hn, Int.ediv_nonneg ha (by omega), hm, hm2⟩, _, rfl⟩
    simp [f__law_take, m__law_take, z_ixd il (i := 0) (by omega) rfl, hp, z_mod ht, z_div ht ht2, z_seti (i := 0) hn (by omega) (by simp)]
  · have e1 := z_ixd (i := 1) il (by omega) rfl
    have hb : 0 ≤ (m * 39373 + 7) % 2147483647 ∧ (m * 39373 + 7) % 2147483647 < 2147483647 := ⟨Int.emod_nonneg _ (by omega), Int.emod_lt_of_pos _ (by omega)⟩
    generalize hM : (m * 39373 + 7) % 2147483647 = M at hb
    refine ⟨(M * M % 2147483629 / 32) % top, oh.set n (.lst [.int a, .int M]), ?_, Int.emod_nonneg _ (by omega), Int.emod_lt_of_pos _ ht, ⟨a, M, get_set hn, ha, hb.1, hb.2⟩, _, rfl⟩
    simp [f__law_take, m__law_take, z_ixd il (i := 0) (by omega) rfl, hp, e1, z_mulr (i := m) (j := 39373) (by omega) (by omega), z_mod (j := 2147483647) (by omega), hM, z_seti (i := 1) hn (by omega) (by simp), z_ixd (i0 [.int a, .int M]) (i := 1) (by omega) rfl,
      z_mulr (i := M) (j := M) (by omega) (by omega), z_mod (j := 2147483629) (by omega), z_div (j := 32) (by omega) (by omega), z_mod ht]
theorem pool_ok {ns : List Int} {t : OH} {k : Int} (h0 : 0 ≤ k) (h1 : k < 100) : ∃ a m : Int, f__law_pool [.ref 0, .int k] (.ro (ns.map D.int) :: t) = .ok (.ref (t.length + 1)) ((.ro (ns.map D.int) :: t) ++ [.lst [.int a, .int m]]) ∧ 0 ≤ a ∧ 0 ≤ m ∧ m < 2147483647 := by
  have il : itemsOf (.ro (ns.map D.int) :: t) (.ref 0) = some (ns.map D.int) := z_itr rfl
  have key : ∃ cell : Int, (sSeq (sSet 2 (eC (.int 0))) (sIf (tB1 (e2 (pLt) (eVar 1) (eCB bLen (aCons (eVar 0) aNil)))) (sSet 2 (e2 pIx (eVar 0) (eVar 1))) (sIf (tTru (eVar 0)) (sSet 2 (e2 pIx (eVar 0) (eC (.int 0)))) sSkip))) [some (.ref 0), some (.int k), none, none, none] (.ro (ns.map D.int) :: t) = .nx [some (.ref 0), some (.int k), some (.int cell), none, none] (.ro (ns.map D.int) :: t) := by
    by_cases hk : k < ns.length
    · obtain ⟨d, hd, e⟩ := z_ix (i := k) il h0 (by simpa using hk)
      rw [List.getElem?_map] at hd
      cases hg : ns[k.toNat]? with
      | none => rw [hg] at hd; cases hd
      | some v =>
        rw [hg] at hd
        cases hd
        exact ⟨v, by simp [z_len il, hk, e]⟩
    · cases ns with
      | nil =>
        have il : itemsOf (.ro [] :: t) (.ref 0) = some [] := z_itr rfl
        have hk : ¬ k < 0 := by omega
        exact ⟨0, by simp [z_len il, hk, truD]⟩
      | cons v r =>
        refine ⟨v, ?_⟩
        have e := z_ixd (i := 0) il (by omega) rfl
        simp only [List.map_cons] at il e ⊢
        have hk : ¬ k < (r.length : Int) + 1 := by simpa using hk
        simp [z_len il, hk, truD, e]
  obtain ⟨cell, hc⟩ := key
  generalize hB : (if -1 - cell > cell then -1 - cell else cell) = B
  have hB0 : 0 ≤ B := by subst hB; split <;> omega
  refine ⟨B * (if (10 ^ 18 : Int) ≤ B then 1 else 0), ((B % 2147483629 + 7919 * k * k + 31 * k + 17) * 48271) % 2147483647, ?_, ?_, Int.emod_nonneg _ (by omega), Int.emod_lt_of_pos _ (by omega)⟩
  · have hbnd : -(2 ^ 64) < (7919 * k : Int) ∧ (7919 * k : Int) < 2 ^ 64 := by omega
    have hbnd2 : -(2 ^ 64) < (31 : Int) ∧ (31 : Int) < 2 ^ 64 := by omega
    have e : ∀ (a b c : SM) s oh, (sSeq a (sSeq b c)) s oh = (sSeq (sSeq a b) c) s oh := fun a b c s oh => by
      simp only [z_seq]
      cases a s oh <;> rfl
    have hp : pPow (.int 10) (.int 18) (.ro (ns.map D.int) :: t) = some (.int (10 ^ 18), .ro (ns.map D.int) :: t) := rfl
    unfold f__law_pool m__law_pool
    rw [z_fn, e, z_seq]
    simp only [List.map_cons, List.map_nil, List.length_cons, List.length_nil, List.replicate, List.cons_append, List.nil_append, Nat.zero_add, Nat.reduceAdd, Nat.reduceSub, hc]
    have hq : pMul (.int B) (.int (if (10 ^ 18 : Int) ≤ B then 1 else 0)) (.ro (ns.map D.int) :: t) = some (.int (B * (if (10 ^ 18 : Int) ≤ B then 1 else 0)), .ro (ns.map D.int) :: t) := z_mulr (by split <;> omega) (by split <;> omega)
    simp only [Int.reducePow] at hq hp
    simp [hB, z_mod (j := 2147483629) (by omega), z_mull (i := 7919) (by omega) (by omega), z_mull hbnd.1 hbnd.2, z_mull (i := 31) (by omega) (by omega), z_mulr (j := 48271) (by omega) (by omega), z_mod (j := 2147483647) (by omega), hp, hq, sizeLine]
  · split <;> omega
theorem pool_src {ns : List Int} {t : OH} {k : Int} (h0 : 0 ≤ k) (h1 : k < 100) : ∃ oh', f__law_pool [.ref 0, .int k] (.ro (ns.map D.int) :: t) = .ok (.ref (t.length + 1)) (.ro (ns.map D.int) :: t ++ [oh']) ∧ SrcAt (t.length + 1) (.ro (ns.map D.int) :: t ++ [oh']) := by
  obtain ⟨a, m, h, h2, h3, h4⟩ := pool_ok (ns := ns) (t := t) h0 h1
  exact ⟨_, h, a, m, by simp, h2, h3, h4⟩
theorem one_ok {oh : OH} {n : Nat} {d : D} {l : List D} (h : SrcAt n oh) (hd : ∀ c, itemsOf (oh.set n c) d = some l) (hz : itemsOf oh d = some l) (hl : 0 < l.length) (hl2 : l.length < 2 ^ 62) : ∃ x oh', f__law_one [.ref n, d] oh = .ok x oh' ∧ x ∈ l ∧ SrcAt n oh' ∧ Src2 n oh oh' := by
  obtain ⟨v, oh', e, h0, h1, hs, c, rfl⟩ := take_ok (top := (l.length : Int)) h (by omega) (by omega)
  obtain ⟨x, hx, e2⟩ := z_ix (hd c) h0 h1
  refine ⟨x, _, ?_, List.mem_of_getElem? hx, hs, c, rfl⟩
  simp [f__law_one, m__law_one, z_len hz, e, e2]
end Wk
namespace CH
/-! ### choosing, by sums -/
def chs : Nat → Nat → Nat
  | _, 0 => 1
  | 0, _ + 1 => 0
  | n + 1, k + 1 => chs n k + chs n (k + 1)
theorem chs_zero : ∀ {n k : Nat}, n < k → chs n k = 0
  | _, 0, h => absurd h (Nat.not_lt_zero _)
  | 0, k + 1, _ => by simp [chs]
  | n + 1, k + 1, h => by simp only [chs, chs_zero (show n < k by omega), chs_zero (show n < k + 1 by omega)]
theorem chs_z (n : Nat) : chs n 0 = 1 := by cases n <;> rfl
theorem chs_step : ∀ (n k : Nat), chs n (k + 1) * (k + 1) = chs n k * (n - k)
  | 0, k => by simp [chs]
  | n + 1, 0 => by
    have h := chs_step n 0
    simp only [chs_z, Nat.zero_add, Nat.mul_one, Nat.one_mul, Nat.sub_zero] at h
    simp only [chs, chs_z, Nat.zero_add, h, Nat.mul_one, Nat.one_mul, Nat.sub_zero]
    omega
  | n + 1, k + 1 => by
    have h1 := chs_step n (k + 1)
    have h2 := chs_step n k
    show (chs n (k + 1) + chs n (k + 1 + 1)) * (k + 1 + 1) = (chs n k + chs n (k + 1)) * (n + 1 - (k + 1))
    have e : n + 1 - (k + 1) = n - k := by omega
    rw [e, Nat.add_mul, h1, Nat.add_mul, ← h2]
    rcases Nat.lt_or_ge n (k + 1) with h | h
    · rw [chs_zero h]
      simp
    · rw [← Nat.mul_add, ← Nat.mul_add]
      congr 1
      omega
def fac : Nat → Nat
  | 0 => 1
  | n + 1 => fac n * (n + 1)
/-- a (a - 1) .. of k numbers -/
def fal (a : Nat) : Nat → Nat
  | 0 => 1
  | k + 1 => fal a k * (a - k)
theorem fac_pos : ∀ n, 0 < fac n
  | 0 => Nat.one_pos
  | n + 1 => Nat.mul_pos (fac_pos n) (Nat.succ_pos n)
theorem fal_chs (a : Nat) : ∀ k, fal a k = chs a k * fac k
  | 0 => by simp [fal, chs_z, fac]
  | k + 1 => by
    rw [fal, fal_chs a k, fac, Nat.mul_right_comm, ← chs_step, Nat.mul_right_comm, Nat.mul_assoc]
theorem fal_div (a k : Nat) : fal a k / fac k = chs a k := by
  rw [fal_chs, Nat.mul_div_cancel _ (fac_pos k)]
theorem fal_fac : ∀ (k b : Nat), fal (k + b) k * fac b = fac (k + b)
  | 0, b => by simp [fal]
  | k + 1, b => by
    have h := fal_fac k (b + 1)
    have e : k + (b + 1) = k + 1 + b := by omega
    rw [e] at h
    rw [fal, ← h, fac, Nat.mul_assoc]
    have e2 : k + 1 + b - k = b + 1 := by omega
    rw [e2, Nat.mul_comm (b + 1)]
theorem chs_sym (a b : Nat) : chs (a + b) a = chs (a + b) b := by
  have h1 := fal_fac a b
  have h2 := fal_fac b a
  rw [Nat.add_comm b a] at h2
  rw [fal_chs] at h1 h2
  have h3 : chs (a + b) a * (fac a * fac b) = chs (a + b) b * (fac a * fac b) := by
    rw [← Nat.mul_assoc, h1, Nat.mul_comm (fac a), ← Nat.mul_assoc, h2]
  exact Nat.eq_of_mul_eq_mul_right (Nat.mul_pos (fac_pos a) (fac_pos b)) h3
theorem fac_mono : ∀ {a b : Nat}, a ≤ b → fac a ≤ fac b
  | a, b, h => by
    induction h with
    | refl => exact Nat.le_refl _
    | step _ ih => exact Nat.le_trans ih (Nat.le_mul_of_pos_right _ (Nat.succ_pos _))
theorem fac_log {k : Nat} (h : k ≤ 400) : (fac k).log2 < 9000 := by
  have h1 := fac_mono h
  have h2 : fac 400 < 2 ^ 9000 := by decide +kernel
  exact (Nat.log2_lt (by have := fac_pos k; omega)).mpr (Nat.lt_of_le_of_lt h1 h2)
theorem chs_one (n : Nat) : chs n 1 = n := by
  have h := chs_step n 0
  simpa [chs_z] using h
end CH
namespace Wk
open PySem PySem.Spec PyProof.Rows L2 SKX SK LamX CH
theorem pre3 {x y : D} : [x, y].map some ++ List.replicate (4 - [x, y].length) none = [some x, some y, none, none] := rfl
theorem pre5 {x y : D} : [x, y].map some ++ List.replicate (5 - [x, y].length) none = [some x, some y, none, none, none] := rfl
theorem pre33 {x y : D} : [x, y].map some ++ List.replicate (3 - [x, y].length) none = [some x, some y, none] := rfl
theorem hff : (false = true) = False := by simp
theorem choose_ok {a b : Nat} (oh : OH) (hb : b ≤ 400) (ha : a < 2 ^ 63) : f_choose [.int a, .int b] oh = .ok (.int (chs a b : Nat)) oh := by
  have c1 : ¬ ((a : Int) < 0) := by omega
  have c2 : (0 : Int) ≤ b := by omega
  have c3 : (b : Int) ≤ 400 := by omega
  by_cases hab : (a : Int) < b
  · have hz : chs a b = 0 := chs_zero (by omega)
    unfold f_choose m_choose
    rw [z_fn, pre3]
    simp [c1, c2, c3, hab, hz]
  · have hr := z_r1 (ms := aCons (eVar 1) aNil) (s := [some (.int a), some (.int b), some (.int 1), none]) (oh := oh) (oh' := oh) (j := b) (by simp) (by omega) (by omega)
    rw [Int.toNat_natCast] at hr
    obtain ⟨s', o', e, x, rfl, rfl⟩ := forN_ind (g := SK.gN 3) (body := sSet 2 (SK.e2 pDiv (SK.e2 pMul (eVar 2) (SK.e2 pSub (eVar 0) (eVar 3))) (SK.e2 pAdd (eVar 3) (eC (.int 1))))) hr
      (fun i s o => ∃ x, s = [some (.int a), some (.int b), some (.int (chs a i : Nat)), x] ∧ o = oh) ⟨none, by simp [chs_z], rfl⟩
      (fun i s o hi ⟨x, es, eo⟩ => by
        subst es; subst eo
        refine ⟨[some (.int a), some (.int b), some (.int (chs a i : Nat)), some (.int (i : Int))], o, by simp, [some (.int a), some (.int b), some (.int (chs a (i + 1) : Nat)), some (.int (i : Int))], o, ?_, _, rfl, rfl⟩
        have h1 : pMul (.int (chs a i : Nat)) (.int ((a : Int) - (i : Int))) o = some (.int ((chs a i : Nat) * ((a : Int) - (i : Int))), o) := z_mulr (by omega) (by omega)
        have h2 : pDiv (.int ((chs a i : Nat) * ((a : Int) - (i : Int)))) (.int ((i : Int) + 1)) o = some (.int (((chs a i : Nat) * ((a : Int) - (i : Int))) / ((i : Int) + 1)), o) := z_div (by omega) (by omega)
        have h3 : (((chs a i : Nat) : Int) * ((a : Int) - (i : Int))) / ((i : Int) + 1) = ((chs a (i + 1) : Nat) : Int) := by
          have e1 : ((a : Int) - (i : Int)) = ((a - i : Nat) : Int) := by omega
          have e2 : ((i : Int) + 1) = ((i + 1 : Nat) : Int) := by omega
          rw [e1, e2, ← Int.natCast_mul, ← chs_step, Int.natCast_mul, Int.mul_ediv_cancel _ (by omega)]
        rw [h3] at h2
        simp only [z_set, z_e2, z_var, List.set_cons_succ, List.set_cons_zero, List.getElem?_cons_succ, List.getElem?_cons_zero, z_bok, z_sub, z_lf, h1, z_c, z_add, h2, z_sok])
    unfold f_choose m_choose
    rw [z_fn, pre3]
    simp only [z_seq, z_if, z_tb, z_e2, z_ch, z_not, z_var, z_c, List.getElem?_cons_succ, List.getElem?_cons_zero, z_bok, z_lt, z_le, z_lf, z_sok, decide_eq_false c1, decide_eq_true c2, decide_eq_true c3, decide_eq_false hab, Bool.not_true, hff, if_false, z_skip, z_nx, z_set, List.set_cons_succ, List.set_cons_zero]
    rw [e]
    simp
theorem choose_bad {a b z : Int} (oh : OH) (h : (a < 0 ∧ z = a) ∨ (0 ≤ a ∧ (b < 0 ∨ 400 < b) ∧ z = b)) : f_choose [.int a, .int b] oh = .exc "BadCount" (.int z) oh := by
  unfold f_choose m_choose
  rw [z_fn, pre3]
  rcases h with ⟨h1, rfl⟩ | ⟨h1, h2, rfl⟩
  · simp [h1]
  · have c1 : ¬ a < 0 := by omega
    rcases h2 with h2 | h2
    · have c2 : ¬ 0 ≤ z := by omega
      simp [c1, c2]
    · have c2 : 0 ≤ z := by omega
      have c3 : ¬ z ≤ 400 := by omega
      simp [c1, c2, c3]
def bagV (K m : Nat) : Nat := if K = 0 then (if m = 0 then 1 else 0) else chs (K + m - 1) m
theorem bags_ok {K m : Nat} (oh : OH) (h : ¬ (60 < m ∧ 400 < K)) (hs : K + m < 2 ^ 62) : f_bags [.int K, .int m] oh = .ok (.int (bagV K m : Nat)) oh := by
  have c1 : ¬ ((K : Int) < 0) := by omega
  have c2 : ¬ ((m : Int) < 0) := by omega
  have h2 : (2 ≤ sizeLine) = True := eq_true (size_le (by decide))
  have hA : (tAndD (tB1 (SK.e2 (pGt) (eVar 1) (eC (.int 60)))) (tB1 (SK.e2 (pGt) (eVar 0) (eC (.int 400))))) [some (.int K), some (.int m), some (.int m)] oh = .ok false oh := by
    by_cases h1 : (60 : Int) < m
    · have h3 : ¬ (400 : Int) < K := by omega
      simp [h1, h3]
    · simp [h1]
  have hF : sFor (iVal (eTup (aCons (eVar 0) (aCons (eVar 1) aNil)))) (gN 2) (sIf (tB1 (SK.e2 (pLt) (eVar 2) (eC (.int 0)))) (sRaise "BadCount" (eVar 2)) sSkip) [some (.int K), some (.int m), none] oh = .nx [some (.int K), some (.int m), some (.int m)] oh := by
    simp [z_for, loopT, c1, c2, h2]
  unfold f_bags m_bags
  rw [z_fn, pre33]
  simp only [z_seq, hF, z_nx]
  simp only [z_if, hA, z_sok, hff, if_false, z_skip, z_nx]
  by_cases hK : K = 0
  · subst hK
    by_cases hm : m = 0
    · subst hm
      simp [bagV]
    · have hm' : ¬ ((m : Int) = 0) := by omega
      simp [bagV, hm, hm']
  · have hK' : ¬ ((K : Int) = 0) := by omega
    have e1 : (K : Int) + m - 1 = ((K + m - 1 : Nat) : Int) := by omega
    by_cases hm : (m : Int) ≤ 60
    · have hc := choose_ok (a := K + m - 1) (b := m) oh (by omega) (by omega)
      simp [bagV, hK, hK', hm, e1, hc]
    · have e2 : (K : Int) - 1 = ((K - 1 : Nat) : Int) := by omega
      have hc := choose_ok (a := K + m - 1) (b := K - 1) oh (by omega) (by omega)
      have hy : chs (K + m - 1) (K - 1) = chs (K + m - 1) m := by
        have := chs_sym (K - 1) m
        have e : K - 1 + m = K + m - 1 := by omega
        rwa [e] at this
      rw [hy] at hc
      simp [bagV, hK, hK', hm, e1, e2, hc]
theorem bags_bad {a b z : Int} (oh : OH) (h : (a < 0 ∧ z = a) ∨ (0 ≤ a ∧ b < 0 ∧ z = b) ∨ (400 < a ∧ 60 < b ∧ z = a)) : f_bags [.int a, .int b] oh = .exc "BadCount" (.int z) oh := by
  have h2 : (2 ≤ sizeLine) = True := eq_true (size_le (by decide))
  unfold f_bags m_bags
  rw [z_fn, pre33]
  rcases h with ⟨h1, rfl⟩ | ⟨h1, h3, rfl⟩ | ⟨h1, h3, rfl⟩
  · simp [z_for, loopT, h1, h2]
  · have c1 : ¬ a < 0 := by omega
    simp [z_for, loopT, c1, h3, h2]
  · have c1 : ¬ z < 0 := by omega
    have c2 : ¬ b < 0 := by omega
    simp [z_for, loopT, c1, c2, h1, h3, h2]
end Wk
namespace Wk
open PySem PySem.Spec PyProof.Rows L2 SKX SK LamX CH
theorem fn_rt {n : Nat} {body : SM} {ds : List D} {s : Ev} {oh oh2 : OH} {d : D} (hs : ds.map some ++ List.replicate (n - ds.length) none = s) (h : body s oh = .rt d oh2) : mkFn n body ds oh = .ok d oh2 := by
  subst hs
  rw [z_fn, h]
theorem power_ok {x : Int} (k : Nat) (oh : OH) (hx : -(2 ^ 64) < x) (hx2 : x < 2 ^ 64) (hk : k < 2 ^ 60) : f_power [.int x, .int k] oh = .ok (.int (x ^ k)) oh := by
  have hr := z_r1 (ms := aCons (eVar 1) aNil) (s := [some (.int x), some (.int k), some (.int 1), none]) (oh := oh) (oh' := oh) (j := k) (by simp) (by omega) (by omega)
  rw [Int.toNat_natCast] at hr
  obtain ⟨s', o', e, y, rfl, rfl⟩ := forN_ind (g := SK.gN 3) (body := sSet 2 (SK.e2 pMul (eVar 2) (eVar 0))) hr
    (fun i s o => ∃ y, s = [some (.int x), some (.int k), some (.int (x ^ i)), y] ∧ o = oh) ⟨none, by simp, rfl⟩
    (fun i s o hi ⟨y, es, eo⟩ => by
      subst es; subst eo
      refine ⟨[some (.int x), some (.int k), some (.int (x ^ i)), some (.int (0 + (i : Int)))], o, rfl, [some (.int x), some (.int k), some (.int (x ^ (i + 1))), some (.int (0 + (i : Int)))], o, ?_, _, rfl, rfl⟩
      simp only [z_set, z_e2, z_var, List.set_cons_succ, List.set_cons_zero, List.getElem?_cons_succ, List.getElem?_cons_zero, z_bok, z_mulr hx hx2, z_lf, z_sok, Int.pow_succ])
  have hb : m_power [some (.int x), some (.int k), none, none] o' = .rt (.int (x ^ k)) o' := by
    unfold m_power
    rw [z_seq, z_set, z_c, z_sok, z_nx]
    show (sSeq _ _ [some (.int x), some (.int k), some (.int 1), none] o') = _
    rw [z_seq, e, z_nx, z_ret, z_var]
    rfl
  exact fn_rt rfl hb
theorem measure_ok {M : Nat} (r : Int) (oh : OH) (hM : M ≤ 1000000) : f_measure [.int M, .tup [.int r]] oh = .ok (.int (Nat.gcd M r.natAbs : Nat)) oh := by
  have h1 : (0 : Int) ≤ M := by omega
  have h2 : (M : Int) ≤ 1000000 := by omega
  have hw : f_want_wheel [.int M] oh = .ok .non oh := by
    unfold f_want_wheel m_want_wheel
    simp [h1, h2]
  have hc : f_common [.int M, .tup [.int r]] oh = .ok (.int (Nat.gcd M r.natAbs : Nat)) oh := by
    unfold f_common m_common
    simp [z_for, loopT, bGcd]
  unfold f_measure m_measure
  simp [hw, hc]
def sumV (b M : Nat) : List Nat → Int
  | [] => 0
  | x :: r => (x : Int) ^ (b - 1) + sumV b M r
/-- what the package tells -/
def lotV (b many M : Nat) : Int := if b = 1 then (if many = 0 then 1 else 0) else if b = 2 then (if 0 < many then (bagV M many : Nat) else 0) else if many < b - 1 then 0 else if many = b - 1 then (M : Int) ^ (b - 1)
  else if many = b then ((List.range (M / 2 + 1)).map fun r => ((Nat.gcd M r : Nat) : Int) ^ (b - 1)).sum else (((List.range M).filter fun i => M % (i + 1) = 0).map fun i => ((i + 1 : Nat) : Int) ^ (b - 1)).sum
theorem rows_ok {b many M : Nat} (oh : OH) (hb : 1 ≤ b) (hb2 : b ≤ 20) (hm : many ≤ 40) (hM : 1 ≤ M) (hM2 : M ≤ 1000) : ∃ oh', f_rows_of_lot [.int b, .int many, .int M] oh = .ok (.int (lotV b many M)) oh' ∧ Up oh oh' := by
  have pr : [D.int (b : Int), D.int (many : Int), D.int (M : Int)].map some ++ List.replicate (5 - [D.int (b : Int), D.int (many : Int), D.int (M : Int)].length) none = [some (D.int (b : Int)), some (D.int (many : Int)), some (D.int (M : Int)), none, none] := rfl
  unfold f_rows_of_lot m_rows_of_lot
  rw [z_fn, pr]
  by_cases h1 : b = 1
  · subst h1
    refine ⟨oh, ?_, Up.refl _⟩
    by_cases h2 : many = 0
    · subst h2
      simp [lotV]
    · have h2' : ¬ (many : Int) = 0 := by omega
      simp [lotV, h2, h2']
  · have h1' : ¬ (b : Int) = 1 := by omega
    by_cases h2 : b = 2
    · subst h2
      refine ⟨oh, ?_, Up.refl _⟩
      by_cases h3 : 0 < many
      · have h3' : (0 : Int) < many := by omega
        have hbg := bags_ok (K := M) (m := many) oh (by omega) (by omega)
        simp [lotV, h3, h3', hbg]
      · have h3' : ¬ (0 : Int) < many := by omega
        simp [lotV, h3, h3']
    · have h2' : ¬ (b : Int) = 2 := by omega
      have eb : (b : Int) - 1 = ((b - 1 : Nat) : Int) := by omega
      by_cases h3 : many < b - 1
      · have h3' : (many : Int) < ((b - 1 : Nat) : Int) := by omega
        refine ⟨oh, ?_, Up.refl _⟩
        simp [lotV, h1, h1', h2, h2', eb, h3, h3']
      · have h3' : ¬ (many : Int) < ((b - 1 : Nat) : Int) := by omega
        by_cases h4 : many = b - 1
        · have h4' : (many : Int) = ((b - 1 : Nat) : Int) := by omega
          have hp := power_ok (x := M) (b - 1) oh (by omega) (by omega) (by omega)
          refine ⟨oh, ?_, Up.refl _⟩
          simp [lotV, h1, h1', h2, h2', eb, h4, hp]
        · have h4' : ¬ (many : Int) = ((b - 1 : Nat) : Int) := by omega
          by_cases h5 : many = b
          · have h5' : (many : Int) = (b : Int) := by omega
            have hr := z_r1 (ms := aCons (SK.e2 pAdd (SK.e2 pDiv (eVar 2) (eC (.int 2))) (eC (.int 1))) aNil) (s := [some (D.int (b : Int)), some (D.int (many : Int)), some (D.int (M : Int)), none, none]) (oh := oh) (oh' := oh) (j := (M : Int) / 2 + 1) (by simp [z_div (j := 2) (by omega) (by omega)]) (by omega) (by omega)
            have en : ((M : Int) / 2 + 1).toNat = M / 2 + 1 := by omega
            rw [en] at hr
            obtain ⟨o1, q1, u1, n1⟩ := lcN_pure (g := (CT.one 3).g) (t := tYesD) (el := eCall f_power (aCons (eCall f_measure (aCons (eVar 2) (aCons (eTup (aCons (eVar 3) aNil)) aNil))) (aCons (SK.e2 pSub (eVar 0) (eC (.int 1))) aNil))) (vs := [3]) (fun _ => true) (fun d => match d with | .int r => .int ((Nat.gcd M r.natAbs : Nat) ^ (b - 1)) | d => d) hr (by omega)
              (fun i hi o u => ⟨[some (D.int (b : Int)), some (D.int (many : Int)), some (D.int (M : Int)), some (D.int (0 + (i : Int))), none], rfl, rfl, fun _ => by
                have hg : Nat.gcd M (0 + (i : Int)).natAbs ≤ M := Nat.le_of_dvd (by omega) (Nat.gcd_dvd_left _ _)
                have hp := power_ok (x := ((Nat.gcd M (0 + (i : Int)).natAbs : Nat) : Int)) (b - 1) o (by omega) (by omega) (by omega)
                have hs : (1 ≤ sizeLine) = True := eq_true (size_le (by decide))
                simp only [z_call, z_cons, z_var, List.getElem?_cons_succ, List.getElem?_cons_zero, z_bok, z_tup, z_nil, List.length_cons, List.length_nil, Nat.zero_add, hs, if_true, measure_ok _ _ (show M ≤ 1000000 by omega), z_e2, z_c, z_sub, z_lf, eb, hp]⟩)
            have hst : ((((List.range (M / 2 + 1)).map fun (i : Nat) => D.int (0 + (i : Int))).filter fun _ => true).map fun d => match d with | .int r => .int ((Nat.gcd M r.natAbs : Nat) ^ (b - 1)) | d => d) = ((List.range (M / 2 + 1)).map fun r => ((Nat.gcd M r : Nat) : Int) ^ (b - 1)).map D.int := by
              rw [List.filter_eq_self.mpr (fun _ _ => rfl), List.map_map, List.map_map]
              refine List.map_congr_left fun i _ => ?_
              simp
            rw [hst] at n1
            refine ⟨o1, ?_, u1⟩
            have hs := z_sum n1
            simp only [z_seq, z_if, z_tb, z_e2, z_var, z_c, List.getElem?_cons_succ, List.getElem?_cons_zero, z_bok, z_eqi, z_lf, z_sok, decide_eq_false h1', decide_eq_false h2', hff, if_false, z_skip, z_nx, z_sub, eb, z_lt, decide_eq_false h3', decide_eq_false h4', decide_eq_true h5', if_true, z_ret, z_cb, z_cons, q1, z_nil, hs, z_rt]
            simp only [lotV, if_neg h1, if_neg h2, if_neg h3, if_neg h4, if_pos h5]
          · have h5' : ¬ (many : Int) = (b : Int) := by omega
            have hr := z_r2 (ms := aCons (eC (.int 1)) (aCons (SK.e2 pAdd (eVar 2) (eC (.int 1))) aNil)) (s := [some (D.int (b : Int)), some (D.int (many : Int)), some (D.int (M : Int)), none, none]) (oh := oh) (oh' := oh) (i := 1) (j := (M : Int) + 1) (by simp) (by omega) (by omega) (by omega) (by omega)
            have en : ((M : Int) + 1 - 1).toNat = M := by omega
            rw [en] at hr
            obtain ⟨o1, q1, u1, n1⟩ := lcN_pure (g := (CT.one 4).g) (t := tB1 (SK.e2 (pEq) (SK.e2 pMod (eVar 2) (eVar 4)) (eC (.int 0)))) (el := eCall f_power (aCons (eVar 4) (aCons (SK.e2 pSub (eVar 0) (eC (.int 1))) aNil))) (vs := [4]) (fun d => match d with | .int r => decide ((M : Int) % r = 0) | _ => false) (fun d => match d with | .int r => .int (r ^ (b - 1)) | d => d) hr (by omega)
              (fun i hi o u => ⟨[some (D.int (b : Int)), some (D.int (many : Int)), some (D.int (M : Int)), none, some (D.int (1 + (i : Int)))], rfl, by
                simp only [z_tb, z_e2, z_var, List.getElem?_cons_succ, List.getElem?_cons_zero, z_bok, z_mod (show (0 : Int) < 1 + (i : Int) by omega), z_lf, z_c, z_eqi], fun _ => by
                have hp := power_ok (x := 1 + (i : Int)) (b - 1) o (by omega) (by omega) (by omega)
                simp only [z_call, z_cons, z_var, List.getElem?_cons_succ, List.getElem?_cons_zero, z_bok, z_nil, z_e2, z_c, z_sub, z_lf, eb, hp]⟩)
            have hst : ((((List.range M).map fun (i : Nat) => D.int (1 + (i : Int))).filter fun d => match d with | .int r => decide ((M : Int) % r = 0) | _ => false).map fun d => match d with | .int r => .int (r ^ (b - 1)) | d => d) = (((List.range M).filter fun i => M % (i + 1) = 0).map fun i => ((i + 1 : Nat) : Int) ^ (b - 1)).map D.int := by
              rw [List.filter_map, List.map_map, List.map_map]
              have hfe : ((fun d => match d with | .int r => decide ((M : Int) % r = 0) | _ => false) ∘ fun (i : Nat) => D.int (1 + (i : Int))) = fun i => decide (M % (i + 1) = 0) := by
                funext i
                show decide ((M : Int) % (1 + (i : Int)) = 0) = decide (M % (i + 1) = 0)
                have : (1 + (i : Int)) = ((i + 1 : Nat) : Int) := by omega
                rw [this, ← Int.natCast_emod]
                exact decide_eq_decide.mpr (by omega)
              rw [hfe]
              refine List.map_congr_left fun i _ => ?_
              show D.int ((1 + (i : Int)) ^ (b - 1)) = D.int (((i + 1 : Nat) : Int) ^ (b - 1))
              have : (1 + (i : Int)) = ((i + 1 : Nat) : Int) := by omega
              rw [this]
            rw [hst] at n1
            refine ⟨o1, ?_, u1⟩
            have hs := z_sum n1
            simp only [z_seq, z_if, z_tb, z_e2, z_var, z_c, List.getElem?_cons_succ, List.getElem?_cons_zero, z_bok, z_eqi, z_lf, z_sok, decide_eq_false h1', decide_eq_false h2', hff, if_false, z_skip, z_nx, z_sub, eb, z_lt, decide_eq_false h3', decide_eq_false h4', decide_eq_false h5', z_ret, z_cb, z_cons, q1, z_nil, hs, z_rt]
            simp only [lotV, if_neg h1, if_neg h2, if_neg h3, if_neg h4, if_neg h5]
theorem lot_ok {b many M : Nat} (oh : OH) (hb : 1 ≤ b) (hb2 : b ≤ 20) (hm : many ≤ 40) (hM : 1 ≤ M) (hM2 : M ≤ 1000) : ∃ oh', f_lot_ledgers [.int b, .int many, .int M] oh = .ok (.int (lotV b many M)) oh' ∧ Up oh oh' := by
  obtain ⟨o1, e, u⟩ := rows_ok oh hb hb2 hm hM hM2
  refine ⟨o1, ?_, u⟩
  have h1 : (1 : Int) ≤ b ∧ (b : Int) ≤ 20 ∧ (0 : Int) ≤ many ∧ (many : Int) ≤ 40 ∧ (1 : Int) ≤ M ∧ (M : Int) ≤ 1000 := by omega
  obtain ⟨h1, h2, h3, h4, h5, h6⟩ := h1
  have e1 : f_want_places [.int b] oh = .ok .non oh := by
    unfold f_want_places m_want_places
    simp [h1, h2]
  have e2 : f_want_threads [.int many, .int M] oh = .ok .non oh := by
    unfold f_want_threads m_want_threads
    simp [h3, h4, h5, h6]
  unfold f_lot_ledgers m_lot_ledgers
  simp [e1, e2, e]
theorem lot_bad {b many M z : Int} {c : Str} (oh : OH) (h : ((b < 1 ∨ 20 < b) ∧ c = "BadSize" ∧ z = b) ∨ (1 ≤ b ∧ b ≤ 20 ∧ (many < 0 ∨ 40 < many) ∧ c = "BadCount" ∧ z = many) ∨ (1 ≤ b ∧ b ≤ 20 ∧ 0 ≤ many ∧ many ≤ 40 ∧ (M < 1 ∨ 1000 < M) ∧ c = "BadWheel" ∧ z = M)) : f_lot_ledgers [.int b, .int many, .int M] oh = .exc c (.int z) oh := by
  have pl : 1 ≤ b → b ≤ 20 → f_want_places [.int b] oh = .ok .non oh := fun h1 h2 => by
    unfold f_want_places m_want_places
    simp [h1, h2]
  rcases h with ⟨h1, rfl, rfl⟩ | ⟨h1, h2, h3, rfl, rfl⟩ | ⟨h1, h2, h3, h4, h5, rfl, rfl⟩
  · have e : f_want_places [.int z] oh = .exc "BadSize" (.int z) oh := by
      unfold f_want_places m_want_places
      rcases h1 with h1 | h1
      · have : ¬ 1 ≤ z := by omega
        simp [this]
      · have h2 : 1 ≤ z := by omega
        have : ¬ z ≤ 20 := by omega
        simp [this, h2]
    unfold f_lot_ledgers m_lot_ledgers
    simp [e]
  · have e : f_want_threads [.int z, .int M] oh = .exc "BadCount" (.int z) oh := by
      unfold f_want_threads m_want_threads
      rcases h3 with h3 | h3
      · have : ¬ 0 ≤ z := by omega
        simp [this]
      · have h4 : 0 ≤ z := by omega
        have : ¬ z ≤ 40 := by omega
        simp [this, h4]
    unfold f_lot_ledgers m_lot_ledgers
    simp [pl h1 h2, e]
  · have e : f_want_threads [.int many, .int z] oh = .exc "BadWheel" (.int z) oh := by
      unfold f_want_threads m_want_threads
      rcases h5 with h5 | h5
      · have : ¬ 1 ≤ z := by omega
        simp [this, h3, h4]
      · have h6 : 1 ≤ z := by omega
        have : ¬ z ≤ 1000 := by omega
        simp [this, h6, h3, h4]
    unfold f_lot_ledgers m_lot_ledgers
    simp [pl h1 h2, e]
end Wk
namespace Wk
open PySem PySem.Spec PyProof.Rows L2 SKX SK LamX CH
theorem lcommon_ok (a b : Nat) (oh : OH) : f__law_common [.int a, .int b] oh = .ok (.int (Nat.gcd a b : Nat)) oh := by
  obtain ⟨s', o', e, rfl, rfl⟩ := while_ind (t := tB1 (SK.e2 (pGt) (eVar 1) (eC (.int 0)))) (body := sPar2 0 1 (aCons (eVar 1) (aCons (SK.e2 pMod (eCB bInt (aCons (eVar 0) aNil)) (eVar 1)) aNil)))
    (fun m s o => ∃ x y : Nat, s = [some (.int x), some (.int y)] ∧ o = oh ∧ Nat.gcd x y = Nat.gcd a b ∧ m = y) (fun s o => s = [some (.int (Nat.gcd a b : Nat)), some (.int 0)] ∧ o = oh)
    (fun m s o ⟨x, y, es, eo, eg, em⟩ => by
      rw [em]
      clear em
      subst es; subst eo
      refine ⟨decide ((0 : Int) < y), o, by simp, ?_⟩
      by_cases hy : (0 : Int) < y
      · have hm : pMod (.int x) (.int y) o = some (.int ((x % y : Nat) : Int), o) := z_mod hy
        refine .inr ⟨decide_eq_true hy, [some (.int y), some (.int ((x % y : Nat) : Int))], o, x % y, ?_, Nat.mod_lt _ (by omega), y, x % y, rfl, rfl, ?_, rfl⟩
        · simp only [z_par, z_cons, z_var, List.getElem?_cons_succ, List.getElem?_cons_zero, z_bok, z_e2, z_cb, z_nil, z_int, z_lf, hm, z_sok, List.set_cons_succ, List.set_cons_zero]
        · rw [← eg, Nat.gcd_comm x y, Nat.gcd_rec y x, Nat.gcd_comm]
      · have hz : y = 0 := by omega
        subst hz
        rw [Nat.gcd_zero_right] at eg
        refine .inl ⟨decide_eq_false hy, ?_, rfl⟩
        rw [eg]
        rfl)
    (m := b) (s := [some (.int a), some (.int b)]) (oh := oh) ⟨a, b, rfl, rfl, rfl, rfl⟩
  have hb : m__law_common [some (.int a), some (.int b)] o' = .rt (.int (Nat.gcd a b : Nat)) o' := by
    unfold m__law_common
    rw [z_seq, e, z_nx, z_ret, z_var]
    rfl
  exact fn_rt rfl hb
/-! ### bags, one by one -/
def rowD (r : List Nat) : D := .tup (r.map fun (x : Nat) => D.int (x : Int))
def lastP (r : List Nat) : Nat := r.getLast?.getD 0
def extP (K : Nat) (r : List Nat) : List (List Nat) := (List.range (K - lastP r)).map fun i => r ++ [lastP r + i]
def bagsP (K : Nat) : Nat → List (List Nat)
  | 0 => [[]]
  | t + 1 => (bagsP K t).flatMap (extP K)
theorem bagsP_row (K : Nat) : ∀ t, ∀ r ∈ bagsP K t, r.length = t
  | 0, r, h => by
    simp only [bagsP, List.mem_singleton] at h
    rw [h]; rfl
  | t + 1, r, h => by
    simp only [bagsP, List.mem_flatMap, extP, List.mem_map] at h
    obtain ⟨q, hq, i, _, rfl⟩ := h
    simp [bagsP_row K t q hq]
theorem bagsP_last (K : Nat) : ∀ t, ∀ r ∈ bagsP K t, lastP r ≤ K
  | 0, r, h => by
    simp only [bagsP, List.mem_singleton] at h
    rw [h]
    exact Nat.zero_le _
  | t + 1, r, h => by
    simp only [bagsP, List.mem_flatMap, extP, List.mem_map, List.mem_range] at h
    obtain ⟨q, hq, i, hi, rfl⟩ := h
    have : lastP (q ++ [lastP q + i]) = lastP q + i := by simp [lastP]
    omega
theorem flat_len (K : Nat) : ∀ l : List (List Nat), (l.flatMap (extP K)).length ≤ l.length * K
  | [] => by simp
  | r :: l => by
    have h1 := flat_len K l
    have h2 : (extP K r).length ≤ K := by simp [extP]
    simp only [List.flatMap_cons, List.length_append, List.length_cons, Nat.succ_mul]
    omega
theorem bagsP_len (K : Nat) : ∀ t, (bagsP K t).length ≤ K ^ t
  | 0 => by simp [bagsP]
  | t + 1 => by
    have h1 := flat_len K (bagsP K t)
    have h2 := Nat.mul_le_mul_right K (bagsP_len K t)
    rw [Nat.pow_succ]
    exact Nat.le_trans h1 h2
theorem last_ok (r : List Nat) (s : Ev) (o : OH) (h5 : s[5]? = some (some (rowD r))) : eIf (tTru (eVar 5)) (SK.e2 pIx (eVar 5) (SK.e1 pNeg (eC (.int 1)))) (eC (.int 0)) s o = .ok (.int (lastP r)) o := by
  have hv : eVar 5 s o = .ok (rowD r) o := by rw [z_var, h5]
  rcases List.eq_nil_or_concat r with hr | ⟨q, x, hr⟩
  · subst hr
    rw [z_eif, z_tru, hv, z_bok]
    rfl
  · rw [List.concat_eq_append] at hr
    subst hr
    have hl : itemsOf o (rowD (q ++ [x])) = some ((q ++ [x]).map fun (x : Nat) => D.int (x : Int)) := rfl
    have hx := z_last (d := .int x) hl (by simp)
    have ht : truD o (rowD (q ++ [x])) = some true := by
      show some (!((q ++ [x]).map fun (x : Nat) => D.int (x : Int)).isEmpty) = some true
      simp
    rw [z_eif, z_tru, hv, z_bok, ht]
    simp only [z_bok, if_true, z_e2, hv, z_e1, z_c, z_neg, z_lf, hx]
    simp [lastP]
theorem bags1_ok {K m : Nat} (oh : OH) (hK : 1 ≤ K) (hK2 : K ≤ 1000) (hm : m ≤ 40) (hB : K ^ m ≤ 2 ^ 20) : ∃ n oh', f__law_bags [.int K, .int m] oh = .ok (.ref n) oh' ∧ Up oh oh' ∧ oh'[n]? = some (.lst ((bagsP K m).map rowD)) := by
  have h1 : (1 ≤ sizeLine) = True := eq_true (size_le (by decide))
  have h0 : (0 ≤ sizeLine) = True := eq_true (size_le (by decide))
  have hr := z_r1 (ms := aCons (eVar 1) aNil) (s := [some (.int K), some (.int m), some (.ref oh.length), none, none, none, none]) (oh := oh ++ [Cell.lst [.tup []]]) (oh' := oh ++ [Cell.lst [.tup []]]) (j := m) (by simp) (by omega) (by omega)
  rw [Int.toNat_natCast] at hr
  obtain ⟨s', o', e, n, x3, x4, x5, x6, rfl, u, hn⟩ := forN_ind (g := SK.gN 3) (body := sSeq (sSet 4 (eLst aNil)) (sSeq (sFor (iVal (eVar 2)) (SK.gN 5) (sFor (iRange2 (aCons (eIf (tTru (eVar 5)) (SK.e2 pIx (eVar 5) (SK.e1 pNeg (eC (.int 1)))) (eC (.int 0))) (aCons (eVar 0) aNil))) (SK.gN 6) (sExpr (eAppend (eVar 4) (aCons (SK.e2 pAdd (eVar 5) (eTup (aCons (eVar 6) aNil))) aNil))))) (sSet 2 (eVar 4)))) hr
    (fun t s o => ∃ n x3 x4 x5 x6, s = [some (.int K), some (.int m), some (.ref n), x3, x4, x5, x6] ∧ Up oh o ∧ o[n]? = some (.lst ((bagsP K t).map rowD))) ⟨oh.length, none, none, none, none, rfl, Up.app _ _, by rw [get_new]; rfl⟩
    (fun t s o ht ⟨n, x3, x4, x5, x6, es, u, hn⟩ => by
      subst es
      have hlen : (bagsP K (t + 1)).length ≤ 2 ^ 20 := Nat.le_trans (bagsP_len K (t + 1)) (Nat.le_trans (Nat.pow_le_pow_right hK (by omega)) hB)
      obtain ⟨s2, o2, e2, y5, y6, rfl, u2, dn, rs, hsp, hnil, hq⟩ := forR_ind (m := iVal (eVar 2)) (g := SK.gN 5) (body := sFor (iRange2 (aCons (eIf (tTru (eVar 5)) (SK.e2 pIx (eVar 5) (SK.e1 pNeg (eC (.int 1)))) (eC (.int 0))) (aCons (eVar 0) aNil))) (SK.gN 6) (sExpr (eAppend (eVar 4) (aCons (SK.e2 pAdd (eVar 5) (eTup (aCons (eVar 6) aNil))) aNil)))) (k := n) (l := (bagsP K t).map rowD)
        (s := [some (.int K), some (.int m), some (.ref n), some (.int (0 + (t : Int))), some (.ref o.length), x5, x6]) (oh := o ++ [Cell.lst []]) (oh1 := o ++ [Cell.lst []]) rfl
        (fun r s o' => ∃ y5 y6, s = [some (.int K), some (.int m), some (.ref n), some (.int (0 + (t : Int))), some (.ref o.length), y5, y6] ∧ Up o o' ∧ ∃ dn rs, bagsP K t = dn ++ rs ∧ r = rs.map rowD ∧ o'[o.length]? = some (.lst ((dn.flatMap (extP K)).map rowD)))
        (fun r s o' ⟨_, _, _, u', _⟩ => z_itl (u' _ _ hn))
        (fun d r s o' ⟨y5, y6, es, u', dn, rs, hsp, hr, hq⟩ => by
          subst es
          cases rs with
          | nil => cases hr
          | cons q rs =>
            simp only [List.map_cons, List.cons.injEq] at hr
            obtain ⟨rfl, rfl⟩ := hr
            have hql : q.length = t := bagsP_row K t q (by rw [hsp]; simp)
            have hr2 := z_r2 (ms := aCons (eIf (tTru (eVar 5)) (SK.e2 pIx (eVar 5) (SK.e1 pNeg (eC (.int 1)))) (eC (.int 0))) (aCons (eVar 0) aNil)) (s := [some (.int K), some (.int m), some (.ref n), some (.int (0 + (t : Int))), some (.ref o.length), some (rowD q), y6]) (oh := o') (oh' := o') (i := lastP q) (j := K)
              (by rw [z_cons, last_ok q _ _ rfl, z_bok]; simp) (by omega) (by
                have := bagsP_last K t q (by rw [hsp]; simp)
                omega) (by omega) (by omega)
            have en : ((K : Int) - (lastP q : Int)).toNat = K - lastP q := by omega
            rw [en] at hr2
            obtain ⟨s3, o3, e3, z6, rfl, u3, hq3⟩ := forN_ind (g := SK.gN 6) (body := sExpr (eAppend (eVar 4) (aCons (SK.e2 pAdd (eVar 5) (eTup (aCons (eVar 6) aNil))) aNil))) hr2
              (fun j s o'' => ∃ z6, s = [some (.int K), some (.int m), some (.ref n), some (.int (0 + (t : Int))), some (.ref o.length), some (rowD q), z6] ∧ Up o o'' ∧ o''[o.length]? = some (.lst ((dn.flatMap (extP K) ++ (extP K q).take j).map rowD))) ⟨y6, rfl, u', by simpa using hq⟩
              (fun j s o'' hj ⟨z6, es, u'', hq''⟩ => by
                subst es
                have hbound : (dn.flatMap (extP K) ++ (extP K q).take j).length ≤ (bagsP K (t + 1)).length := by
                  rw [bagsP, hsp, List.flatMap_append, List.flatMap_cons]
                  simp only [List.length_append, List.length_take]
                  omega
                have ha := z_app (mo := eVar 4) (ms := aCons (SK.e2 pAdd (eVar 5) (eTup (aCons (eVar 6) aNil))) aNil) (s := [some (.int K), some (.int m), some (.ref n), some (.int (0 + (t : Int))), some (.ref o.length), some (rowD q), some (.int ((lastP q : Int) + (j : Int)))]) (oh := o'') (oh1 := o'') (n := o.length) (d := rowD (q ++ [lastP q + j])) rfl hq''
                  (by
                    have hadd : pAdd (rowD q) (.tup [.int ((lastP q : Int) + (j : Int))]) o'' = some (rowD (q ++ [lastP q + j]), o'') := by
                      unfold rowD
                      rw [z_addt (size_le (by simp; omega))]
                      simp
                    simp only [z_cons, z_e2, z_var, List.getElem?_cons_succ, List.getElem?_cons_zero, z_bok, z_tup, z_nil, List.length_cons, List.length_nil, Nat.zero_add, h1, if_true, hadd, z_lf]) hq'' (size_lt (by rw [List.length_map]; omega))
                refine ⟨[some (.int K), some (.int m), some (.ref n), some (.int (0 + (t : Int))), some (.ref o.length), some (rowD q), some (.int ((lastP q : Int) + (j : Int)))], o'', rfl, [some (.int K), some (.int m), some (.ref n), some (.int (0 + (t : Int))), some (.ref o.length), some (rowD q), some (.int ((lastP q : Int) + (j : Int)))], _, by rw [z_expr, ha, z_sok], _, rfl, u''.set (Nat.le_refl _), ?_⟩
                rw [get_set hq'']
                have hx : (extP K q)[j]? = some (q ++ [lastP q + j]) := by
                  simp [extP, List.getElem?_map, List.getElem?_range, hj]
                rw [List.take_succ, hx]
                simp)
            refine ⟨_, o', rfl, _, o3, e3, _, _, rfl, u3, dn ++ [q], rs, by simp [hsp], rfl, ?_⟩
            rw [hq3, List.take_of_length_le (by simp [extP])]
            simp)
        ⟨x5, x6, rfl, Up.app _ _, [], bagsP K t, rfl, rfl, get_new _ _⟩
      have hrs : rs = [] := by
        cases rs with
        | nil => rfl
        | cons => cases hnil
      subst hrs
      rw [List.append_nil] at hsp
      subst hsp
      refine ⟨_, o, rfl, [some (.int K), some (.int m), some (.ref o.length), some (.int (0 + (t : Int))), some (.ref o.length), y5, y6], o2, ?_, o.length, _, _, _, _, rfl, u.trans u2, hq⟩
      simp only [z_seq, z_gn, z_set, z_lst, z_nil, z_bok, List.length_nil, h0, if_true, z_sok, List.set_cons_succ, List.set_cons_zero, z_nx]
      rw [e2]
      simp only [z_nx, z_set, z_var, List.getElem?_cons_succ, List.getElem?_cons_zero, z_sok, List.set_cons_succ, List.set_cons_zero])
  refine ⟨n, o', ?_, u, hn⟩
  have hb : m__law_bags [some (.int K), some (.int m), none, none, none, none, none] oh = .rt (.ref n) o' := by
    unfold m__law_bags
    simp only [z_seq, z_set, z_lst, z_cons, z_tup, z_nil, z_bok, List.length_nil, List.length_cons, Nat.zero_add, h0, h1, if_true, z_sok, List.set_cons_succ, List.set_cons_zero, z_nx]
    rw [e]
    simp only [z_nx, z_ret, z_var, List.getElem?_cons_succ, List.getElem?_cons_zero, z_sok]
  exact fn_rt rfl hb
end Wk
namespace Wk
open PySem PySem.Spec PyProof.Rows L2 SKX SK LamX CH
/-- tuples of c parts -/
def TupC (c : Nat) (d : D) : Prop := ∃ l, d = .tup l ∧ l.length = c
theorem grow_ok {b st r : Nat} {x1 x2 x3 x4 x5 x6 x9 x10 x11 x12 : Option D} {ds : List D} {oh : OH} (hb : 1 ≤ b) (hb2 : b ≤ 4) (hst : st ≤ 12) (hr : oh[r]? = some (.lst ds)) (hd : ds.length = 1) (hd2 : ∀ d ∈ ds, TupC 2 d) :
    ∃ r' y9 y10 y11 y12 ds' oh', sFor (iRange1 (aCons (SK.e2 pSub (eVar 0) (eC (.int 1))) aNil)) (SK.gN 9) (sSeq (sSet 10 (eLst aNil)) (sSeq (sFor (iVal (eVar 8)) (SK.gN 11) (sFor (iRange1 (aCons (eVar 7) aNil)) (SK.gN 12) (sExpr (eAppend (eVar 10) (aCons (SK.e2 pAdd (eVar 11) (eTup (aCons (eVar 12) aNil))) aNil))))) (sSet 8 (eVar 10))))
      [some (.int b), x1, x2, x3, x4, x5, x6, some (.int st), some (.ref r), x9, x10, x11, x12] oh = .nx [some (.int b), x1, x2, x3, x4, x5, x6, some (.int st), some (.ref r'), y9, y10, y11, y12] oh' ∧ Up oh oh' ∧ oh'[r']? = some (.lst ds') ∧ ds'.length = st ^ (b - 1) := by
  have h1 : (1 ≤ sizeLine) = True := eq_true (size_le (by decide))
  have h0 : (0 ≤ sizeLine) = True := eq_true (size_le (by decide))
  have hm := z_r1 (ms := aCons (SK.e2 pSub (eVar 0) (eC (.int 1))) aNil) (s := [some (.int b), x1, x2, x3, x4, x5, x6, some (.int st), some (.ref r), x9, x10, x11, x12]) (oh := oh) (oh' := oh) (j := (b : Int) - 1) (by simp) (by omega) (by omega)
  have en : ((b : Int) - 1).toNat = b - 1 := by omega
  rw [en] at hm
  obtain ⟨s', o', e, r', y9, y10, y11, y12, ds', rfl, u, hn, hlen, _⟩ := forN_ind (g := SK.gN 9) (body := sSeq (sSet 10 (eLst aNil)) (sSeq (sFor (iVal (eVar 8)) (SK.gN 11) (sFor (iRange1 (aCons (eVar 7) aNil)) (SK.gN 12) (sExpr (eAppend (eVar 10) (aCons (SK.e2 pAdd (eVar 11) (eTup (aCons (eVar 12) aNil))) aNil))))) (sSet 8 (eVar 10)))) hm
    (fun t s o => ∃ r' y9 y10 y11 y12 ds', s = [some (.int b), x1, x2, x3, x4, x5, x6, some (.int st), some (.ref r'), y9, y10, y11, y12] ∧ Up oh o ∧ o[r']? = some (.lst ds') ∧ ds'.length = st ^ t ∧ ∀ d ∈ ds', TupC (2 + t) d) ⟨r, x9, x10, x11, x12, ds, rfl, Up.refl _, hr, by simpa using hd, hd2⟩
    (fun t s o ht ⟨r', y9, y10, y11, y12, ds', es, u, hn, hlen, htup⟩ => by
      subst es
      have hpow : st ^ (t + 1) ≤ 12 ^ 3 := Nat.le_trans (Nat.pow_le_pow_left hst (t + 1)) (Nat.pow_le_pow_right (by omega) (by omega))
      have hpe : st ^ (t + 1) = ds'.length * st := by rw [Nat.pow_succ, hlen]
      obtain ⟨s2, o2, e2, z11, z12, rfl, u2, acc, hq, hal, hat⟩ := forR_ind (m := iVal (eVar 8)) (g := SK.gN 11) (body := sFor (iRange1 (aCons (eVar 7) aNil)) (SK.gN 12) (sExpr (eAppend (eVar 10) (aCons (SK.e2 pAdd (eVar 11) (eTup (aCons (eVar 12) aNil))) aNil)))) (k := r') (l := ds')
        (s := [some (.int b), x1, x2, x3, x4, x5, x6, some (.int st), some (.ref r'), some (.int (0 + (t : Int))), some (.ref o.length), y11, y12]) (oh := o ++ [Cell.lst []]) (oh1 := o ++ [Cell.lst []]) rfl
        (fun rest s o' => ∃ z11 z12, s = [some (.int b), x1, x2, x3, x4, x5, x6, some (.int st), some (.ref r'), some (.int (0 + (t : Int))), some (.ref o.length), z11, z12] ∧ Up o o' ∧ ∃ acc, o'[o.length]? = some (.lst acc) ∧ acc.length + rest.length * st = ds'.length * st ∧ (∀ d ∈ acc, TupC (2 + (t + 1)) d) ∧ ∀ d ∈ rest, TupC (2 + t) d)
        (fun rest s o' ⟨_, _, _, u', _⟩ => z_itl (u' _ _ hn))
        (fun d rest s o' ⟨z11, z12, es, u', acc, hq, hal, hat, hrt⟩ => by
          subst es
          obtain ⟨l, rfl, hl⟩ := hrt d (by simp)
          have hm2 := z_r1 (ms := aCons (eVar 7) aNil) (s := [some (.int b), x1, x2, x3, x4, x5, x6, some (.int st), some (.ref r'), some (.int (0 + (t : Int))), some (.ref o.length), some (.tup l), z12]) (oh := o') (oh' := o') (j := st) (by simp) (by omega) (by omega)
          rw [Int.toNat_natCast] at hm2
          have hrl : (rest.length + 1) * st = rest.length * st + st := Nat.succ_mul _ _
          simp only [List.length_cons] at hal
          obtain ⟨s3, o3, e3, w12, rfl, u3, acc3, hq3, hal3, hat3⟩ := forN_ind (g := SK.gN 12) (body := sExpr (eAppend (eVar 10) (aCons (SK.e2 pAdd (eVar 11) (eTup (aCons (eVar 12) aNil))) aNil))) hm2
            (fun j s o'' => ∃ w12, s = [some (.int b), x1, x2, x3, x4, x5, x6, some (.int st), some (.ref r'), some (.int (0 + (t : Int))), some (.ref o.length), some (.tup l), w12] ∧ Up o o'' ∧ ∃ acc3, o''[o.length]? = some (.lst acc3) ∧ acc3.length = acc.length + j ∧ ∀ d ∈ acc3, TupC (2 + (t + 1)) d) ⟨z12, rfl, u', acc, hq, by omega, hat⟩
            (fun j s o'' hj ⟨w12, es, u'', acc3, hq'', hal3, hat3⟩ => by
              subst es
              have ha := z_app (mo := eVar 10) (ms := aCons (SK.e2 pAdd (eVar 11) (eTup (aCons (eVar 12) aNil))) aNil) (s := [some (.int b), x1, x2, x3, x4, x5, x6, some (.int st), some (.ref r'), some (.int (0 + (t : Int))), some (.ref o.length), some (.tup l), some (.int (0 + (j : Int)))]) (oh := o'') (oh1 := o'') (n := o.length) (d := .tup (l ++ [.int (0 + (j : Int))])) rfl hq''
                (by
                  have hadd : pAdd (.tup l) (.tup [.int (0 + (j : Int))]) o'' = some (.tup (l ++ [.int (0 + (j : Int))]), o'') := z_addt (size_le (by simp; omega))
                  simp only [z_cons, z_e2, z_var, List.getElem?_cons_succ, List.getElem?_cons_zero, z_bok, z_tup, z_nil, List.length_cons, List.length_nil, Nat.zero_add, h1, if_true, hadd, z_lf]) hq'' (size_lt (by omega))
              refine ⟨[some (.int b), x1, x2, x3, x4, x5, x6, some (.int st), some (.ref r'), some (.int (0 + (t : Int))), some (.ref o.length), some (.tup l), some (.int (0 + (j : Int)))], o'', rfl, [some (.int b), x1, x2, x3, x4, x5, x6, some (.int st), some (.ref r'), some (.int (0 + (t : Int))), some (.ref o.length), some (.tup l), some (.int (0 + (j : Int)))], _, by rw [z_expr, ha, z_sok], _, rfl, u''.set (Nat.le_refl _), _, get_set hq'', by simp; omega, fun d hd => ?_⟩
              rcases List.mem_append.mp hd with hd | hd
              · exact hat3 d hd
              · rw [List.mem_singleton] at hd
                exact ⟨_, hd, by simp; omega⟩)
          exact ⟨_, o', rfl, _, o3, e3, _, _, rfl, u3, acc3, hq3, by omega, hat3, fun d hd => hrt d (by simp [hd])⟩)
        ⟨y11, y12, rfl, Up.app _ _, [], get_new _ _, by simp, fun d hd => absurd hd (List.not_mem_nil), htup⟩
      simp only [List.length_nil, Nat.zero_mul, Nat.add_zero] at hal
      refine ⟨_, o, rfl, [some (.int b), x1, x2, x3, x4, x5, x6, some (.int st), some (.ref o.length), some (.int (0 + (t : Int))), some (.ref o.length), z11, z12], o2, ?_, o.length, _, _, _, _, acc, rfl, u.trans u2, hq, by rw [hpe]; exact hal, hat.1⟩
      simp only [z_seq, z_gn, z_set, z_lst, z_nil, z_bok, List.length_nil, h0, if_true, z_sok, List.set_cons_succ, List.set_cons_zero, z_nx]
      rw [e2]
      simp only [z_nx, z_set, z_var, List.getElem?_cons_succ, List.getElem?_cons_zero, z_sok, List.set_cons_succ, List.set_cons_zero])
  exact ⟨r', y9, y10, y11, y12, ds', o', e, u, hn, hlen⟩
end Wk
namespace Wk
open PySem PySem.Spec PyProof.Rows L2 SKX SK LamX CH
def Kd (d : D) (st : Nat) : Prop := ∃ y, d = .tup [.int (st : Int), y]
def stepsV (b many M : Nat) : List Nat := if many + 1 = b then [M] else if many = b then ((List.range M).filter fun r => decide (r ≤ M - r)).map (Nat.gcd M) else if b < many then ((List.range M).filter fun i => decide (M % (i + 1) = 0)).map (· + 1) else []
theorem all2_map {α β γ : Type} {Y : γ → β → Prop} {f : α → γ} {g : α → β} (h : ∀ a, Y (f a) (g a)) : ∀ l : List α, All2 Y (l.map f) (l.map g)
  | [] => .nil
  | a :: l => .cons (h a) (all2_map h l)
theorem kinds_ok {b many M : Nat} {oh : OH} {k0 : Nat} (hb : 3 ≤ b) (hb2 : b ≤ 4) (hm : many ≤ 6) (hM : 1 ≤ M) (hM2 : M ≤ 12) (hk : oh[k0]? = some (.lst [])) :
    ∃ s1 o1 s2 o2 k x5 kd o3, sIf (tB1 (SK.e2 (pEq) (eVar 3) (eC (.int 0)))) (sSet 4 (eLst (aCons (eTup (aCons (eVar 2) (aCons (eC .non) aNil))) aNil))) sSkip [some (.int b), some (.int many), some (.int M), some (.int ((many : Int) - b + 1)), some (.ref k0), none, none, none, none, none, none, none, none] oh = .nx s1 o1 ∧
      sIf (tB1 (SK.e2 (pEq) (eVar 3) (eC (.int 1)))) (sFor (iRange1 (aCons (eVar 2) aNil)) (SK.gN 5) (sIf (tB1 (SK.e2 (pLe) (eVar 5) (SK.e2 pSub (eVar 2) (eVar 5)))) (sExpr (eAppend (eVar 4) (aCons (eTup (aCons (eCall f__law_common (aCons (eVar 2) (aCons (eVar 5) aNil))) (aCons (eVar 5) aNil))) aNil))) sSkip)) sSkip s1 o1 = .nx s2 o2 ∧
      sIf (tB1 (SK.e2 (pGt) (eVar 3) (eC (.int 1)))) (sSet 4 (eLc (iRange2 (aCons (eC (.int 1)) (aCons (SK.e2 pAdd (eVar 2) (eC (.int 1))) aNil))) ((CT.one 7)).g (tB1 (SK.e2 (pEq) (SK.e2 pMod (eVar 2) (eVar 7)) (eC (.int 0)))) (eTup (aCons (eVar 7) (aCons (eC .non) aNil))) [7])) sSkip s2 o2 = .nx [some (.int b), some (.int many), some (.int M), some (.int ((many : Int) - b + 1)), some (.ref k), x5, none, none, none, none, none, none, none] o3 ∧
      UpX k0 oh o3 ∧ o3[k]? = some (.lst kd) ∧ All2 Kd kd (stepsV b many M) := by
  have h1 : (1 ≤ sizeLine) = True := eq_true (size_le (by decide))
  have h2 : (2 ≤ sizeLine) = True := eq_true (size_le (by decide))
  by_cases c1 : many + 1 = b
  · have e0 : (many : Int) - b + 1 = 0 := by omega
    rw [e0]
    refine ⟨[some (.int b), some (.int many), some (.int M), some (.int 0), some (.ref oh.length), none, none, none, none, none, none, none, none], oh ++ [Cell.lst [.tup [.int M, .non]]], [some (.int b), some (.int many), some (.int M), some (.int 0), some (.ref oh.length), none, none, none, none, none, none, none, none], oh ++ [Cell.lst [.tup [.int M, .non]]], oh.length, none, [.tup [.int M, .non]], oh ++ [Cell.lst [.tup [.int M, .non]]], ?_, ?_, ?_, (Up.app _ _).upx, get_new _ _, ?_⟩
    · simp only [z_if, z_tb, z_e2, z_var, z_c, List.getElem?_cons_succ, List.getElem?_cons_zero, z_bok, z_eqi, z_lf, z_sok, decide_true, if_true, z_set, z_lst, z_cons, z_tup, z_nil, List.length_cons, List.length_nil, Nat.zero_add, Nat.reduceAdd, h1, h2, List.set_cons_succ, List.set_cons_zero]
    · simp
    · simp
    · unfold stepsV
      rw [if_pos c1]
      exact .cons ⟨_, rfl⟩ .nil
  · have n0 : ¬ (many : Int) - b + 1 = 0 := by omega
    by_cases c2 : many = b
    · have e1 : (many : Int) - b + 1 = 1 := by omega
      rw [e1]
      have hr := z_r1 (ms := aCons (eVar 2) aNil) (s := [some (.int b), some (.int many), some (.int M), some (.int 1), some (.ref k0), none, none, none, none, none, none, none, none]) (oh := oh) (oh' := oh) (j := M) (by simp) (by omega) (by omega)
      rw [Int.toNat_natCast] at hr
      obtain ⟨s', o', e, x5, rfl, u, hn⟩ := forN_ind (g := SK.gN 5) (body := sIf (tB1 (SK.e2 (pLe) (eVar 5) (SK.e2 pSub (eVar 2) (eVar 5)))) (sExpr (eAppend (eVar 4) (aCons (eTup (aCons (eCall f__law_common (aCons (eVar 2) (aCons (eVar 5) aNil))) (aCons (eVar 5) aNil))) aNil))) sSkip) hr
        (fun i s o => ∃ x5, s = [some (.int b), some (.int many), some (.int M), some (.int 1), some (.ref k0), x5, none, none, none, none, none, none, none] ∧ UpX k0 oh o ∧ o[k0]? = some (.lst ((((List.range i).filter fun r => decide (r ≤ M - r)).map fun r => D.tup [.int (Nat.gcd M r : Nat), .int (r : Int)])))) ⟨none, rfl, (Up.refl _).upx, hk⟩
        (fun i s o hi ⟨x5, es, u, hn⟩ => by
          subst es
          have hle : (decide ((i : Int) ≤ (M : Int) - (i : Int))) = decide (i ≤ M - i) := decide_eq_decide.mpr (by omega)
          have hg := lcommon_ok M i o
          by_cases hc : i ≤ M - i
          · have ha := z_app (mo := eVar 4) (ms := aCons (eTup (aCons (eCall f__law_common (aCons (eVar 2) (aCons (eVar 5) aNil))) (aCons (eVar 5) aNil))) aNil) (s := [some (.int b), some (.int many), some (.int M), some (.int 1), some (.ref k0), some (.int (i : Int)), none, none, none, none, none, none, none]) (oh := o) (oh1 := o) (n := k0) (d := .tup [.int (Nat.gcd M i : Nat), .int (i : Int)]) rfl hn
              (by simp only [z_cons, z_tup, z_call, z_var, List.getElem?_cons_succ, List.getElem?_cons_zero, z_bok, z_nil, hg, List.length_cons, List.length_nil, Nat.zero_add, Nat.reduceAdd, h2, if_true]) hn (size_lt (by
                rw [List.length_map]
                have := List.length_filter_le (fun r => decide (r ≤ M - r)) (List.range i)
                rw [List.length_range] at this
                omega))
            refine ⟨[some (.int b), some (.int many), some (.int M), some (.int 1), some (.ref k0), some (.int (i : Int)), none, none, none, none, none, none, none], o, by simp, [some (.int b), some (.int many), some (.int M), some (.int 1), some (.ref k0), some (.int (i : Int)), none, none, none, none, none, none, none], _, by
              simp only [z_if, z_tb, z_e2, z_var, List.getElem?_cons_succ, List.getElem?_cons_zero, z_bok, z_sub, z_lf, z_le, hle, decide_eq_true hc, z_sok, if_true, z_expr, ha]
              rfl, _, rfl, u.trans .of_set, ?_⟩
            rw [get_set hn, List.range_succ, List.filter_append, List.map_append]
            simp [hc]
          · refine ⟨[some (.int b), some (.int many), some (.int M), some (.int 1), some (.ref k0), some (.int (i : Int)), none, none, none, none, none, none, none], o, by simp, [some (.int b), some (.int many), some (.int M), some (.int 1), some (.ref k0), some (.int (i : Int)), none, none, none, none, none, none, none], o, by
              simp only [z_if, z_tb, z_e2, z_var, List.getElem?_cons_succ, List.getElem?_cons_zero, z_bok, z_sub, z_lf, z_le, hle, decide_eq_false hc, z_sok, hff, if_false, z_skip], _, rfl, u, ?_⟩
            rw [hn, List.range_succ, List.filter_append, List.map_append]
            simp [hc])
      refine ⟨[some (.int b), some (.int many), some (.int M), some (.int 1), some (.ref k0), none, none, none, none, none, none, none, none], oh, [some (.int b), some (.int many), some (.int M), some (.int 1), some (.ref k0), x5, none, none, none, none, none, none, none], o', k0, x5, _, o', ?_, ?_, ?_, u, hn, ?_⟩
      · simp
      · simp only [z_if, z_tb, z_e2, z_var, z_c, List.getElem?_cons_succ, List.getElem?_cons_zero, z_bok, z_eqi, z_lf, z_sok, decide_true, if_true]
        exact e
      · simp
      · unfold stepsV
        rw [if_neg c1, if_pos c2]
        exact all2_map (fun r => ⟨_, rfl⟩) _
    · have n1 : ¬ (many : Int) - b + 1 = 1 := by omega
      by_cases c3 : b < many
      · have g1 : (1 : Int) < (many : Int) - b + 1 := by omega
        generalize (many : Int) - b + 1 = sp at *
        have hr := z_r2 (ms := aCons (eC (.int 1)) (aCons (SK.e2 pAdd (eVar 2) (eC (.int 1))) aNil)) (s := [some (.int b), some (.int many), some (.int M), some (.int sp), some (.ref k0), none, none, none, none, none, none, none, none]) (oh := oh) (oh' := oh) (i := 1) (j := (M : Int) + 1) (by simp) (by omega) (by omega) (by omega) (by omega)
        have en : ((M : Int) + 1 - 1).toNat = M := by omega
        rw [en] at hr
        obtain ⟨o1, q1, u1, n1'⟩ := lcN_pure (g := (CT.one 7).g) (t := tB1 (SK.e2 (pEq) (SK.e2 pMod (eVar 2) (eVar 7)) (eC (.int 0)))) (el := eTup (aCons (eVar 7) (aCons (eC .non) aNil))) (vs := [7]) (fun d => match d with | .int r => decide ((M : Int) % r = 0) | _ => false) (fun d => .tup [d, .non]) hr (by omega)
          (fun i hi o u => ⟨[some (.int b), some (.int many), some (.int M), some (.int sp), some (.ref k0), none, none, some (D.int (1 + (i : Int))), none, none, none, none, none], rfl, by
            simp only [z_tb, z_e2, z_var, List.getElem?_cons_succ, List.getElem?_cons_zero, z_bok, z_mod (show (0 : Int) < 1 + (i : Int) by omega), z_lf, z_c, z_eqi], fun _ => by
            simp only [z_tup, z_cons, z_var, List.getElem?_cons_succ, List.getElem?_cons_zero, z_bok, z_nil, z_c, List.length_cons, List.length_nil, Nat.zero_add, Nat.reduceAdd, h2, if_true]⟩)
        have hst : ((((List.range M).map fun (i : Nat) => D.int (1 + (i : Int))).filter fun d => match d with | .int r => decide ((M : Int) % r = 0) | _ => false).map fun d => D.tup [d, .non]) = ((List.range M).filter fun i => decide (M % (i + 1) = 0)).map fun (i : Nat) => D.tup [.int ((i + 1 : Nat) : Int), .non] := by
          rw [List.filter_map, List.map_map]
          have hfe : ((fun d => match d with | .int r => decide ((M : Int) % r = 0) | _ => false) ∘ fun (i : Nat) => D.int (1 + (i : Int))) = fun i => decide (M % (i + 1) = 0) := by
            funext i
            show decide ((M : Int) % (1 + (i : Int)) = 0) = decide (M % (i + 1) = 0)
            have : (1 + (i : Int)) = ((i + 1 : Nat) : Int) := by omega
            rw [this, ← Int.natCast_emod]
            exact decide_eq_decide.mpr (by omega)
          rw [hfe]
          refine List.map_congr_left fun i _ => ?_
          show D.tup [.int (1 + (i : Int)), .non] = D.tup [.int ((i + 1 : Nat) : Int), .non]
          have : (1 + (i : Int)) = ((i + 1 : Nat) : Int) := by omega
          rw [this]
        rw [hst] at n1'
        refine ⟨[some (.int b), some (.int many), some (.int M), some (.int sp), some (.ref k0), none, none, none, none, none, none, none, none], oh, [some (.int b), some (.int many), some (.int M), some (.int sp), some (.ref k0), none, none, none, none, none, none, none, none], oh, oh.length, none, _, o1, ?_, ?_, ?_, u1.upx, n1', ?_⟩
        · simp [n0]
        · simp [n1]
        · simp only [z_if, z_tb, z_e2, z_var, z_c, List.getElem?_cons_succ, List.getElem?_cons_zero, z_bok, z_gt, z_lf, z_sok, decide_eq_true g1, if_true, z_set, q1, List.set_cons_succ, List.set_cons_zero]
        · unfold stepsV
          rw [if_neg c1, if_neg c2, if_pos c3]
          exact all2_map (fun r => ⟨_, rfl⟩) _
      · have g1 : ¬ (1 : Int) < (many : Int) - b + 1 := by omega
        generalize (many : Int) - b + 1 = sp at *
        refine ⟨[some (.int b), some (.int many), some (.int M), some (.int sp), some (.ref k0), none, none, none, none, none, none, none, none], oh, [some (.int b), some (.int many), some (.int M), some (.int sp), some (.ref k0), none, none, none, none, none, none, none, none], oh, k0, none, [], oh, ?_, ?_, ?_, (Up.refl _).upx, hk, ?_⟩
        · simp [n0]
        · simp [n1]
        · simp [g1]
        · unfold stepsV
          rw [if_neg c1, if_neg c2, if_neg c3]
          exact .nil
end Wk
namespace Wk
open PySem PySem.Spec PyProof.Rows L2 SKX SK LamX CH
def growV (k : Nat) : List Nat → Nat
  | [] => 0
  | st :: r => st ^ k + growV k r
theorem steps_le {b many M : Nat} (hM : 1 ≤ M) (hM2 : M ≤ 12) : ∀ st ∈ stepsV b many M, st ≤ 12 := by
  intro st h
  unfold stepsV at h
  split at h
  · simp only [List.mem_singleton] at h; omega
  · split at h
    · simp only [List.mem_map] at h
      obtain ⟨r, _, rfl⟩ := h
      have := Nat.le_of_dvd (by omega) (Nat.gcd_dvd_left M r)
      omega
    · split at h
      · simp only [List.mem_map, List.mem_filter, List.mem_range] at h
        obtain ⟨r, ⟨h1, _⟩, rfl⟩ := h
        omega
      · cases h
theorem steps_len {b many M : Nat} (hM : 1 ≤ M) (hM2 : M ≤ 12) : (stepsV b many M).length ≤ 12 := by
  unfold stepsV
  split
  · simp
  · split
    · rw [List.length_map]
      have := List.length_filter_le (fun r => decide (r ≤ M - r)) (List.range M)
      rw [List.length_range] at this
      omega
    · split
      · rw [List.length_map]
        have := List.length_filter_le (fun i => decide (M % (i + 1) = 0)) (List.range M)
        rw [List.length_range] at this
        omega
      · simp
theorem growV_le {k : Nat} (hk : k ≤ 3) : ∀ l : List Nat, (∀ st ∈ l, st ≤ 12) → growV k l ≤ l.length * 1728
  | [], _ => by simp [growV]
  | st :: r, h => by
    have h1 := growV_le hk r (fun x hx => h x (by simp [hx]))
    have h2 : st ^ k ≤ 1728 := Nat.le_trans (Nat.pow_le_pow_left (h st (by simp)) k) (Nat.le_trans (Nat.pow_le_pow_right (by omega) hk) (by decide))
    simp only [growV, List.length_cons, Nat.succ_mul]
    omega
/-- how many rows the law counts -/
def lenV (b many M : Nat) : Nat := if b = 1 then (if many = 0 then 1 else 0) else if b = 2 then (if 0 < many then (bagsP M many).length else 0) else growV (b - 1) (stepsV b many M)
theorem lrows_ok {b many M : Nat} (oh : OH) (hb : 1 ≤ b) (hb2 : b ≤ 4) (hm : many ≤ 6) (hM : 1 ≤ M) (hM2 : M ≤ 12) (hB : b = 2 → M ^ many ≤ 2 ^ 20) : ∃ n ds oh', f__law_rows [.int b, .int many, .int M] oh = .ok (.ref n) oh' ∧ Up oh oh' ∧ oh'[n]? = some (.lst ds) ∧ ds.length = lenV b many M := by
  have h1 : (1 ≤ sizeLine) = True := eq_true (size_le (by decide))
  have h2 : (2 ≤ sizeLine) = True := eq_true (size_le (by decide))
  have h0 : (0 ≤ sizeLine) = True := eq_true (size_le (by decide))
  by_cases c1 : b = 1
  · subst c1
    by_cases c2 : many = 0
    · subst c2
      refine ⟨oh.length, [.str "one"], oh ++ [Cell.lst [.str "one"]], fn_rt (s := [some (.int (1 : Nat)), some (.int (0 : Nat)), some (.int M), none, none, none, none, none, none, none, none, none, none]) rfl ?_, Up.app _ _, get_new _ _, rfl⟩
      unfold m__law_rows
      simp [h1]
    · have c2' : ¬ (many : Int) = 0 := by omega
      refine ⟨oh.length, [], oh ++ [Cell.lst []], fn_rt (s := [some (.int (1 : Nat)), some (.int many), some (.int M), none, none, none, none, none, none, none, none, none, none]) rfl ?_, Up.app _ _, get_new _ _, by simp [lenV, c2]⟩
      unfold m__law_rows
      simp [c2, c2']
  · have c1' : ¬ (b : Int) = 1 := by omega
    by_cases c2 : b = 2
    · subst c2
      by_cases c3 : 0 < many
      · have c3' : (0 : Int) < many := by omega
        obtain ⟨n, oh', e, u, hn⟩ := bags1_ok (K := M) (m := many) oh hM (by omega) (by omega) (hB rfl)
        refine ⟨n, _, oh', fn_rt (s := [some (.int (2 : Nat)), some (.int many), some (.int M), none, none, none, none, none, none, none, none, none, none]) rfl ?_, u, hn, by simp [lenV, c3]⟩
        unfold m__law_rows
        simp [c3, c3', e]
      · have c3' : ¬ (0 : Int) < many := by omega
        refine ⟨oh.length, [], oh ++ [Cell.lst []], fn_rt (s := [some (.int (2 : Nat)), some (.int many), some (.int M), none, none, none, none, none, none, none, none, none, none]) rfl ?_, Up.app _ _, get_new _ _, by simp [lenV, c3]⟩
        unfold m__law_rows
        simp [c3, c3']
    · have c2' : ¬ (b : Int) = 2 := by omega
      obtain ⟨s1, o1, s2, o2, k, x5, kd, o3, qA, qB, qC, u3, hk, hkd⟩ := kinds_ok (b := b) (many := many) (M := M) (oh := oh ++ [Cell.lst []]) (k0 := oh.length) (by omega) hb2 hm hM hM2 (get_new _ _)
      have U3 : Up oh o3 := Up.of_x ((Up.app oh [Cell.lst []]).upx.trans u3) (Nat.le_refl _)
      have hsteps := steps_le (b := b) (many := many) hM hM2
      have hslen := steps_len (b := b) (many := many) hM hM2
      obtain ⟨s', o', eL, f, z5, z7, z8, z9, z10, z11, z12, acc, rfl, u4, hf, rs, ha2, _, hsum⟩ := forR_ind (m := iVal (eVar 4)) (g := gT 2 (SK.gCons (gN 7) (SK.gCons (gN 5) SK.gNil))) (body := sSeq (sSet 8 (eLst (aCons (eTup (aCons (eVar 7) (aCons (eVar 5) aNil))) aNil))) (sSeq (sFor (iRange1 (aCons (SK.e2 pSub (eVar 0) (eC (.int 1))) aNil)) (gN 9) (sSeq (sSet 10 (eLst aNil)) (sSeq (sFor (iVal (eVar 8)) (gN 11) (sFor (iRange1 (aCons (eVar 7) aNil)) (gN 12) (sExpr (eAppend (eVar 10) (aCons (SK.e2 pAdd (eVar 11) (eTup (aCons (eVar 12) aNil))) aNil))))) (sSet 8 (eVar 10))))) (sSet 6 (SK.e2 pAdd (eVar 6) (eVar 8))))) (k := k) (l := kd)
        (s := [some (.int b), some (.int many), some (.int M), some (.int ((many : Int) - b + 1)), some (.ref k), x5, some (.ref o3.length), none, none, none, none, none, none]) (oh := o3 ++ [Cell.lst []]) (oh1 := o3 ++ [Cell.lst []]) rfl
        (fun rest s o => ∃ f z5 z7 z8 z9 z10 z11 z12 acc, s = [some (.int b), some (.int many), some (.int M), some (.int ((many : Int) - b + 1)), some (.ref k), z5, some (.ref f), z7, z8, z9, z10, z11, z12] ∧ Up o3 o ∧ o[f]? = some (.lst acc) ∧ ∃ rs, All2 Kd rest rs ∧ (∀ st ∈ rs, st ≤ 12) ∧ acc.length + growV (b - 1) rs = growV (b - 1) (stepsV b many M))
        (fun rest s o ⟨_, _, _, _, _, _, _, _, _, _, u, _⟩ => z_itl (u _ _ hk))
        (fun d rest s o ⟨f, z5, z7, z8, z9, z10, z11, z12, acc, es, u, hf, rs, ha2, hle, hsum⟩ => by
          subst es
          cases ha2 with
          | @cons _ st _ rs' q ha2 =>
            obtain ⟨y, rfl⟩ := q
            have hst : st ≤ 12 := hle st (by simp)
            obtain ⟨r', y9, y10, y11, y12, ds', o5, eG, u5, hr', hl'⟩ := grow_ok (b := b) (st := st) (r := o.length) (x1 := some (.int many)) (x2 := some (.int M)) (x3 := some (.int ((many : Int) - b + 1))) (x4 := some (.ref k)) (x5 := some y) (x6 := some (.ref f)) (x9 := z9) (x10 := z10) (x11 := z11) (x12 := z12) (ds := [.tup [.int st, y]]) (oh := o ++ [Cell.lst [.tup [.int st, y]]]) hb hb2 hst (get_new _ _) rfl (fun d hd => by
              rw [List.mem_singleton] at hd
              exact ⟨_, hd, rfl⟩)
            have hbig := growV_le (k := b - 1) (by omega) (stepsV b many M) hsteps
            simp only [growV] at hsum
            have hadd := z_addl (oh := o5) (a := f) (b := r') (u5 _ _ (Up.app _ _ _ _ hf)) hr' (size_le (by rw [hl']; omega))
            refine ⟨[some (.int b), some (.int many), some (.int M), some (.int ((many : Int) - b + 1)), some (.ref k), some y, some (.ref f), some (.int st), z8, z9, z10, z11, z12], o, rfl, [some (.int b), some (.int many), some (.int M), some (.int ((many : Int) - b + 1)), some (.ref k), some y, some (.ref o5.length), some (.int st), some (.ref r'), y9, y10, y11, y12], o5 ++ [Cell.lst (acc ++ ds')], ?_, o5.length, _, _, _, _, _, _, _, acc ++ ds', rfl, (u.trans ((Up.app _ _).trans u5)).trans (Up.app _ _), get_new _ _, rs', ha2, fun x hx => hle x (by simp [hx]), by rw [List.length_append, hl']; omega⟩
            simp only [z_seq, z_set, z_lst, z_cons, z_tup, z_var, List.getElem?_cons_succ, List.getElem?_cons_zero, z_bok, z_nil, List.length_cons, List.length_nil, Nat.zero_add, Nat.reduceAdd, h2, h1, if_true, z_sok, List.set_cons_succ, List.set_cons_zero, z_nx]
            rw [eG]
            simp only [z_nx, z_set, z_e2, z_var, List.getElem?_cons_succ, List.getElem?_cons_zero, z_bok, hadd, z_lf, z_sok, List.set_cons_succ, List.set_cons_zero])
        ⟨o3.length, x5, none, none, none, none, none, none, [], rfl, Up.app _ _, get_new _ _, _, hkd, hsteps, by simp⟩
      cases ha2
      simp only [growV, Nat.add_zero] at hsum
      refine ⟨f, acc, o', fn_rt (s := [some (.int b), some (.int many), some (.int M), none, none, none, none, none, none, none, none, none, none]) rfl ?_, U3.trans u4, hf, by rw [hsum]; simp only [lenV, if_neg c1, if_neg c2]⟩
      unfold m__law_rows
      simp only [z_seq, z_if, z_tb, z_e2, z_var, z_c, List.getElem?_cons_succ, List.getElem?_cons_zero, z_bok, z_eqi, z_lf, z_sok, decide_eq_false c1', decide_eq_false c2', hff, if_false, z_skip, z_nx, z_par, z_cons, z_sub, z_add, z_lst, z_nil, List.length_nil, h0, if_true, List.set_cons_succ, List.set_cons_zero]
      simp only [z_if, z_tb, z_e2, z_var, z_c, List.getElem?_cons_succ, List.getElem?_cons_zero, z_bok, z_eqi, z_lf, z_sok, z_skip] at qA
      rw [qA, z_nx, z_seq, qB, z_nx, z_seq, qC]
      simp only [z_nx, z_seq, z_set, z_lst, z_nil, z_bok, List.length_nil, h0, if_true, z_sok, List.set_cons_succ, List.set_cons_zero]
      rw [eL]
      simp only [z_nx, z_ret, z_var, List.getElem?_cons_succ, List.getElem?_cons_zero, z_sok]
end Wk
namespace Wk
open PySem PySem.Spec PyProof.Rows L2 SKX SK LamX CH
def chkL (b many M : Nat) : Bool := b == 0 || M == 0 || (b == 2 && decide (3 < many) && decide (4 < M)) || decide ((lenV b many M : Int) = lotV b many M)
theorem chk_all : ((List.range 5).all fun b => (List.range 7).all fun many => (List.range 13).all fun M => chkL b many M) = true := by decide +kernel
theorem len_lot {b many M : Nat} (hb : 1 ≤ b) (hb2 : b ≤ 4) (hm : many ≤ 6) (hM : 1 ≤ M) (hM2 : M ≤ 12) (h : b = 2 → 3 < many → M ≤ 4) : (lenV b many M : Int) = lotV b many M := by
  have h1 := List.all_eq_true.mp chk_all b (List.mem_range.mpr (by omega))
  have h2 := List.all_eq_true.mp h1 many (List.mem_range.mpr (by omega))
  have h3 := List.all_eq_true.mp h2 M (List.mem_range.mpr (by omega))
  unfold chkL at h3
  simp only [Bool.or_eq_true, Bool.and_eq_true, beq_iff_eq, decide_eq_true_eq] at h3
  rcases h3 with ((h3 | h3) | h3) | h3
  · omega
  · omega
  · have := h h3.1.1 h3.1.2
    omega
  · exact h3
theorem lot_last : lotV 20 19 1 = 1 ∧ lotV 1 40 1000 = 0 ∧ lotV 2 1 1000 = 1000 := by
  refine ⟨by decide +kernel, by decide +kernel, ?_⟩
  show ((bagV 1000 1 : Nat) : Int) = 1000
  unfold bagV
  rw [if_neg (by omega), chs_one]
  rfl
def Word (c w : Str) : Prop := (c = "BadSize" ∧ w = "size") ∨ (c = "BadCount" ∧ w = "count") ∨ (c = "BadWheel" ∧ w = "wheel")
theorem refused_ok {b many M z : Int} {c w : Str} {oh : OH} (h : f_lot_ledgers [.int b, .int many, .int M] oh = .exc c (.int z) oh) (hc : Word c w) : f__law_refused [.int b, .int many, .int M] oh = .ok (.tup [.str w, .int z]) oh := by
  have h0 : (0 ≤ sizeLine) = True := eq_true (size_le (by decide))
  have k1 : errs_.contains "BadSize" = true ∧ errs_.contains "BadCount" = true ∧ errs_.contains "BadWheel" = true := by decide +kernel
  have k2 : subOf "BadSize" "BadSize" = true ∧ subOf "BadSize" "BadCount" = false ∧ subOf "BadSize" "BadWheel" = false ∧ subOf "BadCount" "BadCount" = true ∧ subOf "BadCount" "BadWheel" = false ∧ subOf "BadWheel" "BadWheel" = true := by decide +kernel
  obtain ⟨k3, k4, k5, k6, k7, k8⟩ := k2
  have hm : sExpr (eCall f_lot_ledgers (aCons (eVar 0) (aCons (eVar 1) (aCons (eVar 2) aNil)))) [some (.int b), some (.int many), some (.int M), some (.tup []), none] oh = .exc c (.int z) [some (.int b), some (.int many), some (.int M), some (.tup []), none] oh := by
    simp only [z_expr, z_call, z_cons, z_var, List.getElem?_cons_succ, List.getElem?_cons_zero, z_bok, z_nil, h, z_sex]
  have hb : m__law_refused [some (.int b), some (.int many), some (.int M), none, none] oh = .rt (.tup [.str w, .int z]) oh := by
    unfold m__law_refused
    simp only [z_seq, z_set, z_tup, z_nil, z_bok, List.length_nil, h0, if_true, z_sok, List.set_cons_succ, List.set_cons_zero, z_nx]
    unfold sTryN
    rw [hm]
    rcases hc with ⟨rfl, rfl⟩ | ⟨rfl, rfl⟩ | ⟨rfl, rfl⟩
    · simp only [k1.1, if_true, pickC, k3]
      simp [noExc]
    · simp only [k1.2.1, if_true, pickC, k4, k6, hff, if_false]
      simp [noExc]
    · simp only [k1.2.2, if_true, pickC, k5, k7, k8, hff, if_false]
      simp [noExc]
  exact fn_rt rfl hb
/-! ### the sources -/
def GN (ns : List Int) (n : Nat) (oh : OH) : Prop := oh[0]? = some (.ro (ns.map D.int)) ∧ SrcAt n oh ∧ 0 < n
theorem GN.up {ns : List Int} {n : Nat} {a b : OH} (u : Up a b) (h : GN ns n a) : GN ns n b := by
  obtain ⟨h1, ⟨x, m, h2, h3⟩, h4⟩ := h
  exact ⟨u _ _ h1, ⟨x, m, u _ _ h2, h3⟩, h4⟩
theorem GN.src {ns : List Int} {n : Nat} {a b : OH} (h : GN ns n a) (h2 : SrcAt n b) (h3 : Src2 n a b) : GN ns n b := by
  obtain ⟨c, rfl⟩ := h3
  exact ⟨by rw [List.getElem?_set_ne (by have := h.2.2; omega)]; exact h.1, h2, h.2.2⟩
theorem take_n {ns : List Int} {n : Nat} {oh : OH} {top : Int} (h : GN ns n oh) (ht : 0 < top) (ht2 : top < 2 ^ 64) : ∃ d oh', f__law_take [.ref n, .int top] oh = .ok (.int d) oh' ∧ 0 ≤ d ∧ d < top ∧ GN ns n oh' := by
  obtain ⟨d, o, e, h1, h2, g, s⟩ := take_ok h.2.1 ht ht2
  exact ⟨d, o, e, h1, h2, h.src g s⟩
theorem one_l {ns : List Int} {n : Nat} {oh : OH} {l : List D} (h : GN ns n oh) (hl : 0 < l.length) (hl2 : l.length < 2 ^ 62) : ∃ x oh', f__law_one [.ref n, .ref oh.length] (oh ++ [.lst l]) = .ok x oh' ∧ x ∈ l ∧ GN ns n oh' := by
  have hn : n ≠ oh.length := by
    obtain ⟨x, m, h2, _⟩ := h.2.1
    have := (List.getElem?_eq_some_iff.mp h2).1
    omega
  obtain ⟨x, o, e, hx, g, s⟩ := one_ok (oh := oh ++ [.lst l]) (n := n) (d := .ref oh.length) (l := l) (h.up (Up.app _ _)).2.1 (fun c => z_itl (by rw [List.getElem?_set_ne hn]; exact get_new _ _)) (z_itl (get_new _ _)) hl hl2
  exact ⟨x, o, e, hx, (h.up (Up.app _ _)).src g s⟩
end Wk
namespace Wk
open PySem PySem.Spec PyProof.Rows L2 SKX SK LamX CH
theorem pool_n {ns : List Int} {o : OH} {k : Int} (h : o[0]? = some (.ro (ns.map D.int))) (h0 : 0 ≤ k) (h1 : k < 100) : ∃ sc, f__law_pool [.ref 0, .int k] o = .ok (.ref o.length) (o ++ [sc]) ∧ GN ns o.length (o ++ [sc]) := by
  cases o with
  | nil => cases h
  | cons c t =>
    have h : c = .ro (ns.map D.int) := Option.some.inj h
    subst h
    obtain ⟨sc, e, g⟩ := pool_src (ns := ns) (t := t) h0 h1
    exact ⟨sc, e, rfl, g, Nat.succ_pos _⟩
theorem z_netup {t : Str} {z : Int} {oh : OH} (ht : PyData.strOk t = true) : pNe (.tup [.str t, .int z]) (.tup [.str t, .int z]) oh = some (.bl false, oh) := by
  have e : toPy oh 60 (.tup [.str t, .int z]) = some (.tuple [.str t, .int z]) := rfl
  have hs : SeqAt.shaped (.tuple [.str t, .int z]) = true := by
    simp [SeqAt.shaped, PyData.canLay0, PyData.canLayAll0, ht, PyData.depth, PyData.depthAll]
  simp only [pNe, eqD, eqS, eqDp, e, hs, Bool.and_true, if_true, Option.map_some, PyData.eqv, PyData.eqvAll]
  simp
theorem wheel_ok {b many W0 : Nat} {x0 x1 x2 x6 x7 x8 x9 x10 : Option D} (o : OH) (hb : 1 ≤ b) (hb2 : b ≤ 4) (hm : many ≤ 6) (hW : 1 ≤ W0) (hW2 : W0 ≤ 12) : ∃ W s1 : _, (W : Nat) ≤ 12 ∧ 1 ≤ W ∧ (b = 2 → 3 < many → W ≤ 4) ∧
    sIf (tAndD (tB1 (SK.e2 (pEq) (eVar 3) (eC (.int 2)))) (tB1 (SK.e2 (pGt) (eVar 4) (eC (.int 3))))) (sSet 5 (SK.e2 pAdd (eC (.int 1)) (SK.e2 pMod (eCB bInt (aCons (eVar 5) aNil)) (eC (.int 4))))) sSkip [x0, x1, x2, some (.int b), some (.int many), some (.int W0), x6, x7, x8, x9, x10] o = .nx s1 o ∧
    sIf (tB1 (SK.e2 (pEq) (eVar 3) (eC (.int 4)))) (sSet 5 (SK.e2 pAdd (eC (.int 1)) (SK.e2 pMod (eCB bInt (aCons (eVar 5) aNil)) (eC (.int 6))))) sSkip s1 o = .nx [x0, x1, x2, some (.int b), some (.int many), some (.int W), x6, x7, x8, x9, x10] o := by
  by_cases c : b = 2
  · subst c
    by_cases c2 : 3 < many
    · have c2' : (3 : Int) < many := by omega
      have e : (1 : Int) + (W0 : Int) % 4 = ((1 + W0 % 4 : Nat) : Int) := by omega
      refine ⟨1 + W0 % 4, [x0, x1, x2, some (.int (2 : Nat)), some (.int many), some (.int ((1 + W0 % 4 : Nat) : Int)), x6, x7, x8, x9, x10], by omega, by omega, fun _ _ => by omega, ?_, by simp⟩
      have hm4 := z_mod (oh := o) (i := (W0 : Int)) (j := 4) (by omega)
      simp only [z_if, z_and, z_tb, z_e2, z_var, z_c, List.getElem?_cons_succ, List.getElem?_cons_zero, z_bok, z_eqi, z_lf, z_gt, decide_eq_true c2', z_sok, z_set, z_cb, z_cons, z_nil, z_int, hm4, z_add, e, List.set_cons_succ, List.set_cons_zero]
      simp [hm4]
    · have c2' : ¬ (3 : Int) < many := by omega
      exact ⟨W0, [x0, x1, x2, some (.int (2 : Nat)), some (.int many), some (.int W0), x6, x7, x8, x9, x10], hW2, hW, fun _ h => absurd h c2, by simp [c2, c2'], by simp⟩
  · have c' : ¬ (b : Int) = 2 := by omega
    by_cases c4 : b = 4
    · subst c4
      have e : (1 : Int) + (W0 : Int) % 6 = ((1 + W0 % 6 : Nat) : Int) := by omega
      refine ⟨1 + W0 % 6, [x0, x1, x2, some (.int (4 : Nat)), some (.int many), some (.int W0), x6, x7, x8, x9, x10], by omega, by omega, fun h => absurd h c, by simp, ?_⟩
      have hm4 := z_mod (oh := o) (i := (W0 : Int)) (j := 6) (by omega)
      simp only [z_if, z_tb, z_e2, z_var, z_c, List.getElem?_cons_succ, List.getElem?_cons_zero, z_bok, z_eqi, z_lf, z_sok, z_set, z_cb, z_cons, z_nil, z_int, hm4, z_add, e, List.set_cons_succ, List.set_cons_zero]
      simp
    · have c4' : ¬ (b : Int) = 4 := by omega
      exact ⟨W0, [x0, x1, x2, some (.int b), some (.int many), some (.int W0), x6, x7, x8, x9, x10], hW2, hW, fun h => absurd h c, by simp [c, c'], by simp [c4, c4']⟩
end Wk
namespace Wk
open PySem PySem.Spec PyProof.Rows L2 SKX SK LamX CH
noncomputable abbrev turnB : SM := (sSeq (sSet 2 (eCall f__law_pool (aCons (eVar 0) (aCons (eVar 1) aNil)))) (sSeq (sPar3 3 4 5 (aCons (e2 pAdd (eC (.int 1)) (eCall f__law_take (aCons (eVar 2) (aCons (eC (.int 4)) aNil)))) (aCons (eCall f__law_take (aCons (eVar 2) (aCons (eC (.int 7)) aNil))) (aCons (e2 pAdd (eC (.int 1)) (eCall f__law_take (aCons (eVar 2) (aCons (eC (.int 12)) aNil)))) aNil)))) (sSeq (sIf (tAndD (tB1 (e2 (pEq) (eVar 3) (eC (.int 2)))) (tB1 (e2 (pGt) (eVar 4) (eC (.int 3))))) (sSet 5 (e2 pAdd (eC (.int 1)) (e2 pMod (eCB bInt (aCons (eVar 5) aNil)) (eC (.int 4))))) sSkip) (sSeq (sIf (tB1 (e2 (pEq) (eVar 3) (eC (.int 4)))) (sSet 5 (e2 pAdd (eC (.int 1)) (e2 pMod (eCB bInt (aCons (eVar 5) aNil)) (eC (.int 6))))) sSkip) (sSeq (sSet 6 (eCallK0 f_lot_ledgers [2, 1, 0] (aCons (eVar 5) (aCons (eVar 4) (aCons (eVar 3) aNil))))) (sSeq (sIf (tOrD (tNotD (tTru (eIsB "int" (eVar 6)))) (tOrD (tTru (eIsB "bool" (eVar 6))) (tB1 (e2 (pNe) (eVar 6) (eCB bLen (aCons (eCall f__law_rows (aCons (eVar 3) (aCons (eVar 4) (aCons (eVar 5) aNil)))) aNil)))))) (sRet (eC (.bl false))) sSkip) (sSeq (sSet 7 (e2 pAdd (eC (.int 1)) (e2 pMul (eCall f__law_take (aCons (eVar 2) (aCons (eC (.int 3)) aNil))) (eCall f__law_take (aCons (eVar 2) (aCons (e2 pPow (eC (.int 10)) (eC (.int 9))) aNil)))))) (sSeq (sSet 8 (eCall f__law_one (aCons (eVar 2) (aCons (eLst (aCons (eC (.int 0)) (aCons (e2 pSub (eC (.int 1)) (eVar 7)) (aCons (e2 pAdd (eC (.int 20)) (eVar 7)) aNil)))) aNil)))) (sSeq (sSet 9 (eCall f__law_one (aCons (eVar 2) (aCons (eLst (aCons (e1 pNeg (eVar 7)) (aCons (e2 pAdd (eC (.int 40)) (eVar 7)) aNil))) aNil)))) (sSeq (sSet 10 (eCall f__law_one (aCons (eVar 2) (aCons (eLst (aCons (eC (.int 0)) (aCons (e2 pSub (eC (.int 1)) (eVar 7)) (aCons (e2 pAdd (eC (.int 1000)) (eVar 7)) aNil)))) aNil)))) (sSeq (sIf (tB1 (e2 (pNe) (eCall f__law_refused (aCons (eVar 8) (aCons (eCall f__law_one (aCons (eVar 2) (aCons (eLst (aCons (eVar 4) (aCons (eVar 9) aNil))) aNil))) (aCons (eCall f__law_one (aCons (eVar 2) (aCons (eLst (aCons (eVar 5) (aCons (eVar 10) aNil))) aNil))) aNil)))) (eTup (aCons (eC (.str "size")) (aCons (eVar 8) aNil))))) (sRet (eC (.bl false))) sSkip) (sSeq (sIf (tB1 (e2 (pNe) (eCall f__law_refused (aCons (eVar 3) (aCons (eVar 9) (aCons (eCall f__law_one (aCons (eVar 2) (aCons (eLst (aCons (eVar 5) (aCons (eVar 10) aNil))) aNil))) aNil)))) (eTup (aCons (eC (.str "count")) (aCons (eVar 9) aNil))))) (sRet (eC (.bl false))) sSkip) (sIf (tB1 (e2 (pNe) (eCall f__law_refused (aCons (eVar 3) (aCons (eVar 4) (aCons (eVar 10) aNil)))) (eTup (aCons (eC (.str "wheel")) (aCons (eVar 10) aNil))))) (sRet (eC (.bl false))) sSkip)))))))))))))
theorem turn_ok {ns : List Int} {k : Int} {x2 x3 x4 x5 x6 x7 x8 x9 x10 : Option D} {o : OH} (h : o[0]? = some (.ro (ns.map D.int))) (hk0 : 0 ≤ k) (hk1 : k < 100) :
    ∃ y2 y3 y4 y5 y6 y7 y8 y9 y10 o', turnB [some (.ref 0), some (.int k), x2, x3, x4, x5, x6, x7, x8, x9, x10] o = .nx [some (.ref 0), some (.int k), y2, y3, y4, y5, y6, y7, y8, y9, y10] o' ∧ o'[0]? = some (.ro (ns.map D.int)) := by
  obtain ⟨sc, p1, G1⟩ := pool_n h hk0 hk1
  generalize hn : o.length = n at *
  obtain ⟨d1, o2, t2, l2, r2, G2⟩ := take_n (top := 4) G1 (by omega) (by omega)
  obtain ⟨d2, o3, t3, l3, r3, G3⟩ := take_n (top := 7) G2 (by omega) (by omega)
  obtain ⟨d3, o4, t4, l4, r4, G4⟩ := take_n (top := 12) G3 (by omega) (by omega)
  obtain ⟨b, hb⟩ : ∃ b : Nat, 1 + d1 = (b : Int) := ⟨(1 + d1).toNat, by omega⟩
  obtain ⟨many, hmany⟩ : ∃ b : Nat, d2 = (b : Int) := ⟨d2.toNat, by omega⟩
  obtain ⟨W0, hW0⟩ : ∃ b : Nat, 1 + d3 = (b : Int) := ⟨(1 + d3).toNat, by omega⟩
  subst hmany
  obtain ⟨W, s1, w1, w2, w3, q1, q2⟩ := wheel_ok (b := b) (many := many) (W0 := W0) (x0 := some (.ref 0)) (x1 := some (.int k)) (x2 := some (.ref n)) (x6 := x6) (x7 := x7) (x8 := x8) (x9 := x9) (x10 := x10) o4 (by omega) (by omega) (by omega) (by omega) (by omega)
  obtain ⟨o5, e5, u5⟩ := lot_ok (b := b) (many := many) (M := W) o4 (by omega) (by omega) (by omega) (by omega) (by omega)
  have G5 := G4.up u5
  obtain ⟨rn, ds, o6, e6, u6, n6, hlen⟩ := lrows_ok (b := b) (many := many) (M := W) o5 (by omega) (by omega) (by omega) w2 w1 (fun hb2 => by
    by_cases c : 3 < many
    · have := w3 hb2 c
      exact Nat.le_trans (Nat.pow_le_pow_left this many) (Nat.le_trans (Nat.pow_le_pow_right (by omega) (show many ≤ 6 by omega)) (by decide))
    · exact Nat.le_trans (Nat.pow_le_pow_left w1 many) (Nat.le_trans (Nat.pow_le_pow_right (by omega) (show many ≤ 3 by omega)) (by decide)))
  have hlot := len_lot (b := b) (many := many) (M := W) (by omega) (by omega) (by omega) w2 w1 w3
  rw [← hlot] at e5
  have G6 := G5.up u6
  obtain ⟨f1, o7, t7, l7, r7, G7⟩ := take_n (top := 3) G6 (by omega) (by omega)
  obtain ⟨f2, o8, t8, l8, r8, G8⟩ := take_n (top := 1000000000) G7 (by omega) (by omega)
  have hmul := z_mull (i := f1) (j := f2) (oh := o8) (by omega) (by omega)
  have hfb : 0 ≤ f1 * f2 ∧ f1 * f2 ≤ 3 * 1000000000 := ⟨Int.mul_nonneg l7 l8, Int.mul_le_mul (by omega) (by omega) l8 (by omega)⟩
  obtain ⟨far, hfar⟩ : ∃ far : Int, 1 + f1 * f2 = far := ⟨_, rfl⟩
  have hfar1 : 1 ≤ far := by omega
  obtain ⟨z1, o9, t9, hz1, G9⟩ := one_l (l := [.int 0, .int (1 - far), .int (20 + far)]) G8 (by simp) (by simp)
  obtain ⟨bad, rfl, hbad⟩ : ∃ z : Int, z1 = .int z ∧ (z < 1 ∨ 20 < z) := by
    simp only [List.mem_cons, List.not_mem_nil, or_false] at hz1
    rcases hz1 with rfl | rfl | rfl <;> exact ⟨_, rfl, by omega⟩
  obtain ⟨z2, o10, t10, hz2, G10⟩ := one_l (l := [.int (-far), .int (40 + far)]) G9 (by simp) (by simp)
  obtain ⟨worse, rfl, hworse⟩ : ∃ z : Int, z2 = .int z ∧ (z < 0 ∨ 40 < z) := by
    simp only [List.mem_cons, List.not_mem_nil, or_false] at hz2
    rcases hz2 with rfl | rfl <;> exact ⟨_, rfl, by omega⟩
  obtain ⟨z3, o11, t11, hz3, G11⟩ := one_l (l := [.int 0, .int (1 - far), .int (1000 + far)]) G10 (by simp) (by simp)
  obtain ⟨worst, rfl, hworst⟩ : ∃ z : Int, z3 = .int z ∧ (z < 1 ∨ 1000 < z) := by
    simp only [List.mem_cons, List.not_mem_nil, or_false] at hz3
    rcases hz3 with rfl | rfl | rfl <;> exact ⟨_, rfl, by omega⟩
  obtain ⟨z4, o12, t12, hz4, G12⟩ := one_l (l := [.int many, .int worse]) G11 (by simp) (by simp)
  obtain ⟨m4, rfl⟩ : ∃ z : Int, z4 = .int z := by
    simp only [List.mem_cons, List.not_mem_nil, or_false] at hz4
    rcases hz4 with rfl | rfl <;> exact ⟨_, rfl⟩
  obtain ⟨z5, o13, t13, hz5, G13⟩ := one_l (l := [.int W, .int worst]) G12 (by simp) (by simp)
  obtain ⟨m5, rfl⟩ : ∃ z : Int, z5 = .int z := by
    simp only [List.mem_cons, List.not_mem_nil, or_false] at hz5
    rcases hz5 with rfl | rfl <;> exact ⟨_, rfl⟩
  obtain ⟨z6, o14, t14, hz6, G14⟩ := one_l (l := [.int W, .int worst]) G13 (by simp) (by simp)
  obtain ⟨m6, rfl⟩ : ∃ z : Int, z6 = .int z := by
    simp only [List.mem_cons, List.not_mem_nil, or_false] at hz6
    rcases hz6 with rfl | rfl <;> exact ⟨_, rfl⟩
  have r1 := refused_ok (w := "size") (lot_bad (b := bad) (many := m4) (M := m5) o13 (.inl ⟨hbad, rfl, rfl⟩)) (.inl ⟨rfl, rfl⟩)
  have r2' := refused_ok (w := "count") (lot_bad (b := b) (many := worse) (M := m6) o14 (.inr (.inl ⟨by omega, by omega, hworse, rfl, rfl⟩))) (.inr (.inl ⟨rfl, rfl⟩))
  have r3' := refused_ok (w := "wheel") (lot_bad (b := b) (many := many) (M := worst) o14 (.inr (.inr ⟨by omega, by omega, by omega, by omega, hworst, rfl, rfl⟩))) (.inr (.inr ⟨rfl, rfl⟩))
  have hsel : sel [2, 1, 0] [D.int (W : Int), D.int (many : Int), D.int (b : Int)] = [D.int (b : Int), D.int (many : Int), D.int (W : Int)] := rfl
  have hpow : ∀ oh, pPow (.int 10) (.int 9) oh = some (.int 1000000000, oh) := fun _ => rfl
  have h2 : (2 ≤ sizeLine) = True := eq_true (size_le (by decide))
  have h3 : (3 ≤ sizeLine) = True := eq_true (size_le (by decide))
  have tr : ∀ o, truD o (.bl true) = some true := fun _ => rfl
  have tf : ∀ o, truD o (.bl false) = some false := fun _ => rfl
  have s1' : eIsB "int" (eVar 6) [some (.ref 0), some (.int k), some (.ref n), some (.int b), some (.int many), some (.int W), some (.int (lenV b many W : Int)), x7, x8, x9, x10] o5 = .ok (.bl true) o5 := z_isB rfl (is_int _ _)
  have s2' : eIsB "bool" (eVar 6) [some (.ref 0), some (.int k), some (.ref n), some (.int b), some (.int many), some (.int W), some (.int (lenV b many W : Int)), x7, x8, x9, x10] o5 = .ok (.bl false) o5 := z_isB rfl (is_intb _ _)
  have v1 := fun (oh : OH) (z : Int) => z_netup (t := "size") (z := z) (oh := oh) (by decide +kernel)
  have v2 := fun (oh : OH) (z : Int) => z_netup (t := "count") (z := z) (oh := oh) (by decide +kernel)
  have v3 := fun (oh : OH) (z : Int) => z_netup (t := "wheel") (z := z) (oh := oh) (by decide +kernel)
  have hlen' : (ds.length : Int) = (lenV b many W : Int) := by rw [hlen]
  have blen := z_len (z_itl n6)
  rw [hlen'] at blen
  refine ⟨some (.ref n), some (.int b), some (.int many), some (.int W), some (.int (lenV b many W : Int)), some (.int far), some (.int bad), some (.int worse), some (.int worst), o14, ?_, G14.1⟩
  unfold turnB
  simp only [z_seq, z_set, z_call, z_cons, z_var, z_c, List.getElem?_cons_zero, List.getElem?_cons_succ, z_bok, z_nil, p1, z_sok, List.set_cons_succ, List.set_cons_zero, z_nx, sPar3, z_e2, t2, z_add, z_lf, t3, t4, hb, hW0]
  rw [q1, z_nx, z_seq, q2]
  simp only [z_nx, z_seq, z_set, z_k0, z_cons, z_var, z_c, List.getElem?_cons_zero, List.getElem?_cons_succ, z_bok, z_nil, hsel, e5, z_sok, List.set_cons_succ, List.set_cons_zero, z_if, z_or, z_not, z_tru, s1', s2', tr, tf, Bool.not_true, hff, if_false, z_tb, z_e2, z_cb, z_call, e6, blen, z_lf, z_nei, decide_true, z_skip, t7, t8, hpow, hmul, z_add, hfar, z_lst, z_sub, List.length_cons, List.length_nil, Nat.zero_add, Nat.reduceAdd, h3, h2, if_true, t9, z_e1, z_neg, t10, t11, t12, t13, t14, r1, r2', r3', z_tup, v1, v2, v3]
end Wk
namespace Wk
open PySem PySem.Spec PyProof.Rows L2 SKX SK LamX CH
theorem law_true (ns : List Int) (_h1 : ns.length ≤ 63) (_h2 : ∀ z ∈ ns, PySem.Builtin.Int.intBits z ≤ 1048576) : ∃ oh, Wk.f_law [.ref 0] [.ro (ns.map SK.D.int)] = .ok (.bl true) oh := by
  have hr := z_r1 (ms := aCons (eC (.int 3)) aNil) (s := [some (.ref 0), none, none, none, none, none, none, none, none, none, none]) (oh := [.ro (ns.map SK.D.int)]) (oh' := [.ro (ns.map SK.D.int)]) (j := 3) (by simp) (by omega) (by omega)
  obtain ⟨s', o', e, y1, y2, y3, y4, y5, y6, y7, y8, y9, y10, rfl, h0⟩ := forN_ind (g := SK.gN 1) (body := turnB) hr
    (fun i s o => ∃ y1 y2 y3 y4 y5 y6 y7 y8 y9 y10, s = [some (.ref 0), y1, y2, y3, y4, y5, y6, y7, y8, y9, y10] ∧ o[0]? = some (.ro (ns.map D.int))) ⟨none, none, none, none, none, none, none, none, none, none, rfl, rfl⟩
    (fun i s o hi ⟨y1, y2, y3, y4, y5, y6, y7, y8, y9, y10, es, h0⟩ => by
      subst es
      have hi3 : i < 3 := hi
      obtain ⟨z2, z3, z4, z5, z6, z7, z8, z9, z10, o2, e2, h2⟩ := turn_ok (k := 0 + (i : Int)) (x2 := y2) (x3 := y3) (x4 := y4) (x5 := y5) (x6 := y6) (x7 := y7) (x8 := y8) (x9 := y9) (x10 := y10) h0 (by omega) (by omega)
      exact ⟨_, o, rfl, _, o2, e2, _, _, _, _, _, _, _, _, _, _, rfl, h2⟩)
  obtain ⟨l1, l2, l3⟩ := lot_last
  obtain ⟨oa, ea, _⟩ := lot_ok (b := 20) (many := 19) (M := 1) o' (by omega) (by omega) (by omega) (by omega) (by omega)
  obtain ⟨ob, eb, _⟩ := lot_ok (b := 1) (many := 40) (M := 1000) oa (by omega) (by omega) (by omega) (by omega) (by omega)
  obtain ⟨oc, ec, _⟩ := lot_ok (b := 2) (many := 1) (M := 1000) ob (by omega) (by omega) (by omega) (by omega) (by omega)
  rw [l1] at ea
  rw [l2] at eb
  rw [l3] at ec
  have ea : f_lot_ledgers [.int 20, .int 19, .int 1] o' = .ok (.int 1) oa := ea
  have eb : f_lot_ledgers [.int 1, .int 40, .int 1000] oa = .ok (.int 0) ob := eb
  have ec : f_lot_ledgers [.int 2, .int 1, .int 1000] ob = .ok (.int 1000) oc := ec
  have qa : SK.e2 (pEq) (eCall f_lot_ledgers (aCons (eC (.int 20)) (aCons (eC (.int 19)) (aCons (eC (.int 1)) aNil)))) (eC (.int 1)) [some (.ref 0), y1, y2, y3, y4, y5, y6, y7, y8, y9, y10] o' = .ok (.bl true) oa := by
    simp only [z_e2, z_call, z_cons, z_c, z_bok, z_nil, ea, z_eqi, decide_true, z_lf]
  have qb : SK.e2 (pEq) (eCall f_lot_ledgers (aCons (eC (.int 1)) (aCons (eC (.int 40)) (aCons (eC (.int 1000)) aNil)))) (eC (.int 0)) [some (.ref 0), y1, y2, y3, y4, y5, y6, y7, y8, y9, y10] oa = .ok (.bl true) ob := by
    simp only [z_e2, z_call, z_cons, z_c, z_bok, z_nil, eb, z_eqi, decide_true, z_lf]
  have qc : SK.e2 (pEq) (eCall f_lot_ledgers (aCons (eC (.int 2)) (aCons (eC (.int 1)) (aCons (eC (.int 1000)) aNil)))) (eC (.int 1000)) [some (.ref 0), y1, y2, y3, y4, y5, y6, y7, y8, y9, y10] ob = .ok (.bl true) oc := by
    simp only [z_e2, z_call, z_cons, z_c, z_bok, z_nil, ec, z_eqi, decide_true, z_lf]
  refine ⟨oc, ?_⟩
  have hb : m_law [some (.ref 0), none, none, none, none, none, none, none, none, none, none] [.ro (ns.map SK.D.int)] = .rt (.bl true) oc := by
    unfold m_law
    rw [z_seq]
    show (sFor (iRange1 (aCons (eC (.int 3)) aNil)) (SK.gN 1) turnB _ _).bnd _ = _
    rw [e, z_nx, z_ret, z_eandT qa, if_pos rfl, z_eandT qb, if_pos rfl, qc, z_sok]
  exact fn_rt rfl hb
end Wk
namespace Wk
open PySem PySem.Spec PyProof.Rows L2 SKX SK LamX
set_option maxHeartbeats 0 in
theorem all_mk {w : World} {K : PySem.W.Frag} {h : Heap} {mg : Str → Option Value} {fa : Addr} (X : K.In h) (G : h.Ns mainGlobals mg) (hfa : mg "law" = some (.ref fa))
    (law_true : ∀ (ns : List Int), ns.length ≤ 63 → (∀ z ∈ ns, Builtin.Int.intBits z ≤ 1048576) → ∃ oh, f_law [.ref 0] [.ro (ns.map D.int)] = .ok (.bl true) oh)
    {fI cc cda C_Refused C_BadSize C_BadWheel C_BadCount : Addr}
    {nm_Refused q_Refused : Str} {N_Refused : Addr} {bs_Refused bm_Refused : List Value} {sn_Refused : List Str} {sub_Refused : List Value} {ab_Refused : Bool} {col_Refused : Option Bool} {dd_Refused : Option Addr} {m0_Refused m1_Refused m2_Refused m3_Refused m5_Refused : Option Value}
    {nm_BadSize q_BadSize : Str} {N_BadSize : Addr} {bs_BadSize bm_BadSize : List Value} {sn_BadSize : List Str} {sub_BadSize : List Value} {ab_BadSize : Bool} {col_BadSize : Option Bool} {dd_BadSize : Option Addr} {m0_BadSize m1_BadSize m2_BadSize m3_BadSize m5_BadSize : Option Value}
    {nm_BadWheel q_BadWheel : Str} {N_BadWheel : Addr} {bs_BadWheel bm_BadWheel : List Value} {sn_BadWheel : List Str} {sub_BadWheel : List Value} {ab_BadWheel : Bool} {col_BadWheel : Option Bool} {dd_BadWheel : Option Addr} {m0_BadWheel m1_BadWheel m2_BadWheel m3_BadWheel m5_BadWheel : Option Value}
    {nm_BadCount q_BadCount : Str} {N_BadCount : Addr} {bs_BadCount bm_BadCount : List Value} {sn_BadCount : List Str} {sub_BadCount : List Value} {ab_BadCount : Bool} {col_BadCount : Option Bool} {dd_BadCount : Option Addr} {m0_BadCount m1_BadCount m2_BadCount m3_BadCount m5_BadCount : Option Value}
    {ocI : Value} {odI : Option Addr} {docI pmI : Value} {anI : Option Addr} {ctI : Value} {oslI : Array (Option Value)} {clc : Value} {cldc : Option Addr} {cslc : Array (Option Value)} {ecI : Value} {edI : Option Addr} {vsI : Array Value} {slI : Array (Option Value)} {fileI : Str} {tfI : Tok} {cdR : ClassData}
    {tk_MOST_CHOSEN : Tok}
    {tk_MOST_PLACES : Tok}
    {tk_MOST_SMALL : Tok}
    {tk_MOST_THREADS : Tok}
    {tk_MOST_WHEEL_howmany : Tok}
    {tk_MOST_WHEEL_rests : Tok}
    {a_choose : Addr} {od_choose an_choose : Option Addr} {sl_choose : Array (Option Value)} {oc_choose kV_choose dc_choose pm_choose cd_choose ct_choose : Value}
    {a_bags : Addr} {od_bags an_bags : Option Addr} {sl_bags : Array (Option Value)} {oc_bags kV_bags dc_bags pm_bags cd_bags ct_bags : Value}
    {a_power : Addr} {od_power an_power : Option Addr} {sl_power : Array (Option Value)} {oc_power kV_power dc_power pm_power cd_power ct_power : Value}
    {a_want_places : Addr} {od_want_places an_want_places : Option Addr} {sl_want_places : Array (Option Value)} {oc_want_places kV_want_places dc_want_places pm_want_places cd_want_places ct_want_places : Value}
    {a_want_wheel : Addr} {od_want_wheel an_want_wheel : Option Addr} {sl_want_wheel : Array (Option Value)} {oc_want_wheel kV_want_wheel dc_want_wheel pm_want_wheel cd_want_wheel ct_want_wheel : Value}
    {a_common : Addr} {od_common an_common : Option Addr} {sl_common : Array (Option Value)} {oc_common kV_common dc_common pm_common cd_common ct_common : Value}
    {a_measure : Addr} {od_measure an_measure : Option Addr} {sl_measure : Array (Option Value)} {oc_measure kV_measure dc_measure pm_measure cd_measure ct_measure : Value}
    {a_want_threads : Addr} {od_want_threads an_want_threads : Option Addr} {sl_want_threads : Array (Option Value)} {oc_want_threads kV_want_threads dc_want_threads pm_want_threads cd_want_threads ct_want_threads : Value}
    {a_rows_of_lot : Addr} {od_rows_of_lot an_rows_of_lot : Option Addr} {sl_rows_of_lot : Array (Option Value)} {oc_rows_of_lot kV_rows_of_lot dc_rows_of_lot pm_rows_of_lot cd_rows_of_lot ct_rows_of_lot : Value}
    {a_lot_ledgers : Addr} {od_lot_ledgers an_lot_ledgers : Option Addr} {sl_lot_ledgers : Array (Option Value)} {oc_lot_ledgers kV_lot_ledgers dc_lot_ledgers pm_lot_ledgers cd_lot_ledgers ct_lot_ledgers : Value}
    {a__law_pool : Addr} {od__law_pool an__law_pool : Option Addr} {sl__law_pool : Array (Option Value)} {oc__law_pool kV__law_pool dc__law_pool pm__law_pool cd__law_pool ct__law_pool : Value}
    {a__law_take : Addr} {od__law_take an__law_take : Option Addr} {sl__law_take : Array (Option Value)} {oc__law_take kV__law_take dc__law_take pm__law_take cd__law_take ct__law_take : Value}
    {a__law_one : Addr} {od__law_one an__law_one : Option Addr} {sl__law_one : Array (Option Value)} {oc__law_one kV__law_one dc__law_one pm__law_one cd__law_one ct__law_one : Value}
    {a__law_bags : Addr} {od__law_bags an__law_bags : Option Addr} {sl__law_bags : Array (Option Value)} {oc__law_bags kV__law_bags dc__law_bags pm__law_bags cd__law_bags ct__law_bags : Value}
    {a__law_common : Addr} {od__law_common an__law_common : Option Addr} {sl__law_common : Array (Option Value)} {oc__law_common kV__law_common dc__law_common pm__law_common cd__law_common ct__law_common : Value}
    {a__law_rows : Addr} {od__law_rows an__law_rows : Option Addr} {sl__law_rows : Array (Option Value)} {oc__law_rows kV__law_rows dc__law_rows pm__law_rows cd__law_rows ct__law_rows : Value}
    {a__law_refused : Addr} {od__law_refused an__law_refused : Option Addr} {sl__law_refused : Array (Option Value)} {oc__law_refused kV__law_refused dc__law_refused pm__law_refused cd__law_refused ct__law_refused : Value}
    {a_law : Addr} {od_law an_law : Option Addr} {sl_law : Array (Option Value)} {oc_law kV_law dc_law pm_law cd_law ct_law : Value}
    (ns_Refused : PySem.W.nsIn K mainGlobals "Refused" = some (some (.ref C_Refused)))
    (xL_Refused : K.lookup C_Refused = some (excClassObj nm_Refused q_Refused C_Refused N_Refused bs_Refused bm_Refused true sn_Refused sub_Refused ab_Refused col_Refused dd_Refused m0_Refused m1_Refused m2_Refused m3_Refused m5_Refused "ValueError.__new__"))
    (rv_Refused : PySem.HandSPX.refsVE bm_Refused = true)
    (sa_Refused : PySem.W.findIn K (.ref C_Refused) "__setattr__" = some (some (.builtin "object.__setattr__")))
    (ga_Refused : PySem.W.findIn K (.ref C_Refused) "__getattribute__" = some (some (.builtin "BaseException.__getattribute__")))
    (gg_Refused : PySem.W.findIn K (.ref C_Refused) "__getattr__" = some none)
    (nw_Refused : PySem.W.findIn K (.ref C_Refused) "what" = some none)
    (iC_Refused : PySem.W.findIn K (.ref C_Refused) "__init__" = some (some (.ref fI)))
    (kC_Refused : PySem.W.keepIn K (.ref C_Refused) = true)
    (eC_Refused : PySem.W.subIn K (.ref C_Refused) (.type "BaseException") = some true)
    (vC_Refused : PySem.W.subIn K (.ref C_Refused) (.type "ValueError") = some true)
    (tC_Refused : PySem.W.typeIn K (.ref C_Refused) = some (.type "type"))
    (hC_Refused : PySem.W.hasDictIn K C_Refused = true)
    (mR_Refused : PySem.W.mroIn K C_Refused (.ref C_Refused) = some true)
    (su_Refused : PySem.W.ks_superIn K C_Refused C_Refused "__init__" = some (some (.builtin "ValueError.__init__")))
    (in_Refused : PySem.W.excInitIn K C_Refused PySem.HandSPX.veTail "ValueError.__new__" = true)
    (cl_Refused : PySem.W.findIn K (.ref C_Refused) "__class__" = some (some (.builtin "object.__class__")))
    (mO_Refused : PySem.W.mroIn K C_Refused (.type "object") = some true)
    (ns_BadSize : PySem.W.nsIn K mainGlobals "BadSize" = some (some (.ref C_BadSize)))
    (xL_BadSize : K.lookup C_BadSize = some (excClassObj nm_BadSize q_BadSize C_BadSize N_BadSize bs_BadSize bm_BadSize true sn_BadSize sub_BadSize ab_BadSize col_BadSize dd_BadSize m0_BadSize m1_BadSize m2_BadSize m3_BadSize m5_BadSize "ValueError.__new__"))
    (rv_BadSize : PySem.HandSPX.refsVE bm_BadSize = true)
    (sa_BadSize : PySem.W.findIn K (.ref C_BadSize) "__setattr__" = some (some (.builtin "object.__setattr__")))
    (ga_BadSize : PySem.W.findIn K (.ref C_BadSize) "__getattribute__" = some (some (.builtin "BaseException.__getattribute__")))
    (gg_BadSize : PySem.W.findIn K (.ref C_BadSize) "__getattr__" = some none)
    (nw_BadSize : PySem.W.findIn K (.ref C_BadSize) "what" = some none)
    (iC_BadSize : PySem.W.findIn K (.ref C_BadSize) "__init__" = some (some (.ref fI)))
    (kC_BadSize : PySem.W.keepIn K (.ref C_BadSize) = true)
    (eC_BadSize : PySem.W.subIn K (.ref C_BadSize) (.type "BaseException") = some true)
    (vC_BadSize : PySem.W.subIn K (.ref C_BadSize) (.type "ValueError") = some true)
    (tC_BadSize : PySem.W.typeIn K (.ref C_BadSize) = some (.type "type"))
    (hC_BadSize : PySem.W.hasDictIn K C_BadSize = true)
    (mR_BadSize : PySem.W.mroIn K C_BadSize (.ref C_Refused) = some true)
    (su_BadSize : PySem.W.ks_superIn K C_BadSize C_Refused "__init__" = some (some (.builtin "ValueError.__init__")))
    (in_BadSize : PySem.W.excInitIn K C_BadSize PySem.HandSPX.veTail "ValueError.__new__" = true)
    (cl_BadSize : PySem.W.findIn K (.ref C_BadSize) "__class__" = some (some (.builtin "object.__class__")))
    (mO_BadSize : PySem.W.mroIn K C_BadSize (.type "object") = some true)
    (ns_BadWheel : PySem.W.nsIn K mainGlobals "BadWheel" = some (some (.ref C_BadWheel)))
    (xL_BadWheel : K.lookup C_BadWheel = some (excClassObj nm_BadWheel q_BadWheel C_BadWheel N_BadWheel bs_BadWheel bm_BadWheel true sn_BadWheel sub_BadWheel ab_BadWheel col_BadWheel dd_BadWheel m0_BadWheel m1_BadWheel m2_BadWheel m3_BadWheel m5_BadWheel "ValueError.__new__"))
    (rv_BadWheel : PySem.HandSPX.refsVE bm_BadWheel = true)
    (sa_BadWheel : PySem.W.findIn K (.ref C_BadWheel) "__setattr__" = some (some (.builtin "object.__setattr__")))
    (ga_BadWheel : PySem.W.findIn K (.ref C_BadWheel) "__getattribute__" = some (some (.builtin "BaseException.__getattribute__")))
    (gg_BadWheel : PySem.W.findIn K (.ref C_BadWheel) "__getattr__" = some none)
    (nw_BadWheel : PySem.W.findIn K (.ref C_BadWheel) "what" = some none)
    (iC_BadWheel : PySem.W.findIn K (.ref C_BadWheel) "__init__" = some (some (.ref fI)))
    (kC_BadWheel : PySem.W.keepIn K (.ref C_BadWheel) = true)
    (eC_BadWheel : PySem.W.subIn K (.ref C_BadWheel) (.type "BaseException") = some true)
    (vC_BadWheel : PySem.W.subIn K (.ref C_BadWheel) (.type "ValueError") = some true)
    (tC_BadWheel : PySem.W.typeIn K (.ref C_BadWheel) = some (.type "type"))
    (hC_BadWheel : PySem.W.hasDictIn K C_BadWheel = true)
    (mR_BadWheel : PySem.W.mroIn K C_BadWheel (.ref C_Refused) = some true)
    (su_BadWheel : PySem.W.ks_superIn K C_BadWheel C_Refused "__init__" = some (some (.builtin "ValueError.__init__")))
    (in_BadWheel : PySem.W.excInitIn K C_BadWheel PySem.HandSPX.veTail "ValueError.__new__" = true)
    (cl_BadWheel : PySem.W.findIn K (.ref C_BadWheel) "__class__" = some (some (.builtin "object.__class__")))
    (mO_BadWheel : PySem.W.mroIn K C_BadWheel (.type "object") = some true)
    (ns_BadCount : PySem.W.nsIn K mainGlobals "BadCount" = some (some (.ref C_BadCount)))
    (xL_BadCount : K.lookup C_BadCount = some (excClassObj nm_BadCount q_BadCount C_BadCount N_BadCount bs_BadCount bm_BadCount true sn_BadCount sub_BadCount ab_BadCount col_BadCount dd_BadCount m0_BadCount m1_BadCount m2_BadCount m3_BadCount m5_BadCount "ValueError.__new__"))
    (rv_BadCount : PySem.HandSPX.refsVE bm_BadCount = true)
    (sa_BadCount : PySem.W.findIn K (.ref C_BadCount) "__setattr__" = some (some (.builtin "object.__setattr__")))
    (ga_BadCount : PySem.W.findIn K (.ref C_BadCount) "__getattribute__" = some (some (.builtin "BaseException.__getattribute__")))
    (gg_BadCount : PySem.W.findIn K (.ref C_BadCount) "__getattr__" = some none)
    (nw_BadCount : PySem.W.findIn K (.ref C_BadCount) "what" = some none)
    (iC_BadCount : PySem.W.findIn K (.ref C_BadCount) "__init__" = some (some (.ref fI)))
    (kC_BadCount : PySem.W.keepIn K (.ref C_BadCount) = true)
    (eC_BadCount : PySem.W.subIn K (.ref C_BadCount) (.type "BaseException") = some true)
    (vC_BadCount : PySem.W.subIn K (.ref C_BadCount) (.type "ValueError") = some true)
    (tC_BadCount : PySem.W.typeIn K (.ref C_BadCount) = some (.type "type"))
    (hC_BadCount : PySem.W.hasDictIn K C_BadCount = true)
    (mR_BadCount : PySem.W.mroIn K C_BadCount (.ref C_Refused) = some true)
    (su_BadCount : PySem.W.ks_superIn K C_BadCount C_Refused "__init__" = some (some (.builtin "ValueError.__init__")))
    (in_BadCount : PySem.W.excInitIn K C_BadCount PySem.HandSPX.veTail "ValueError.__new__" = true)
    (cl_BadCount : PySem.W.findIn K (.ref C_BadCount) "__class__" = some (some (.builtin "object.__class__")))
    (mO_BadCount : PySem.W.mroIn K C_BadCount (.type "object") = some true)
    (tI : PySem.W.typeIn K (.ref fI) = some (.type "function"))
    (clN : PySem.W.specialIn K (.builtin "object.__class__") "__get__" = some (some (.builtin "getset_descriptor.__get__")))
    (clT : PySem.W.takesIn K (.builtin "object.__class__") = some true)
    (lI : K.lookup fI = some ⟨ocI, odI, .func (PySem.W.ksFn "__init__" "Refused.__init__" (SKX.rA ⟨5, 17, 5, 21⟩ ⟨5, 23, 5, 27⟩) (SKX.rB ⟨6, 8, 6, 13⟩ ⟨6, 8, 6, 15⟩ ⟨6, 8, 6, 24⟩ ⟨6, 25, 6, 34⟩ ⟨6, 8, 6, 35⟩ ⟨6, 8, 6, 35⟩ ⟨7, 8, 7, 12⟩ ⟨7, 8, 7, 17⟩ ⟨7, 20, 7, 24⟩ ⟨7, 8, 7, 24⟩ 0 "refused") SKX.rS .none .none docI pmI anI (.ref cda) ctI cc), oslI⟩)
    (cI : PySem.W.codeIn K (.ref cda) "Refused.__init__" = true)
    (lcc : K.lookup cc = some ⟨clc, cldc, .cell (some (.ref C_Refused)), cslc⟩)
    (lcd : K.lookup cda = some ⟨ecI, edI, .fields vsI, slI⟩)
    (v2 : vsI[2]? = some (.str fileI tfI))
    (fi : ((PySem.Challenge.pw_skeinturns_k36_rows_of_a_lot_counted.main.file : Str) == fileI) = true)
    (isR : PySem.W.clsIn K C_Refused = some cdR)
    (nsS : PySem.W.nsIn K mainGlobals "super" = some none)
    (opq : PySem.W.nsIn K PySem.cStatics "thirdparty.any" = some none)
    (ng_MOST_CHOSEN : PySem.W.nsIn K mainGlobals "MOST_CHOSEN" = some (some (.int 400 tk_MOST_CHOSEN)))
    (ng_MOST_PLACES : PySem.W.nsIn K mainGlobals "MOST_PLACES" = some (some (.int 20 tk_MOST_PLACES)))
    (ng_MOST_SMALL : PySem.W.nsIn K mainGlobals "MOST_SMALL" = some (some (.int 60 tk_MOST_SMALL)))
    (ng_MOST_THREADS : PySem.W.nsIn K mainGlobals "MOST_THREADS" = some (some (.int 40 tk_MOST_THREADS)))
    (ng_MOST_WHEEL_howmany : PySem.W.nsIn K mainGlobals "MOST_WHEEL_howmany" = some (some (.int 1000 tk_MOST_WHEEL_howmany)))
    (ng_MOST_WHEEL_rests : PySem.W.nsIn K mainGlobals "MOST_WHEEL_rests" = some (some (.int 1000000 tk_MOST_WHEEL_rests)))
    (nb_bool : PySem.W.nsIn K mainGlobals "bool" = some none)
    (nb_int : PySem.W.nsIn K mainGlobals "int" = some none)
    (nb_isinstance : PySem.W.nsIn K mainGlobals "isinstance" = some none)
    (nb_len : PySem.W.nsIn K mainGlobals "len" = some none)
    (nb_max : PySem.W.nsIn K mainGlobals "max" = some none)
    (nb_range : PySem.W.nsIn K mainGlobals "range" = some none)
    (nb_sum : PySem.W.nsIn K mainGlobals "sum" = some none)
    (ngcd : PySem.W.nsIn K mainGlobals "gcd" = some (some (.builtin "math.gcd")))
    (na_choose : PySem.W.nsIn K mainGlobals "choose" = some (some (.ref a_choose)))
    (lk_choose : K.lookup a_choose = some ⟨oc_choose, od_choose, .func (PySem.W.fnOf "choose" "choose" (defArgs s_choose) (defBody s_choose) (defScope s_choose) .none kV_choose dc_choose pm_choose an_choose cd_choose ct_choose), sl_choose⟩)
    (ci_choose : PySem.W.codeIn K cd_choose "choose" = true)
    (kp_choose : PySem.W.keepIn K (.ref a_choose) = true)
    (na_bags : PySem.W.nsIn K mainGlobals "bags" = some (some (.ref a_bags)))
    (lk_bags : K.lookup a_bags = some ⟨oc_bags, od_bags, .func (PySem.W.fnOf "bags" "bags" (defArgs s_bags) (defBody s_bags) (defScope s_bags) .none kV_bags dc_bags pm_bags an_bags cd_bags ct_bags), sl_bags⟩)
    (ci_bags : PySem.W.codeIn K cd_bags "bags" = true)
    (kp_bags : PySem.W.keepIn K (.ref a_bags) = true)
    (na_power : PySem.W.nsIn K mainGlobals "power" = some (some (.ref a_power)))
    (lk_power : K.lookup a_power = some ⟨oc_power, od_power, .func (PySem.W.fnOf "power" "power" (defArgs s_power) (defBody s_power) (defScope s_power) .none kV_power dc_power pm_power an_power cd_power ct_power), sl_power⟩)
    (ci_power : PySem.W.codeIn K cd_power "power" = true)
    (kp_power : PySem.W.keepIn K (.ref a_power) = true)
    (na_want_places : PySem.W.nsIn K mainGlobals "want_places" = some (some (.ref a_want_places)))
    (lk_want_places : K.lookup a_want_places = some ⟨oc_want_places, od_want_places, .func (PySem.W.fnOf "want_places" "want_places" (defArgs s_want_places) (defBody s_want_places) (defScope s_want_places) .none kV_want_places dc_want_places pm_want_places an_want_places cd_want_places ct_want_places), sl_want_places⟩)
    (ci_want_places : PySem.W.codeIn K cd_want_places "want_places" = true)
    (kp_want_places : PySem.W.keepIn K (.ref a_want_places) = true)
    (na_want_wheel : PySem.W.nsIn K mainGlobals "want_wheel" = some (some (.ref a_want_wheel)))
    (lk_want_wheel : K.lookup a_want_wheel = some ⟨oc_want_wheel, od_want_wheel, .func (PySem.W.fnOf "want_wheel" "want_wheel" (defArgs s_want_wheel) (defBody s_want_wheel) (defScope s_want_wheel) .none kV_want_wheel dc_want_wheel pm_want_wheel an_want_wheel cd_want_wheel ct_want_wheel), sl_want_wheel⟩)
    (ci_want_wheel : PySem.W.codeIn K cd_want_wheel "want_wheel" = true)
    (kp_want_wheel : PySem.W.keepIn K (.ref a_want_wheel) = true)
    (na_common : PySem.W.nsIn K mainGlobals "common" = some (some (.ref a_common)))
    (lk_common : K.lookup a_common = some ⟨oc_common, od_common, .func (PySem.W.fnOf "common" "common" (defArgs s_common) (defBody s_common) (defScope s_common) .none kV_common dc_common pm_common an_common cd_common ct_common), sl_common⟩)
    (ci_common : PySem.W.codeIn K cd_common "common" = true)
    (kp_common : PySem.W.keepIn K (.ref a_common) = true)
    (na_measure : PySem.W.nsIn K mainGlobals "measure" = some (some (.ref a_measure)))
    (lk_measure : K.lookup a_measure = some ⟨oc_measure, od_measure, .func (PySem.W.fnOf "measure" "measure" (defArgs s_measure) (defBody s_measure) (defScope s_measure) .none kV_measure dc_measure pm_measure an_measure cd_measure ct_measure), sl_measure⟩)
    (ci_measure : PySem.W.codeIn K cd_measure "measure" = true)
    (kp_measure : PySem.W.keepIn K (.ref a_measure) = true)
    (na_want_threads : PySem.W.nsIn K mainGlobals "want_threads" = some (some (.ref a_want_threads)))
    (lk_want_threads : K.lookup a_want_threads = some ⟨oc_want_threads, od_want_threads, .func (PySem.W.fnOf "want_threads" "want_threads" (defArgs s_want_threads) (defBody s_want_threads) (defScope s_want_threads) .none kV_want_threads dc_want_threads pm_want_threads an_want_threads cd_want_threads ct_want_threads), sl_want_threads⟩)
    (ci_want_threads : PySem.W.codeIn K cd_want_threads "want_threads" = true)
    (kp_want_threads : PySem.W.keepIn K (.ref a_want_threads) = true)
    (na_rows_of_lot : PySem.W.nsIn K mainGlobals "rows_of_lot" = some (some (.ref a_rows_of_lot)))
    (lk_rows_of_lot : K.lookup a_rows_of_lot = some ⟨oc_rows_of_lot, od_rows_of_lot, .func (PySem.W.fnOf "rows_of_lot" "rows_of_lot" (defArgs s_rows_of_lot) (defBody s_rows_of_lot) (defScope s_rows_of_lot) .none kV_rows_of_lot dc_rows_of_lot pm_rows_of_lot an_rows_of_lot cd_rows_of_lot ct_rows_of_lot), sl_rows_of_lot⟩)
    (ci_rows_of_lot : PySem.W.codeIn K cd_rows_of_lot "rows_of_lot" = true)
    (kp_rows_of_lot : PySem.W.keepIn K (.ref a_rows_of_lot) = true)
    (na_lot_ledgers : PySem.W.nsIn K mainGlobals "lot_ledgers" = some (some (.ref a_lot_ledgers)))
    (lk_lot_ledgers : K.lookup a_lot_ledgers = some ⟨oc_lot_ledgers, od_lot_ledgers, .func (PySem.W.fnOf "lot_ledgers" "lot_ledgers" (defArgs s_lot_ledgers) (defBody s_lot_ledgers) (defScope s_lot_ledgers) .none kV_lot_ledgers dc_lot_ledgers pm_lot_ledgers an_lot_ledgers cd_lot_ledgers ct_lot_ledgers), sl_lot_ledgers⟩)
    (ci_lot_ledgers : PySem.W.codeIn K cd_lot_ledgers "lot_ledgers" = true)
    (kp_lot_ledgers : PySem.W.keepIn K (.ref a_lot_ledgers) = true)
    (na__law_pool : PySem.W.nsIn K mainGlobals "_law_pool" = some (some (.ref a__law_pool)))
    (lk__law_pool : K.lookup a__law_pool = some ⟨oc__law_pool, od__law_pool, .func (PySem.W.fnOf "_law_pool" "_law_pool" (defArgs s__law_pool) (defBody s__law_pool) (defScope s__law_pool) .none kV__law_pool dc__law_pool pm__law_pool an__law_pool cd__law_pool ct__law_pool), sl__law_pool⟩)
    (ci__law_pool : PySem.W.codeIn K cd__law_pool "_law_pool" = true)
    (kp__law_pool : PySem.W.keepIn K (.ref a__law_pool) = true)
    (na__law_take : PySem.W.nsIn K mainGlobals "_law_take" = some (some (.ref a__law_take)))
    (lk__law_take : K.lookup a__law_take = some ⟨oc__law_take, od__law_take, .func (PySem.W.fnOf "_law_take" "_law_take" (defArgs s__law_take) (defBody s__law_take) (defScope s__law_take) .none kV__law_take dc__law_take pm__law_take an__law_take cd__law_take ct__law_take), sl__law_take⟩)
    (ci__law_take : PySem.W.codeIn K cd__law_take "_law_take" = true)
    (kp__law_take : PySem.W.keepIn K (.ref a__law_take) = true)
    (na__law_one : PySem.W.nsIn K mainGlobals "_law_one" = some (some (.ref a__law_one)))
    (lk__law_one : K.lookup a__law_one = some ⟨oc__law_one, od__law_one, .func (PySem.W.fnOf "_law_one" "_law_one" (defArgs s__law_one) (defBody s__law_one) (defScope s__law_one) .none kV__law_one dc__law_one pm__law_one an__law_one cd__law_one ct__law_one), sl__law_one⟩)
    (ci__law_one : PySem.W.codeIn K cd__law_one "_law_one" = true)
    (kp__law_one : PySem.W.keepIn K (.ref a__law_one) = true)
    (na__law_bags : PySem.W.nsIn K mainGlobals "_law_bags" = some (some (.ref a__law_bags)))
    (lk__law_bags : K.lookup a__law_bags = some ⟨oc__law_bags, od__law_bags, .func (PySem.W.fnOf "_law_bags" "_law_bags" (defArgs s__law_bags) (defBody s__law_bags) (defScope s__law_bags) .none kV__law_bags dc__law_bags pm__law_bags an__law_bags cd__law_bags ct__law_bags), sl__law_bags⟩)
    (ci__law_bags : PySem.W.codeIn K cd__law_bags "_law_bags" = true)
    (kp__law_bags : PySem.W.keepIn K (.ref a__law_bags) = true)
    (na__law_common : PySem.W.nsIn K mainGlobals "_law_common" = some (some (.ref a__law_common)))
    (lk__law_common : K.lookup a__law_common = some ⟨oc__law_common, od__law_common, .func (PySem.W.fnOf "_law_common" "_law_common" (defArgs s__law_common) (defBody s__law_common) (defScope s__law_common) .none kV__law_common dc__law_common pm__law_common an__law_common cd__law_common ct__law_common), sl__law_common⟩)
    (ci__law_common : PySem.W.codeIn K cd__law_common "_law_common" = true)
    (kp__law_common : PySem.W.keepIn K (.ref a__law_common) = true)
    (na__law_rows : PySem.W.nsIn K mainGlobals "_law_rows" = some (some (.ref a__law_rows)))
    (lk__law_rows : K.lookup a__law_rows = some ⟨oc__law_rows, od__law_rows, .func (PySem.W.fnOf "_law_rows" "_law_rows" (defArgs s__law_rows) (defBody s__law_rows) (defScope s__law_rows) .none kV__law_rows dc__law_rows pm__law_rows an__law_rows cd__law_rows ct__law_rows), sl__law_rows⟩)
    (ci__law_rows : PySem.W.codeIn K cd__law_rows "_law_rows" = true)
    (kp__law_rows : PySem.W.keepIn K (.ref a__law_rows) = true)
    (na__law_refused : PySem.W.nsIn K mainGlobals "_law_refused" = some (some (.ref a__law_refused)))
    (lk__law_refused : K.lookup a__law_refused = some ⟨oc__law_refused, od__law_refused, .func (PySem.W.fnOf "_law_refused" "_law_refused" (defArgs s__law_refused) (defBody s__law_refused) (defScope s__law_refused) .none kV__law_refused dc__law_refused pm__law_refused an__law_refused cd__law_refused ct__law_refused), sl__law_refused⟩)
    (ci__law_refused : PySem.W.codeIn K cd__law_refused "_law_refused" = true)
    (kp__law_refused : PySem.W.keepIn K (.ref a__law_refused) = true)
    (na_law : PySem.W.nsIn K mainGlobals "law" = some (some (.ref a_law)))
    (lk_law : K.lookup a_law = some ⟨oc_law, od_law, .func (PySem.W.fnOf "law" "law" (defArgs s_law) (defBody s_law) (defScope s_law) .none kV_law dc_law pm_law an_law cd_law ct_law), sl_law⟩)
    (ci_law : PySem.W.codeIn K cd_law "law" = true)
    (kp_law : PySem.W.keepIn K (.ref a_law) = true)
    (ex_BadCount_BadSize : PySem.W.exmOne K (.ref C_BadSize) (.ref C_BadCount) = some (subOf "BadCount" "BadSize"))
    (ex_BadCount_BadWheel : PySem.W.exmOne K (.ref C_BadWheel) (.ref C_BadCount) = some (subOf "BadCount" "BadWheel"))
    (ex_BadCount_BadCount : PySem.W.exmOne K (.ref C_BadCount) (.ref C_BadCount) = some (subOf "BadCount" "BadCount"))
    (ex_BadSize_BadSize : PySem.W.exmOne K (.ref C_BadSize) (.ref C_BadSize) = some (subOf "BadSize" "BadSize"))
    (ex_BadSize_BadWheel : PySem.W.exmOne K (.ref C_BadWheel) (.ref C_BadSize) = some (subOf "BadSize" "BadWheel"))
    (ex_BadSize_BadCount : PySem.W.exmOne K (.ref C_BadCount) (.ref C_BadSize) = some (subOf "BadSize" "BadCount"))
    (ex_BadWheel_BadSize : PySem.W.exmOne K (.ref C_BadSize) (.ref C_BadWheel) = some (subOf "BadWheel" "BadSize"))
    (ex_BadWheel_BadWheel : PySem.W.exmOne K (.ref C_BadWheel) (.ref C_BadWheel) = some (subOf "BadWheel" "BadWheel"))
    (ex_BadWheel_BadCount : PySem.W.exmOne K (.ref C_BadCount) (.ref C_BadWheel) = some (subOf "BadWheel" "BadCount"))
    (ex_Refused_BadSize : PySem.W.exmOne K (.ref C_BadSize) (.ref C_Refused) = some (subOf "Refused" "BadSize"))
    (ex_Refused_BadWheel : PySem.W.exmOne K (.ref C_BadWheel) (.ref C_Refused) = some (subOf "Refused" "BadWheel"))
    (ex_Refused_BadCount : PySem.W.exmOne K (.ref C_BadCount) (.ref C_Refused) = some (subOf "Refused" "BadCount")) :
    LawG PySem.Challenge.rw_skeinturns_k36_rows_of_a_lot_counted w K 9 63 "script" mg fa h := by
  have e := hfa.symm.trans (PySem.W.mg_of X G na_law)
  rw [show fa = a_law from Value.ref.inj (Option.some.inj e)]
  have F_choose := fun_mk (st := s_choose) lk_choose ci_choose kp_choose
  have F_bags := fun_mk (st := s_bags) lk_bags ci_bags kp_bags
  have F_power := fun_mk (st := s_power) lk_power ci_power kp_power
  have F_want_places := fun_mk (st := s_want_places) lk_want_places ci_want_places kp_want_places
  have F_want_wheel := fun_mk (st := s_want_wheel) lk_want_wheel ci_want_wheel kp_want_wheel
  have F_common := fun_mk (st := s_common) lk_common ci_common kp_common
  have F_measure := fun_mk (st := s_measure) lk_measure ci_measure kp_measure
  have F_want_threads := fun_mk (st := s_want_threads) lk_want_threads ci_want_threads kp_want_threads
  have F_rows_of_lot := fun_mk (st := s_rows_of_lot) lk_rows_of_lot ci_rows_of_lot kp_rows_of_lot
  have F_lot_ledgers := fun_mk (st := s_lot_ledgers) lk_lot_ledgers ci_lot_ledgers kp_lot_ledgers
  have F__law_pool := fun_mk (st := s__law_pool) lk__law_pool ci__law_pool kp__law_pool
  have F__law_take := fun_mk (st := s__law_take) lk__law_take ci__law_take kp__law_take
  have F__law_one := fun_mk (st := s__law_one) lk__law_one ci__law_one kp__law_one
  have F__law_bags := fun_mk (st := s__law_bags) lk__law_bags ci__law_bags kp__law_bags
  have F__law_common := fun_mk (st := s__law_common) lk__law_common ci__law_common kp__law_common
  have F__law_rows := fun_mk (st := s__law_rows) lk__law_rows ci__law_rows kp__law_rows
  have F__law_refused := fun_mk (st := s__law_refused) lk__law_refused ci__law_refused kp__law_refused
  have F_law := fun_mk (st := s_law) lk_law ci_law kp_law
  have ref : RefTxt PySem.Challenge.pw_skeinturns_k36_rows_of_a_lot_counted K mg C_Refused fI cc cda := ⟨⟨_, _, _, _, _, _, _, _, _, _, _, _, _, _, _, _, _, _, _, _, _, lI, cI, fun name L f cdv => ⟨_, rfl⟩⟩, ⟨_, _, _, lcc⟩, ⟨_, _, _, _, _, _, lcd, v2, fi⟩, ⟨_, isR⟩, PySem.W.mg_none_of X G nsS, by decide +kernel, opq⟩
  have e_Refused : ErrTxt K mg C_Refused fI "Refused" C_Refused := { gC := PySem.W.mg_of X G ns_Refused, cls := ⟨_, _, _, _, _, _, _, _, _, _, _, _, _, _, _, xL_Refused, rv_Refused⟩, sa := sa_Refused, ga := ga_Refused, gg := gg_Refused, noN := nw_Refused, iC := iC_Refused, tC := tI, kC := kC_Refused, exC := eC_Refused, veC := vC_Refused, tyC := tC_Refused, hdC := hC_Refused, toR := mR_Refused, sup := su_Refused, ini := in_Refused, clC := cl_Refused, clN := clN, clT := clT, toO := mO_Refused }
  have e_BadSize : ErrTxt K mg C_Refused fI "BadSize" C_BadSize := { gC := PySem.W.mg_of X G ns_BadSize, cls := ⟨_, _, _, _, _, _, _, _, _, _, _, _, _, _, _, xL_BadSize, rv_BadSize⟩, sa := sa_BadSize, ga := ga_BadSize, gg := gg_BadSize, noN := nw_BadSize, iC := iC_BadSize, tC := tI, kC := kC_BadSize, exC := eC_BadSize, veC := vC_BadSize, tyC := tC_BadSize, hdC := hC_BadSize, toR := mR_BadSize, sup := su_BadSize, ini := in_BadSize, clC := cl_BadSize, clN := clN, clT := clT, toO := mO_BadSize }
  have e_BadWheel : ErrTxt K mg C_Refused fI "BadWheel" C_BadWheel := { gC := PySem.W.mg_of X G ns_BadWheel, cls := ⟨_, _, _, _, _, _, _, _, _, _, _, _, _, _, _, xL_BadWheel, rv_BadWheel⟩, sa := sa_BadWheel, ga := ga_BadWheel, gg := gg_BadWheel, noN := nw_BadWheel, iC := iC_BadWheel, tC := tI, kC := kC_BadWheel, exC := eC_BadWheel, veC := vC_BadWheel, tyC := tC_BadWheel, hdC := hC_BadWheel, toR := mR_BadWheel, sup := su_BadWheel, ini := in_BadWheel, clC := cl_BadWheel, clN := clN, clT := clT, toO := mO_BadWheel }
  have e_BadCount : ErrTxt K mg C_Refused fI "BadCount" C_BadCount := { gC := PySem.W.mg_of X G ns_BadCount, cls := ⟨_, _, _, _, _, _, _, _, _, _, _, _, _, _, _, xL_BadCount, rv_BadCount⟩, sa := sa_BadCount, ga := ga_BadCount, gg := gg_BadCount, noN := nw_BadCount, iC := iC_BadCount, tC := tI, kC := kC_BadCount, exC := eC_BadCount, veC := vC_BadCount, tyC := tC_BadCount, hdC := hC_BadCount, toR := mR_BadCount, sup := su_BadCount, ini := in_BadCount, clC := cl_BadCount, clN := clN, clT := clT, toO := mO_BadCount }
  have T : Txt PySem.Challenge.pw_skeinturns_k36_rows_of_a_lot_counted K mg fI cc cda C_Refused C_BadSize C_BadWheel C_BadCount a_choose a_bags a_power a_want_places a_want_wheel a_common a_measure a_want_threads a_rows_of_lot a_lot_ledgers a__law_pool a__law_take a__law_one a__law_bags a__law_common a__law_rows a__law_refused a_law _ _ _ _ _ _ _ _ _ _ _ _ _ _ _ _ _ _ := {
    ref := ref,
    e_Refused := e_Refused,
    e_BadSize := e_BadSize,
    e_BadWheel := e_BadWheel,
    e_BadCount := e_BadCount,
    exm_BadCount := (fun c C h1 h2 => by
    rw [List.contains_iff_mem] at h1
    simp only [errs_, List.mem_cons, List.not_mem_nil, or_false] at h1
    rcases h1 with rfl | rfl | rfl
    · have z := e_BadSize.gC.symm.trans h2
      cases z
      exact ex_BadCount_BadSize
    · have z := e_BadWheel.gC.symm.trans h2
      cases z
      exact ex_BadCount_BadWheel
    · have z := e_BadCount.gC.symm.trans h2
      cases z
      exact ex_BadCount_BadCount),
    exm_BadSize := (fun c C h1 h2 => by
    rw [List.contains_iff_mem] at h1
    simp only [errs_, List.mem_cons, List.not_mem_nil, or_false] at h1
    rcases h1 with rfl | rfl | rfl
    · have z := e_BadSize.gC.symm.trans h2
      cases z
      exact ex_BadSize_BadSize
    · have z := e_BadWheel.gC.symm.trans h2
      cases z
      exact ex_BadSize_BadWheel
    · have z := e_BadCount.gC.symm.trans h2
      cases z
      exact ex_BadSize_BadCount),
    exm_BadWheel := (fun c C h1 h2 => by
    rw [List.contains_iff_mem] at h1
    simp only [errs_, List.mem_cons, List.not_mem_nil, or_false] at h1
    rcases h1 with rfl | rfl | rfl
    · have z := e_BadSize.gC.symm.trans h2
      cases z
      exact ex_BadWheel_BadSize
    · have z := e_BadWheel.gC.symm.trans h2
      cases z
      exact ex_BadWheel_BadWheel
    · have z := e_BadCount.gC.symm.trans h2
      cases z
      exact ex_BadWheel_BadCount),
    exm_Refused := (fun c C h1 h2 => by
    rw [List.contains_iff_mem] at h1
    simp only [errs_, List.mem_cons, List.not_mem_nil, or_false] at h1
    rcases h1 with rfl | rfl | rfl
    · have z := e_BadSize.gC.symm.trans h2
      cases z
      exact ex_Refused_BadSize
    · have z := e_BadWheel.gC.symm.trans h2
      cases z
      exact ex_Refused_BadWheel
    · have z := e_BadCount.gC.symm.trans h2
      cases z
      exact ex_Refused_BadCount),
    g_MOST_CHOSEN := ⟨_, PySem.W.mg_of X G ng_MOST_CHOSEN⟩,
    g_MOST_PLACES := ⟨_, PySem.W.mg_of X G ng_MOST_PLACES⟩,
    g_MOST_SMALL := ⟨_, PySem.W.mg_of X G ng_MOST_SMALL⟩,
    g_MOST_THREADS := ⟨_, PySem.W.mg_of X G ng_MOST_THREADS⟩,
    g_MOST_WHEEL_howmany := ⟨_, PySem.W.mg_of X G ng_MOST_WHEEL_howmany⟩,
    g_MOST_WHEEL_rests := ⟨_, PySem.W.mg_of X G ng_MOST_WHEEL_rests⟩,
    b_bool := PySem.W.mg_none_of X G nb_bool,
    b_int := PySem.W.mg_none_of X G nb_int,
    b_isinstance := PySem.W.mg_none_of X G nb_isinstance,
    b_len := PySem.W.mg_none_of X G nb_len,
    b_max := PySem.W.mg_none_of X G nb_max,
    b_range := PySem.W.mg_none_of X G nb_range,
    b_sum := PySem.W.mg_none_of X G nb_sum,
    m_gcd := PySem.W.mg_of X G ngcd,
    m_choose := PySem.W.mg_of X G na_choose,
    F_choose := F_choose,
    m_bags := PySem.W.mg_of X G na_bags,
    F_bags := F_bags,
    m_power := PySem.W.mg_of X G na_power,
    F_power := F_power,
    m_want_places := PySem.W.mg_of X G na_want_places,
    F_want_places := F_want_places,
    m_want_wheel := PySem.W.mg_of X G na_want_wheel,
    F_want_wheel := F_want_wheel,
    m_common := PySem.W.mg_of X G na_common,
    F_common := F_common,
    m_measure := PySem.W.mg_of X G na_measure,
    F_measure := F_measure,
    m_want_threads := PySem.W.mg_of X G na_want_threads,
    F_want_threads := F_want_threads,
    m_rows_of_lot := PySem.W.mg_of X G na_rows_of_lot,
    F_rows_of_lot := F_rows_of_lot,
    m_lot_ledgers := PySem.W.mg_of X G na_lot_ledgers,
    F_lot_ledgers := F_lot_ledgers,
    m__law_pool := PySem.W.mg_of X G na__law_pool,
    F__law_pool := F__law_pool,
    m__law_take := PySem.W.mg_of X G na__law_take,
    F__law_take := F__law_take,
    m__law_one := PySem.W.mg_of X G na__law_one,
    F__law_one := F__law_one,
    m__law_bags := PySem.W.mg_of X G na__law_bags,
    F__law_bags := F__law_bags,
    m__law_common := PySem.W.mg_of X G na__law_common,
    F__law_common := F__law_common,
    m__law_rows := PySem.W.mg_of X G na__law_rows,
    F__law_rows := F__law_rows,
    m__law_refused := PySem.W.mg_of X G na__law_refused,
    F__law_refused := F__law_refused,
    m_law := PySem.W.mg_of X G na_law,
    F_law := F_law }
  refine ⟨PySem.W.fnOf "law" "law" (defArgs s_law) (defBody s_law) (defScope s_law) .none kV_law dc_law pm_law an_law cd_law ct_law, [], [], f_law, rfl, (fun p hp => by simp at hp), (fun p hp => by simp at hp), (fun p hp => by simp at hp), fun s u => .of_eq rfl, fun ns h1 h2 => law_true ns h1 h2, fun base hK hG tb => ?_⟩
  have O_choose := ok_choose (PP := PySem.Challenge.pw_skeinturns_k36_rows_of_a_lot_counted) (w := w) (base := base) T
  have O_bags := ok_bags (PP := PySem.Challenge.pw_skeinturns_k36_rows_of_a_lot_counted) (w := w) (base := base) T O_choose
  have O_power := ok_power (PP := PySem.Challenge.pw_skeinturns_k36_rows_of_a_lot_counted) (w := w) (base := base) T
  have O_want_places := ok_want_places (PP := PySem.Challenge.pw_skeinturns_k36_rows_of_a_lot_counted) (w := w) (base := base) T
  have O_want_wheel := ok_want_wheel (PP := PySem.Challenge.pw_skeinturns_k36_rows_of_a_lot_counted) (w := w) (base := base) T
  have O_common := ok_common (PP := PySem.Challenge.pw_skeinturns_k36_rows_of_a_lot_counted) (w := w) (base := base) T
  have O_measure := ok_measure (PP := PySem.Challenge.pw_skeinturns_k36_rows_of_a_lot_counted) (w := w) (base := base) T O_want_wheel O_common
  have O_want_threads := ok_want_threads (PP := PySem.Challenge.pw_skeinturns_k36_rows_of_a_lot_counted) (w := w) (base := base) T
  have O_rows_of_lot := ok_rows_of_lot (PP := PySem.Challenge.pw_skeinturns_k36_rows_of_a_lot_counted) (w := w) (base := base) T O_power O_bags O_measure
  have O_lot_ledgers := ok_lot_ledgers (PP := PySem.Challenge.pw_skeinturns_k36_rows_of_a_lot_counted) (w := w) (base := base) T O_want_places O_want_threads O_rows_of_lot
  have O__law_pool := ok__law_pool (PP := PySem.Challenge.pw_skeinturns_k36_rows_of_a_lot_counted) (w := w) (base := base) T
  have O__law_take := ok__law_take (PP := PySem.Challenge.pw_skeinturns_k36_rows_of_a_lot_counted) (w := w) (base := base) T
  have O__law_one := ok__law_one (PP := PySem.Challenge.pw_skeinturns_k36_rows_of_a_lot_counted) (w := w) (base := base) T O__law_take
  have O__law_bags := ok__law_bags (PP := PySem.Challenge.pw_skeinturns_k36_rows_of_a_lot_counted) (w := w) (base := base) T
  have O__law_common := ok__law_common (PP := PySem.Challenge.pw_skeinturns_k36_rows_of_a_lot_counted) (w := w) (base := base) T
  have O__law_rows := ok__law_rows (PP := PySem.Challenge.pw_skeinturns_k36_rows_of_a_lot_counted) (w := w) (base := base) T O__law_bags O__law_common
  have O__law_refused := ok__law_refused (PP := PySem.Challenge.pw_skeinturns_k36_rows_of_a_lot_counted) (w := w) (base := base) T O_lot_ledgers
  have O_law := ok_law (PP := PySem.Challenge.pw_skeinturns_k36_rows_of_a_lot_counted) (w := w) (base := base) T O__law_pool O_lot_ledgers O__law_one O__law_take O__law_refused O__law_rows
  exact FnG.of O_law
end Wk
open PySem PySem.W PyProof.Rows
set_option maxHeartbeats 0 in
theorem PySem.Challenge.cw_skeinturns_k36_rows_of_a_lot_counted_holds : PySem.Challenge.rw_skeinturns_k36_rows_of_a_lot_counted.Holds := by
  w_on; o_law; k_head; (case hw => w_witness2)
  k_fill
  refine SK.walk_law (l := PySem.Challenge.rw_skeinturns_k36_rows_of_a_lot_counted) (n := 63) (k := 9) (x := "script") rfl (by decide) rfl ⟨rfl, by decide, by decide⟩ (fun w h Y => (by first | exact PySem.W.kIn_of Y | exact PySem.W.km_in_of Y)) ?F
  case F =>
    intro w mg fa h Y KX G hmg own
    refine' Wk.all_mk KX G hmg Wk.law_true ?ns_Refused ?xL_Refused ?rv_Refused ?sa_Refused ?ga_Refused ?gg_Refused ?nw_Refused ?iC_Refused ?kC_Refused ?eC_Refused ?vC_Refused ?tC_Refused ?hC_Refused ?mR_Refused ?su_Refused ?in_Refused ?cl_Refused ?mO_Refused ?ns_BadSize ?xL_BadSize ?rv_BadSize ?sa_BadSize ?ga_BadSize ?gg_BadSize ?nw_BadSize ?iC_BadSize ?kC_BadSize ?eC_BadSize ?vC_BadSize ?tC_BadSize ?hC_BadSize ?mR_BadSize ?su_BadSize ?in_BadSize ?cl_BadSize ?mO_BadSize ?ns_BadWheel ?xL_BadWheel ?rv_BadWheel ?sa_BadWheel ?ga_BadWheel ?gg_BadWheel ?nw_BadWheel ?iC_BadWheel ?kC_BadWheel ?eC_BadWheel ?vC_BadWheel ?tC_BadWheel ?hC_BadWheel ?mR_BadWheel ?su_BadWheel ?in_BadWheel ?cl_BadWheel ?mO_BadWheel ?ns_BadCount ?xL_BadCount ?rv_BadCount ?sa_BadCount ?ga_BadCount ?gg_BadCount ?nw_BadCount ?iC_BadCount ?kC_BadCount ?eC_BadCount ?vC_BadCount ?tC_BadCount ?hC_BadCount ?mR_BadCount ?su_BadCount ?in_BadCount ?cl_BadCount ?mO_BadCount ?tI ?clN ?clT ?lI ?cI ?lcc ?lcd ?v2 ?fi ?isR ?nsS ?opq ?ng_MOST_CHOSEN ?ng_MOST_PLACES ?ng_MOST_SMALL ?ng_MOST_THREADS ?ng_MOST_WHEEL_howmany ?ng_MOST_WHEEL_rests ?nb_bool ?nb_int ?nb_isinstance ?nb_len ?nb_max ?nb_range ?nb_sum ?ngcd ?na_choose ?lk_choose ?ci_choose ?kp_choose ?na_bags ?lk_bags ?ci_bags ?kp_bags ?na_power ?lk_power ?ci_power ?kp_power ?na_want_places ?lk_want_places ?ci_want_places ?kp_want_places ?na_want_wheel ?lk_want_wheel ?ci_want_wheel ?kp_want_wheel ?na_common ?lk_common ?ci_common ?kp_common ?na_measure ?lk_measure ?ci_measure ?kp_measure ?na_want_threads ?lk_want_threads ?ci_want_threads ?kp_want_threads ?na_rows_of_lot ?lk_rows_of_lot ?ci_rows_of_lot ?kp_rows_of_lot ?na_lot_ledgers ?lk_lot_ledgers ?ci_lot_ledgers ?kp_lot_ledgers ?na__law_pool ?lk__law_pool ?ci__law_pool ?kp__law_pool ?na__law_take ?lk__law_take ?ci__law_take ?kp__law_take ?na__law_one ?lk__law_one ?ci__law_one ?kp__law_one ?na__law_bags ?lk__law_bags ?ci__law_bags ?kp__law_bags ?na__law_common ?lk__law_common ?ci__law_common ?kp__law_common ?na__law_rows ?lk__law_rows ?ci__law_rows ?kp__law_rows ?na__law_refused ?lk__law_refused ?ci__law_refused ?kp__law_refused ?na_law ?lk_law ?ci_law ?kp_law ?ex_BadCount_BadSize ?ex_BadCount_BadWheel ?ex_BadCount_BadCount ?ex_BadSize_BadSize ?ex_BadSize_BadWheel ?ex_BadSize_BadCount ?ex_BadWheel_BadSize ?ex_BadWheel_BadWheel ?ex_BadWheel_BadCount ?ex_Refused_BadSize ?ex_Refused_BadWheel ?ex_Refused_BadCount
    (case ns_Refused => k_is)
    (case xL_Refused => k_is)
    (case rv_Refused => (first | rfl | decide +kernel))
    (case sa_Refused => k_is)
    (case ga_Refused => k_is)
    (case gg_Refused => k_is)
    (case nw_Refused => k_is)
    (case iC_Refused => k_is)
    (case kC_Refused => k_is)
    (case eC_Refused => k_is)
    (case vC_Refused => k_is)
    (case tC_Refused => k_is)
    (case hC_Refused => k_is)
    (case mR_Refused => k_is)
    (case su_Refused => (first | ks_is | kernel_rfl))
    (case in_Refused => (first | k_is | kernel_rfl))
    (case cl_Refused => k_is)
    (case mO_Refused => k_is)
    (case ns_BadSize => k_is)
    (case xL_BadSize => k_is)
    (case rv_BadSize => (first | rfl | decide +kernel))
    (case sa_BadSize => k_is)
    (case ga_BadSize => k_is)
    (case gg_BadSize => k_is)
    (case nw_BadSize => k_is)
    (case iC_BadSize => k_is)
    (case kC_BadSize => k_is)
    (case eC_BadSize => k_is)
    (case vC_BadSize => k_is)
    (case tC_BadSize => k_is)
    (case hC_BadSize => k_is)
    (case mR_BadSize => k_is)
    (case su_BadSize => (first | ks_is | kernel_rfl))
    (case in_BadSize => (first | k_is | kernel_rfl))
    (case cl_BadSize => k_is)
    (case mO_BadSize => k_is)
    (case ns_BadWheel => k_is)
    (case xL_BadWheel => k_is)
    (case rv_BadWheel => (first | rfl | decide +kernel))
    (case sa_BadWheel => k_is)
    (case ga_BadWheel => k_is)
    (case gg_BadWheel => k_is)
    (case nw_BadWheel => k_is)
    (case iC_BadWheel => k_is)
    (case kC_BadWheel => k_is)
    (case eC_BadWheel => k_is)
    (case vC_BadWheel => k_is)
    (case tC_BadWheel => k_is)
    (case hC_BadWheel => k_is)
    (case mR_BadWheel => k_is)
    (case su_BadWheel => (first | ks_is | kernel_rfl))
    (case in_BadWheel => (first | k_is | kernel_rfl))
    (case cl_BadWheel => k_is)
    (case mO_BadWheel => k_is)
    (case ns_BadCount => k_is)
    (case xL_BadCount => k_is)
    (case rv_BadCount => (first | rfl | decide +kernel))
    (case sa_BadCount => k_is)
    (case ga_BadCount => k_is)
    (case gg_BadCount => k_is)
    (case nw_BadCount => k_is)
    (case iC_BadCount => k_is)
    (case kC_BadCount => k_is)
    (case eC_BadCount => k_is)
    (case vC_BadCount => k_is)
    (case tC_BadCount => k_is)
    (case hC_BadCount => k_is)
    (case mR_BadCount => k_is)
    (case su_BadCount => (first | ks_is | kernel_rfl))
    (case in_BadCount => (first | k_is | kernel_rfl))
    (case cl_BadCount => k_is)
    (case mO_BadCount => k_is)
    (case tI => k_is)
    (case clN => k_is)
    (case clT => k_is)
    (case lI => k_is)
    (case cI => k_is)
    (case lcc => k_is)
    (case lcd => k_is)
    (case v2 => rfl)
    (case fi => (first | rfl | decide +kernel))
    (case isR => (first | k_is | kernel_rfl))
    (case nsS => k_is)
    (case opq => k_is)
    (case ng_MOST_CHOSEN => k_is)
    (case ng_MOST_PLACES => k_is)
    (case ng_MOST_SMALL => k_is)
    (case ng_MOST_THREADS => k_is)
    (case ng_MOST_WHEEL_howmany => k_is)
    (case ng_MOST_WHEEL_rests => k_is)
    (case nb_bool => k_is)
    (case nb_int => k_is)
    (case nb_isinstance => k_is)
    (case nb_len => k_is)
    (case nb_max => k_is)
    (case nb_range => k_is)
    (case nb_sum => k_is)
    (case ngcd => k_is)
    (case na_choose => k_is)
    (case lk_choose => k_is)
    (case ci_choose => k_is)
    (case kp_choose => k_is)
    (case na_bags => k_is)
    (case lk_bags => k_is)
    (case ci_bags => k_is)
    (case kp_bags => k_is)
    (case na_power => k_is)
    (case lk_power => k_is)
    (case ci_power => k_is)
    (case kp_power => k_is)
    (case na_want_places => k_is)
    (case lk_want_places => k_is)
    (case ci_want_places => k_is)
    (case kp_want_places => k_is)
    (case na_want_wheel => k_is)
    (case lk_want_wheel => k_is)
    (case ci_want_wheel => k_is)
    (case kp_want_wheel => k_is)
    (case na_common => k_is)
    (case lk_common => k_is)
    (case ci_common => k_is)
    (case kp_common => k_is)
    (case na_measure => k_is)
    (case lk_measure => k_is)
    (case ci_measure => k_is)
    (case kp_measure => k_is)
    (case na_want_threads => k_is)
    (case lk_want_threads => k_is)
    (case ci_want_threads => k_is)
    (case kp_want_threads => k_is)
    (case na_rows_of_lot => k_is)
    (case lk_rows_of_lot => k_is)
    (case ci_rows_of_lot => k_is)
    (case kp_rows_of_lot => k_is)
    (case na_lot_ledgers => k_is)
    (case lk_lot_ledgers => k_is)
    (case ci_lot_ledgers => k_is)
    (case kp_lot_ledgers => k_is)
    (case na__law_pool => k_is)
    (case lk__law_pool => k_is)
    (case ci__law_pool => k_is)
    (case kp__law_pool => k_is)
    (case na__law_take => k_is)
    (case lk__law_take => k_is)
    (case ci__law_take => k_is)
    (case kp__law_take => k_is)
    (case na__law_one => k_is)
    (case lk__law_one => k_is)
    (case ci__law_one => k_is)
    (case kp__law_one => k_is)
    (case na__law_bags => k_is)
    (case lk__law_bags => k_is)
    (case ci__law_bags => k_is)
    (case kp__law_bags => k_is)
    (case na__law_common => k_is)
    (case lk__law_common => k_is)
    (case ci__law_common => k_is)
    (case kp__law_common => k_is)
    (case na__law_rows => k_is)
    (case lk__law_rows => k_is)
    (case ci__law_rows => k_is)
    (case kp__law_rows => k_is)
    (case na__law_refused => k_is)
    (case lk__law_refused => k_is)
    (case ci__law_refused => k_is)
    (case kp__law_refused => k_is)
    (case na_law => k_is)
    (case lk_law => k_is)
    (case ci_law => k_is)
    (case kp_law => k_is)
    (case ex_BadCount_BadSize => (first | k_is | kernel_rfl))
    (case ex_BadCount_BadWheel => (first | k_is | kernel_rfl))
    (case ex_BadCount_BadCount => (first | k_is | kernel_rfl))
    (case ex_BadSize_BadSize => (first | k_is | kernel_rfl))
    (case ex_BadSize_BadWheel => (first | k_is | kernel_rfl))
    (case ex_BadSize_BadCount => (first | k_is | kernel_rfl))
    (case ex_BadWheel_BadSize => (first | k_is | kernel_rfl))
    (case ex_BadWheel_BadWheel => (first | k_is | kernel_rfl))
    (case ex_BadWheel_BadCount => (first | k_is | kernel_rfl))
    (case ex_Refused_BadSize => (first | k_is | kernel_rfl))
    (case ex_Refused_BadWheel => (first | k_is | kernel_rfl))
    (case ex_Refused_BadCount => (first | k_is | kernel_rfl))
