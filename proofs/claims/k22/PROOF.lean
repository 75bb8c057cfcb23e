import PyProof.Rows.All
import HandS.ForMost
import HandS.ForExc
import HandS.Lambda
import HandS.ExcSuper
import HandS.Wide
import HandS.Codes
import HandS.TryMany
import HandS.RaiseMore
import HandS.Flow
import HandS.Conv
import HandS.Gcd
import HandS.TupAny
import HandS.TupMul
import HandS.TryOnly
import KE.KExcSuper
import HandS.ExcIs
import KE.KExcIs
import HandS.EndTab
import HandS.EndOwn
import HandS.IsInst
import HandS.Style
import HandS.TupSets
import HandS.Deep
import KE.KDictPairs
import KE.KDictSum
import HandS.ExcValue
import HandS.Defaults
import PySem.Challenge.RW_skeinturns_k22_threads_go_round
set_option Elab.async false
set_option linter.all false
set_option maxRecDepth 100000
namespace SK
open PySem PySem.Spec PyProof.Rows L2
/-! ### values, own heap, results -/
inductive D where
  | non | bl (b : Bool) | int (i : Int) | str (s : Str) | tup (l : List D) | ref (n : Nat) | adr (a : Addr)
inductive Cell where
  | lst (l : List D)
  | ro (l : List D)
  | tbls (T : List (Addr × Str))
  | dct (l : List (List Int × D))
  | fdc (l : List (List Int × D))
/-- a cell that the program may write -/
def Cell.own : Cell → Bool
  | .lst _ => true
  | .dct _ => true
  | .fdc _ => true
  | _ => false
abbrev OH := List Cell
inductive R (α : Type) where
  | ok (a : α) (oh : OH)
  | exc (c : Str) (w : D) (oh : OH)
  | bad
abbrev M (α : Type) := OH → R α
def R.bnd {α β : Type} (r : R α) (f : α → OH → R β) : R β := match r with
  | .ok a oh => f a oh
  | .exc c w oh => .exc c w oh
  | .bad => .bad
theorem bnd_ok {α β : Type} {a : α} {oh : OH} {f : α → OH → R β} : (R.ok a oh).bnd f = f a oh := rfl
theorem bnd_exc {α β : Type} {c : Str} {w : D} {oh : OH} {f : α → OH → R β} : (R.exc c w oh : R α).bnd f = .exc c w oh := rfl
theorem bnd_bad {α β : Type} {f : α → OH → R β} : (R.bad : R α).bnd f = .bad := rfl
abbrev Ev := List (Option D)
inductive RS where
  | nx (s : Ev) (oh : OH)
  | rt (d : D) (oh : OH)
  | bk (s : Ev) (oh : OH)
  | ct (s : Ev) (oh : OH)
  | exc (c : Str) (w : D) (s : Ev) (oh : OH)
  | bad
/-! ### what they stand for -/
/-- a list of the written part -/
def KLst (K : PySem.W.Frag) (a : Addr) (xs : List V) : Prop := ∃ (o : Obj) (its : Array Value) (n : Nat), K.lookup a = some o ∧ o.cls = .type "list" ∧ o.dict = none ∧ o.data = .seq its n ∧ its.size ≤ sizeLine ∧ Vals xs its.toList
/-- a tracked tuple -/
abbrev TpT (_ : PySem.W.Frag) (H : Hp) (a : Addr) (xs : List V) : Prop := H a = some (.tup xs)
section
variable (K : PySem.W.Frag) (H : Hp) (ρ : List Addr)
mutual
def Rep : D → V → Prop
  | .non, v => v = .non
  | .bl b, v => v = .bl b
  | .int i, v => v = .int i
  | .str s, v => v = .str s
  | .tup l, v => ∃ a xs, v = .ref a ∧ TpT K H a xs ∧ RepL l xs
  | .ref n, v => ∃ a, v = .ref a ∧ ρ[n]? = some a
  | .adr a, v => v = .ref a
def RepL : List D → List V → Prop
  | [], vs => vs = []
  | d :: ds, vs => ∃ v vs', vs = v :: vs' ∧ Rep d v ∧ RepL ds vs'
end
/-- the pairs of a dict -/
def RepK : List (List Int × D) → List (List Key × V) → Prop
  | [], ws => ws = []
  | p :: r, ws => ∃ v ws', ws = (p.1.map .inl, v) :: ws' ∧ Rep K H ρ p.2 v ∧ RepK r ws'
def RepC : Cell → Addr → Prop
  | .lst l, a => ∃ xs, H a = some (.lst xs) ∧ RepL K H ρ l xs
  | .ro l, a => ∃ xs, ((∃ o, H a = some (.frz o (.lst xs))) ∨ KLst K a xs) ∧ RepL K H ρ l xs
  | .tbls T, a => (∃ ps, H a = some (.tbl ps)) ∧ ∃ p ∈ T, p.1 = a
  | .dct l, a => ∃ ws, H a = some (.dT ws) ∧ RepK K H ρ l ws
  | .fdc l, a => ∃ ws o, H a = some (.frz o (.dT ws)) ∧ RepK K H ρ l ws
def RepS : Ev → L2.St → Prop
  | [], σ => σ = []
  | none :: s, σ => ∃ v σ', σ = v :: σ' ∧ RepS s σ'
  | some d :: s, σ => ∃ v σ', σ = some v :: σ' ∧ Rep K H ρ d v ∧ RepS s σ'
structure RH (oh : OH) : Prop where
  len : ρ.length = oh.length
  nd : ∀ (m n : Nat) (a : Addr) (c c' : Cell), oh[m]? = some c → oh[n]? = some c' → c.own = true → c'.own = true → ρ[m]? = some a → ρ[n]? = some a → m = n
  cell : ∀ (n : Nat) (c : Cell) (a : Addr), oh[n]? = some c → ρ[n]? = some a → RepC K H ρ c a
  tab : ∀ T, oh[1]? = some (.tbls T) → LamX.Tabs T H
  tab1 : ∀ (n : Nat) T, oh[n]? = some (.tbls T) → n = 1
end
structure Later (K : PySem.W.Frag) (ρ : List Addr) (H : Hp) (ρ' : List Addr) (H' : Hp) : Prop where
  pre : ρ <+: ρ'
  tup : ∀ (a : Addr) (xs : List V), H a = some (.tup xs) → H' a = some (.tup xs)
  frz : ∀ (a : Addr) (o : Obj) (u : HO), H a = some (.frz o u) → H' a = some (.frz o u)
section
variable {K : PySem.W.Frag} {H H1 H2 : Hp} {ρ ρ1 ρ2 : List Addr}
theorem Later.refl : Later K ρ H ρ H := ⟨List.prefix_rfl, fun _ _ h => h, fun _ _ _ h => h⟩
theorem Later.trans (a : Later K ρ H ρ1 H1) (b : Later K ρ1 H1 ρ2 H2) : Later K ρ H ρ2 H2 := ⟨a.pre.trans b.pre, fun x xs h => b.tup _ _ (a.tup _ _ h), fun x o u h => b.frz _ _ _ (a.frz _ _ _ h)⟩
theorem pre_get {ρ ρ1 : List Addr} (h : ρ <+: ρ1) {n : Nat} {a : Addr} (e : ρ[n]? = some a) : ρ1[n]? = some a := by
  obtain ⟨t, rfl⟩ := h
  rw [List.getElem?_append_left]
  · exact e
  · exact (List.getElem?_eq_some_iff.mp e).1
mutual
theorem Rep.mono (L : Later K ρ H ρ1 H1) : ∀ (d : D) {v : V}, Rep K H ρ d v → Rep K H1 ρ1 d v
  | .non, _, h => by simpa only [Rep] using h
  | .bl _, _, h => by simpa only [Rep] using h
  | .int _, _, h => by simpa only [Rep] using h
  | .str _, _, h => by simpa only [Rep] using h
  | .tup l, _, h => by
    simp only [Rep] at h ⊢
    obtain ⟨a, xs, e, s, r⟩ := h
    exact ⟨a, xs, e, L.tup _ _ s, RepL.mono L l r⟩
  | .ref n, _, h => by
    simp only [Rep] at h ⊢
    obtain ⟨a, e, q⟩ := h
    exact ⟨a, e, pre_get L.pre q⟩
  | .adr _, _, h => by simpa only [Rep] using h
theorem RepL.mono (L : Later K ρ H ρ1 H1) : ∀ (ds : List D) {vs : List V}, RepL K H ρ ds vs → RepL K H1 ρ1 ds vs
  | [], _, h => by simpa only [RepL] using h
  | d :: ds, _, h => by
    simp only [RepL] at h ⊢
    obtain ⟨v, vs', e, r, t⟩ := h
    exact ⟨v, vs', e, Rep.mono L d r, RepL.mono L ds t⟩
end
theorem RepS.mono (L : Later K ρ H ρ1 H1) : ∀ (s : Ev) {σ : L2.St}, RepS K H ρ s σ → RepS K H1 ρ1 s σ
  | [], _, h => h
  | none :: s, _, h => by
    obtain ⟨v, σ', e, r⟩ := h
    exact ⟨v, σ', e, RepS.mono L s r⟩
  | some d :: s, _, h => by
    obtain ⟨v, σ', e, r, t⟩ := h
    exact ⟨v, σ', e, Rep.mono L d r, RepS.mono L s t⟩
theorem RepK.mono (L : Later K ρ H ρ1 H1) : ∀ (l : List (List Int × D)) {ws : List (List Key × V)}, RepK K H ρ l ws → RepK K H1 ρ1 l ws
  | [], _, h => h
  | p :: l, _, h => by
    obtain ⟨v, ws', e, r, t⟩ := h
    exact ⟨v, ws', e, Rep.mono L p.2 r, RepK.mono L l t⟩
theorem RepK.length : ∀ {l : List (List Int × D)} {ws : List (List Key × V)}, RepK K H ρ l ws → ws.length = l.length
  | [], _, h => by
    simp only [RepK] at h
    rw [h]
    rfl
  | p :: l, _, h => by
    obtain ⟨v, ws', rfl, r, t⟩ := h
    rw [List.length_cons, List.length_cons, RepK.length t]
theorem RepS.get : ∀ {s : Ev} {σ : L2.St} {i : Nat} {d : D}, RepS K H ρ s σ → s[i]? = some (some d) → ∃ v, σ[i]? = some (some v) ∧ Rep K H ρ d v
  | [], _, _, _, _, e => by simp at e
  | none :: s, _, 0, _, _, e => by simp at e
  | some x :: s, _, 0, d, h, e => by
    obtain ⟨v, σ', rfl, r, _⟩ := h
    simp at e
    subst e
    exact ⟨v, rfl, r⟩
  | none :: s, _, i + 1, d, h, e => by
    obtain ⟨v, σ', rfl, t⟩ := h
    exact RepS.get (i := i) t e
  | some x :: s, _, i + 1, d, h, e => by
    obtain ⟨v, σ', rfl, r, t⟩ := h
    exact RepS.get (i := i) t e
theorem RepS.set {d : D} {v : V} (r : Rep K H ρ d v) : ∀ {s : Ev} {σ : L2.St} (i : Nat), RepS K H ρ s σ → RepS K H ρ (s.set i (some d)) (σ.set i (some v))
  | [], _, _, h => by
    simp only [RepS] at h
    subst h
    exact rfl
  | none :: s, _, 0, h => by
    obtain ⟨v', σ', rfl, t⟩ := h
    exact ⟨v, σ', rfl, r, t⟩
  | some x :: s, _, 0, h => by
    obtain ⟨v', σ', rfl, _, t⟩ := h
    exact ⟨v, σ', rfl, r, t⟩
  | none :: s, _, i + 1, h => by
    obtain ⟨v', σ', rfl, t⟩ := h
    exact ⟨v', σ'.set i (some v), rfl, RepS.set r i t⟩
  | some x :: s, _, i + 1, h => by
    obtain ⟨v', σ', rfl, q, t⟩ := h
    exact ⟨v', σ'.set i (some v), rfl, q, RepS.set r i t⟩
theorem RepL.length : ∀ {ds : List D} {vs : List V}, RepL K H ρ ds vs → ds.length = vs.length
  | [], _, h => by
    simp only [RepL] at h
    subst h; rfl
  | d :: ds, _, h => by
    simp only [RepL] at h
    obtain ⟨v, vs', rfl, r, t⟩ := h
    show ds.length + 1 = vs'.length + 1
    rw [RepL.length t]
theorem RepL.get : ∀ {ds : List D} {vs : List V} {i : Nat} {d : D}, RepL K H ρ ds vs → ds[i]? = some d → ∃ v, vs[i]? = some v ∧ Rep K H ρ d v
  | [], _, _, _, _, e => by simp at e
  | x :: ds, _, 0, d, h, e => by
    simp only [RepL] at h
    obtain ⟨v, vs', rfl, r, t⟩ := h
    simp at e; subst e
    exact ⟨v, rfl, r⟩
  | x :: ds, _, i + 1, d, h, e => by
    simp only [RepL] at h
    obtain ⟨v, vs', rfl, r, t⟩ := h
    exact RepL.get (i := i) t e
theorem RepL.append : ∀ {ds es : List D} {vs ws : List V}, RepL K H ρ ds vs → RepL K H ρ es ws → RepL K H ρ (ds ++ es) (vs ++ ws)
  | [], _, _, _, h, h2 => by
    simp only [RepL] at h
    subst h; exact h2
  | x :: ds, _, _, _, h, h2 => by
    simp only [RepL] at h
    obtain ⟨v, vs', rfl, r, t⟩ := h
    show RepL K H ρ (x :: (ds ++ _)) _
    simp only [RepL]
    exact ⟨v, _, rfl, r, RepL.append t h2⟩
theorem RepL.set {d : D} {v : V} (r : Rep K H ρ d v) : ∀ {ds : List D} {vs : List V} (i : Nat), RepL K H ρ ds vs → RepL K H ρ (ds.set i d) (vs.set i v)
  | [], _, _, h => by
    simp only [RepL] at h
    subst h; simp [RepL]
  | x :: ds, _, 0, h => by
    simp only [RepL] at h
    obtain ⟨v', vs', rfl, _, t⟩ := h
    show RepL K H ρ (d :: ds) _
    simp only [RepL]
    exact ⟨v, _, rfl, r, t⟩
  | x :: ds, _, i + 1, h => by
    simp only [RepL] at h
    obtain ⟨v', vs', rfl, q, t⟩ := h
    show RepL K H ρ (x :: ds.set i d) _
    simp only [RepL]
    exact ⟨v', _, rfl, q, RepL.set r i t⟩
theorem RepL.take : ∀ {ds : List D} {vs : List V} (i : Nat), RepL K H ρ ds vs → RepL K H ρ (ds.take i) (vs.take i)
  | _, _, 0, _ => by simp [RepL]
  | [], _, i + 1, h => by
    simp only [RepL] at h
    subst h; simp [RepL]
  | x :: ds, _, i + 1, h => by
    simp only [RepL] at h
    obtain ⟨v', vs', rfl, q, t⟩ := h
    show RepL K H ρ (x :: ds.take i) _
    simp only [RepL]
    exact ⟨v', _, rfl, q, RepL.take i t⟩
theorem RepL.drop : ∀ {ds : List D} {vs : List V} (i : Nat), RepL K H ρ ds vs → RepL K H ρ (ds.drop i) (vs.drop i)
  | _, _, 0, h => h
  | [], _, i + 1, h => by
    simp only [RepL] at h
    subst h; simp [RepL]
  | x :: ds, _, i + 1, h => by
    simp only [RepL] at h
    obtain ⟨v', vs', rfl, q, t⟩ := h
    exact RepL.drop i t
theorem Later.rep (L : Later K ρ H ρ1 H1) {d : D} {v : V} (h : Rep K H ρ d v) : Rep K H1 ρ1 d v := Rep.mono L d h
theorem Later.repl (L : Later K ρ H ρ1 H1) {d : List D} {v : List V} (h : RepL K H ρ d v) : RepL K H1 ρ1 d v := RepL.mono L d h
theorem Later.reps (L : Later K ρ H ρ1 H1) {d : Ev} {v : L2.St} (h : RepS K H ρ d v) : RepS K H1 ρ1 d v := RepS.mono L d h
/-- a new object that is no own cell -/
theorem Later.fresh {p : Addr} {o : HO} (hp : H p = none) : Later K ρ H ρ (upd H p o) :=
  ⟨List.prefix_rfl, fun a xs h => by rw [upd_ne (ne_of_none h hp)]; exact h, fun a ob u h => by rw [upd_ne (ne_of_none h hp)]; exact h⟩
/-- what may be written -/
def Wr : HO → Prop
  | .lst _ => True
  | .dT _ => True
  | _ => False
/-- a list or a dict is written -/
theorem Later.writeW {p : Addr} {u o : HO} (hp : H p = some u) (w : Wr u) : Later K ρ H ρ (upd H p o) :=
  ⟨List.prefix_rfl, fun a xs h => by rw [upd_ne (ne_of h hp (fun z => by rw [← z] at w; exact w))]; exact h, fun a ob v h => by rw [upd_ne (ne_of h hp (fun z => by rw [← z] at w; exact w))]; exact h⟩
theorem Later.write {p : Addr} {xs : List V} {o : HO} (hp : H p = some (.lst xs)) : Later K ρ H ρ (upd H p o) := .writeW hp True.intro
theorem tabs_writeW {T : List (Addr × Str)} {p : Addr} {u o : HO} (hp : H p = some u) (w : Wr u) (t : LamX.Tabs T H) : LamX.Tabs T (upd H p o) := fun q hq => by
  obtain ⟨ps, h1, h2, h3⟩ := t q hq
  refine ⟨ps, by rw [upd_ne (ne_of h1 hp (fun z => by rw [← z] at w; exact w))]; exact h1, h2, fun pos cv hc => ?_⟩
  obtain ⟨c, e1, e2⟩ := h3 pos cv hc
  refine ⟨c, e1, ?_⟩
  rw [upd_ne (ne_of e2 hp (fun z => by rw [← z] at w; unfold LamX.CodeO at w; exact w))]
  exact e2
theorem tabs_write {T : List (Addr × Str)} {p : Addr} {xs : List V} {o : HO} (hp : H p = some (.lst xs)) (t : LamX.Tabs T H) : LamX.Tabs T (upd H p o) := fun q hq => by
  obtain ⟨ps, h1, h2, h3⟩ := t q hq
  refine ⟨ps, by rw [upd_ne (ne_of h1 hp (fun z => nomatch z))]; exact h1, h2, fun pos cv hc => ?_⟩
  obtain ⟨c, e1, e2⟩ := h3 pos cv hc
  refine ⟨c, e1, ?_⟩
  rw [upd_ne (ne_of e2 hp (fun z => by unfold LamX.CodeO at z; cases z))]
  exact e2
theorem Later.repk (L : Later K ρ H ρ1 H1) {l : List (List Int × D)} {ws : List (List Key × V)} (h : RepK K H ρ l ws) : RepK K H1 ρ1 l ws := RepK.mono L l h
theorem RepC.monoW (L : Later K ρ H ρ1 H1) {c : Cell} {a : Addr} (h : RepC K H ρ c a) (hh : ∀ u, H a = some u → Wr u → H1 a = some u) (hp : ∀ ps, H a = some (.tbl ps) → ∃ qs, H1 a = some (.tbl qs)) : RepC K H1 ρ1 c a := by
  cases c with
  | lst l =>
    obtain ⟨xs, e, r⟩ := h
    exact ⟨xs, hh _ e True.intro, L.repl r⟩
  | ro l =>
    obtain ⟨xs, e, r⟩ := h
    refine ⟨xs, ?_, L.repl r⟩
    rcases e with ⟨o, e⟩ | e
    · exact .inl ⟨o, L.frz _ _ _ e⟩
    · exact .inr e
  | tbls T => exact ⟨hp _ h.1.choose_spec, h.2⟩
  | dct l =>
    obtain ⟨ws, e, r⟩ := h
    exact ⟨ws, hh _ e True.intro, L.repk r⟩
  | fdc l =>
    obtain ⟨ws, o, e, r⟩ := h
    exact ⟨ws, o, L.frz _ _ _ e, L.repk r⟩
theorem tabs_fresh {T : List (Addr × Str)} {p : Addr} {o : HO} (hp : H p = none) (t : LamX.Tabs T H) : LamX.Tabs T (upd H p o) := t.ext fun b u e => by rw [upd_ne (ne_of_none e hp)]; exact e
/-- the cells stand through a new object -/
theorem RH.fresh {oh : OH} {p : Addr} {o : HO} (h : RH K H ρ oh) (hp : H p = none) : RH K (upd H p o) ρ oh :=
  ⟨h.len, h.nd, fun n c a e1 e2 => (h.cell n c a e1 e2).monoW (.fresh hp) (fun u e _ => by rw [upd_ne (ne_of_none e hp)]; exact e) fun ps e => ⟨ps, by rw [upd_ne (ne_of_none e hp)]; exact e⟩, fun T e => tabs_fresh hp (h.tab T e), h.tab1⟩
theorem RepC.sq {l : List D} {a : Addr} (h : RepC K H ρ (.ro l) a) : ∃ xs, SqL K H a xs ∧ RepL K H ρ l xs := by
  obtain ⟨xs, e, r⟩ := h
  rcases e with e | e
  · exact ⟨xs, .inl (.inr e), r⟩
  · exact ⟨xs, .inr e, r⟩
theorem RepC.there {c : Cell} {a : Addr} (h : RepC K H ρ c a) (ho : c.own = true) : ∃ u, H a = some u := by
  cases c with
  | lst l => exact ⟨_, h.choose_spec.1⟩
  | dct l => exact ⟨_, h.choose_spec.1⟩
  | fdc l => obtain ⟨ws, o, e, _⟩ := h; exact ⟨_, e⟩
  | ro l => cases ho
  | tbls T => cases ho
/-- a new own cell: the address is told -/
theorem RH.pushC {oh : OH} {p : Addr} {u : HO} {c0 : Cell} (h : RH K H ρ oh) (hp : H p = none) (ho : c0.own = true) (r : Later K ρ H (ρ ++ [p]) (upd H p u) → RepC K (upd H p u) (ρ ++ [p]) c0 p) :
    RH K (upd H p u) (ρ ++ [p]) (oh ++ [c0]) ∧ Later K ρ H (ρ ++ [p]) (upd H p u) ∧ (ρ ++ [p])[oh.length]? = some p := by
  have L1 : Later K ρ H ρ (upd H p u) := .fresh hp
  have L2 : Later K ρ (upd H p u) (ρ ++ [p]) (upd H p u) := ⟨List.prefix_append _ _, fun _ _ h => h, fun _ _ _ h => h⟩
  have L := L1.trans L2
  have gl : (ρ ++ [p])[oh.length]? = some p := by
    rw [← h.len]; simp
  have nt : ∀ T, c0 ≠ .tbls T := fun T e => by rw [e] at ho; cases ho
  refine ⟨⟨by simp [h.len], ?_, fun n c a e1 e2 => ?_, fun T e => ?_, fun n T e => ?_⟩, L, gl⟩
  · intro m n b c1 c2 e1 e2 o1 o2 e3 e4
    have old : ∀ (m : Nat) (c1 : Cell), c1.own = true → (oh ++ [c0])[m]? = some c1 → (ρ ++ [p])[m]? = some b → (m < oh.length ∧ oh[m]? = some c1 ∧ ρ[m]? = some b ∧ b ≠ p) ∨ (m = oh.length ∧ b = p) := fun m c1 o1 e1 e3 => by
      by_cases hm : m < oh.length
      · rw [List.getElem?_append_left hm] at e1
        rw [List.getElem?_append_left (by rw [h.len]; exact hm)] at e3
        obtain ⟨u', e⟩ := (h.cell m _ b e1 e3).there o1
        exact .inl ⟨hm, e1, e3, ne_of_none e hp⟩
      · have hm' := (List.getElem?_eq_some_iff.mp e1).1
        simp at hm'
        have em : m = oh.length := by omega
        subst em
        rw [gl] at e3
        cases e3
        exact .inr ⟨rfl, rfl⟩
    rcases old m c1 o1 e1 e3 with ⟨h1, k1, k2, k3⟩ | ⟨h1, k1⟩ <;> rcases old n c2 o2 e2 e4 with ⟨h2, k4, k5, k6⟩ | ⟨h2, k4⟩
    · exact h.nd m n b _ _ k1 k4 o1 o2 k2 k5
    · exact absurd k4 k3
    · exact absurd k1 k6
    · omega
  · by_cases hn : n < oh.length
    · rw [List.getElem?_append_left hn] at e1
      rw [List.getElem?_append_left (by rw [h.len]; exact hn)] at e2
      exact (h.cell n c a e1 e2).monoW L (fun u e _ => by rw [upd_ne (ne_of_none e hp)]; exact e) fun ps e => ⟨ps, by rw [upd_ne (ne_of_none e hp)]; exact e⟩
    · have hn' : n = oh.length := by
        have := (List.getElem?_eq_some_iff.mp e1).1
        simp at this
        omega
      subst hn'
      rw [gl] at e2
      cases e2
      simp at e1
      subst e1
      exact r L
  · refine tabs_fresh hp (h.tab T ?_)
    by_cases hn : 1 < oh.length
    · rw [List.getElem?_append_left hn] at e
      exact e
    · have hn' := (List.getElem?_eq_some_iff.mp e).1
      simp at hn'
      have e1 : oh.length = 1 := by omega
      rw [List.getElem?_append_right (by omega), e1] at e
      simp at e
      exact absurd e (nt T)
  · by_cases hn : n < oh.length
    · rw [List.getElem?_append_left hn] at e
      exact h.tab1 n T e
    · have hn' := (List.getElem?_eq_some_iff.mp e).1
      simp at hn'
      have e1 : n = oh.length := by omega
      rw [List.getElem?_append_right (by omega), e1] at e
      simp at e
      exact absurd e (nt T)
theorem RH.push {oh : OH} {p : Addr} {xs : List V} {l : List D} (h : RH K H ρ oh) (hp : H p = none) (r : RepL K H ρ l xs) :
    RH K (upd H p (.lst xs)) (ρ ++ [p]) (oh ++ [.lst l]) ∧ Later K ρ H (ρ ++ [p]) (upd H p (.lst xs)) ∧ (ρ ++ [p])[oh.length]? = some p :=
  h.pushC hp rfl fun L => ⟨xs, upd_same, L.repl r⟩
theorem RH.pushD {oh : OH} {p : Addr} {ws : List (List Key × V)} {l : List (List Int × D)} (h : RH K H ρ oh) (hp : H p = none) (r : RepK K H ρ l ws) :
    RH K (upd H p (.dT ws)) (ρ ++ [p]) (oh ++ [.dct l]) ∧ Later K ρ H (ρ ++ [p]) (upd H p (.dT ws)) ∧ (ρ ++ [p])[oh.length]? = some p :=
  h.pushC hp rfl fun L => ⟨ws, upd_same, L.repk r⟩
/-- an own cell is changed: Later is given -/
theorem RH.writeC {oh : OH} {n : Nat} {p : Addr} {c0 c1 : Cell} {u v : HO} {ρ0 : List Addr} {H0 : Hp} (h : RH K H ρ oh) (e : oh[n]? = some c0) (o0 : c0.own = true) (o1 : c1.own = true) (ep : ρ[n]? = some p) (hp : H p = some u) (nt : ∀ ps, u ≠ .tbl ps) (hT : ∀ T, LamX.Tabs T H → LamX.Tabs T (upd H p v))
    (mo : ∀ d w, Rep K H ρ d w → Rep K (upd H p v) ρ d w) (mfr : ∀ a o x, a ≠ p → H a = some (.frz o x) → upd H p v a = some (.frz o x)) (hro : ∀ o x, u ≠ .frz o (.lst x)) (r : RepC K (upd H p v) ρ c1 p) :
    RH K (upd H p v) ρ (oh.set n c1) := by
  have nl : ∀ {d : List D} {w : List V}, RepL K H ρ d w → RepL K (upd H p v) ρ d w := by
    intro d
    induction d with
    | nil => exact fun h => h
    | cons x d ih =>
      intro w h
      simp only [RepL] at h ⊢
      obtain ⟨v', w', e, r, t⟩ := h
      exact ⟨v', w', e, mo _ _ r, ih t⟩
  have nk : ∀ {d : List (List Int × D)} {w : List (List Key × V)}, RepK K H ρ d w → RepK K (upd H p v) ρ d w := by
    intro d
    induction d with
    | nil => exact fun h => h
    | cons x d ih =>
      rintro w ⟨v', w', e, r, t⟩
      exact ⟨v', w', e, mo _ _ r, ih t⟩
  have lt := (List.getElem?_eq_some_iff.mp e).1
  have own : ∀ (m : Nat) (c : Cell), c.own = true → (oh.set n c1)[m]? = some c → ∃ c', oh[m]? = some c' ∧ c'.own = true := fun m c oc e1 => by
    by_cases hm : m = n
    · subst hm; exact ⟨_, e, o0⟩
    · rw [List.getElem?_set_ne (Ne.symm hm)] at e1
      exact ⟨_, e1, oc⟩
  refine ⟨by simp [h.len], fun m k b l1 l2 e1 e2 q1 q2 e3 e4 => by
    obtain ⟨l3, k1, k3⟩ := own m l1 q1 e1
    obtain ⟨l4, k2, k4⟩ := own k l2 q2 e2
    exact h.nd m k b _ _ k1 k2 k3 k4 e3 e4, fun m c a e1 e2 => ?_, fun T eT => hT T (h.tab T ?_), fun m T eT => h.tab1 m T ?_⟩
  rotate_left
  · by_cases hn : n = 1
    · subst hn
      rw [List.getElem?_set_self lt] at eT
      cases eT
      cases o1
    · rw [List.getElem?_set_ne hn] at eT
      exact eT
  · by_cases hn : n = m
    · subst hn
      rw [List.getElem?_set_self lt] at eT
      cases eT
      cases o1
    · rw [List.getElem?_set_ne hn] at eT
      exact eT
  by_cases hm : m = n
  · subst hm
    rw [ep] at e2
    cases e2
    rw [List.getElem?_set_self lt] at e1
    cases e1
    exact r
  · rw [List.getElem?_set_ne (Ne.symm hm)] at e1
    have ne : c.own = true → a ≠ p := fun oc z => by
      subst z
      exact hm (h.nd m n a _ _ e1 e oc o0 e2 ep)
    have hc := h.cell m _ a e1 e2
    cases c with
    | lst l1 =>
      obtain ⟨ys, ey, r1⟩ := hc
      exact ⟨ys, by rw [upd_ne (ne rfl)]; exact ey, nl r1⟩
    | dct l1 =>
      obtain ⟨ys, ey, r1⟩ := hc
      exact ⟨ys, by rw [upd_ne (ne rfl)]; exact ey, nk r1⟩
    | fdc l1 =>
      obtain ⟨ys, o, ey, r1⟩ := hc
      exact ⟨ys, o, by rw [upd_ne (ne rfl)]; exact ey, nk r1⟩
    | ro l1 =>
      obtain ⟨ys, ey, r1⟩ := hc
      refine ⟨ys, ?_, nl r1⟩
      rcases ey with ⟨o, ey⟩ | ey
      · exact .inl ⟨o, mfr _ _ _ (fun z => by subst z; rw [hp] at ey; exact hro _ _ (Option.some.inj ey)) ey⟩
      · exact .inr ey
    | tbls T =>
      obtain ⟨⟨ps, ep'⟩, q⟩ := hc
      exact ⟨⟨ps, by rw [upd_ne (ne_of ep' hp (fun z => nt _ z.symm))]; exact ep'⟩, q⟩
/-- an own cell is written -/
theorem RH.writeW {oh : OH} {n : Nat} {p : Addr} {c0 c1 : Cell} {u v : HO} (h : RH K H ρ oh) (e : oh[n]? = some c0) (o0 : c0.own = true) (o1 : c1.own = true) (ep : ρ[n]? = some p) (hp : H p = some u) (w : Wr u) (r : Later K ρ H ρ (upd H p v) → RepC K (upd H p v) ρ c1 p) :
    RH K (upd H p v) ρ (oh.set n c1) ∧ Later K ρ H ρ (upd H p v) := by
  have L : Later K ρ H ρ (upd H p v) := .writeW hp w
  exact ⟨h.writeC (ρ0 := ρ) (H0 := H) e o0 o1 ep hp (fun ps z => by rw [z] at w; exact w) (fun T t => tabs_writeW hp w t) (fun d x r => L.rep r) (fun a o x _ q => L.frz _ _ _ q) (fun o x z => by rw [z] at w; exact w) (r L), L⟩
theorem RH.write {oh : OH} {n : Nat} {p : Addr} {l0 l : List D} {xs0 xs : List V} (h : RH K H ρ oh) (e : oh[n]? = some (.lst l0)) (ep : ρ[n]? = some p) (ex : H p = some (.lst xs0)) (r : RepL K H ρ l xs) :
    RH K (upd H p (.lst xs)) ρ (oh.set n (.lst l)) ∧ Later K ρ H ρ (upd H p (.lst xs)) := h.writeW e rfl rfl ep ex True.intro fun L => ⟨xs, upd_same, L.repl r⟩
theorem RH.writeD {oh : OH} {n : Nat} {p : Addr} {l0 l : List (List Int × D)} {xs0 xs : List (List Key × V)} (h : RH K H ρ oh) (e : oh[n]? = some (.dct l0)) (ep : ρ[n]? = some p) (ex : H p = some (.dT xs0)) (r : RepK K H ρ l xs) :
    RH K (upd H p (.dT xs)) ρ (oh.set n (.dct l)) ∧ Later K ρ H ρ (upd H p (.dT xs)) := h.writeW e rfl rfl ep ex True.intro fun L => ⟨xs, upd_same, L.repk r⟩
end
/-! ### ends -/
section
variable (K : PySem.W.Frag) (mg : Str → Option Value)
def Out {α : Type} (W : XK) (ρ : List Addr) (H : Hp) (r : R α) (T : α → OH → List Addr → Hp → Prop) : Prop := match r with
  | .ok a oh => ∀ ρ' H', Later K ρ H ρ' H' → RH K H' ρ' oh → T a oh ρ' H'
  | .exc c w oh => ∀ ρ' H' dd v C, Later K ρ H ρ' H' → RH K H' ρ' oh → Rep K H' ρ' w v → mg c = some (.ref C) → H' dd = some (.xd [("what", v)]) → W (.ref C) (some dd) H'
  | .bad => False
def OutS (W : WX) (ρ : List Addr) (H : Hp) (r : RS) (E : Ends) : Prop := match r with
  | .nx s oh => ∀ ρ' H' σ', Later K ρ H ρ' H' → RH K H' ρ' oh → RepS K H' ρ' s σ' → E.nx σ' H'
  | .rt d oh => ∀ ρ' H' v, Later K ρ H ρ' H' → RH K H' ρ' oh → Rep K H' ρ' d v → E.rt v H'
  | .bk s oh => ∀ ρ' H' σ', Later K ρ H ρ' H' → RH K H' ρ' oh → RepS K H' ρ' s σ' → E.bk σ' H'
  | .ct s oh => ∀ ρ' H' σ', Later K ρ H ρ' H' → RH K H' ρ' oh → RepS K H' ρ' s σ' → E.ct σ' H'
  | .exc c w s oh => ∀ ρ' H' σ' dd v C, Later K ρ H ρ' H' → RH K H' ρ' oh → RepS K H' ρ' s σ' → Rep K H' ρ' w v → mg c = some (.ref C) → H' dd = some (.xd [("what", v)]) → W (.ref C) (some dd) σ' H'
  | .bad => False
end
section
variable {K : PySem.W.Frag} {mg : Str → Option Value} {W : XK} {ρ ρ1 : List Addr} {H H1 : Hp}
theorem Out.later {α : Type} {r : R α} {T : α → OH → List Addr → Hp → Prop} (h : Out K mg W ρ H r T) (L : Later K ρ H ρ1 H1) : Out K mg W ρ1 H1 r T := by
  cases r with
  | ok a oh => exact fun ρ' H' L' => h ρ' H' (L.trans L')
  | exc c w oh => exact fun ρ' H' dd v C L' => h ρ' H' dd v C (L.trans L')
  | bad => exact h
theorem Out.imp {α : Type} {r : R α} {T T' : α → OH → List Addr → Hp → Prop} (h : Out K mg W ρ H r T) (f : ∀ a oh ρ' H', Later K ρ H ρ' H' → RH K H' ρ' oh → T a oh ρ' H' → T' a oh ρ' H') : Out K mg W ρ H r T' := by
  cases r with
  | ok a oh => exact fun ρ' H' L' rh => f _ _ _ _ L' rh (h ρ' H' L' rh)
  | exc c w oh => exact h
  | bad => exact h
theorem Out.bnd {α β : Type} {r : R α} {f : α → OH → R β} {T : β → OH → List Addr → Hp → Prop} (h : Out K mg W ρ H (r.bnd f) T) :
    Out K mg W ρ H r (fun a oh ρ' H' => RH K H' ρ' oh ∧ Later K ρ H ρ' H' ∧ Out K mg W ρ' H' (f a oh) T) := by
  cases r with
  | ok a oh => exact fun ρ' H' L' rh => ⟨rh, L', Out.later (r := f a oh) h L'⟩
  | exc c w oh => exact h
  | bad => exact h
theorem OutS.later {W : WX} {r : RS} {E : Ends} (h : OutS K mg W ρ H r E) (L : Later K ρ H ρ1 H1) : OutS K mg W ρ1 H1 r E := by
  cases r with
  | nx s oh => exact fun ρ' H' σ' L' => h ρ' H' σ' (L.trans L')
  | rt d oh => exact fun ρ' H' σ' L' => h ρ' H' σ' (L.trans L')
  | bk s oh => exact fun ρ' H' σ' L' => h ρ' H' σ' (L.trans L')
  | ct s oh => exact fun ρ' H' σ' L' => h ρ' H' σ' (L.trans L')
  | exc c w s oh => exact fun ρ' H' σ' dd v C L' => h ρ' H' σ' dd v C (L.trans L')
  | bad => exact h
end
/-! ### readings that are programs -/
abbrev TV := D → OH → List Addr → Hp → Prop
def tE (X : Cx) (W : WX) (m : Ev → M D) : TE := fun σ H Q => ∃ ρ oh s, RH X.K H ρ oh ∧ RepS X.K H ρ s σ ∧
  Out X.K X.mg (fun c d H' => W c d σ H') ρ H (m s oh) fun d _ ρ' H' => ∀ v, Rep X.K H' ρ' d v → Q v H'
def tT (X : Cx) (W : WX) (m : Ev → M Bool) : TT := fun σ H Q => ∃ ρ oh s, RH X.K H ρ oh ∧ RepS X.K H ρ s σ ∧
  Out X.K X.mg (fun c d H' => W c d σ H') ρ H (m s oh) fun b _ ρ' H' => Q b H'
def tA (X : Cx) (W : WX) (m : Ev → M (List D)) : TA := fun σ H Q => ∃ ρ oh s, RH X.K H ρ oh ∧ RepS X.K H ρ s σ ∧
  Out X.K X.mg (fun c d H' => W c d σ H') ρ H (m s oh) fun ds _ ρ' H' => ∀ vs, RepL X.K H' ρ' ds vs → Q vs H'
def tS (X : Cx) (W : WX) (m : Ev → OH → RS) : TS := fun D σ H => ∃ ρ oh s, RH X.K H ρ oh ∧ RepS X.K H ρ s σ ∧ OutS X.K X.mg W ρ H (m s oh) D
abbrev RE (X : Cx) (W : WX) (e : Expr) (m : Ev → M D) : Prop := PE X e (tE X W m)
abbrev RT (X : Cx) (W : WX) (e : Expr) (m : Ev → M Bool) : Prop := PT X e (tT X W m)
abbrev RA (X : Cx) (W : WX) (e : List Expr) (m : Ev → M (List D)) : Prop := PA X e (tA X W m)
abbrev RSt (X : Cx) (W : WX) (e : Stmt) (m : Ev → OH → RS) : Prop := PS X e (tS X W m)
abbrev RSs (X : Cx) (W : WX) (e : List Stmt) (m : Ev → OH → RS) : Prop := PSs X e (tS X W m)
end SK
namespace L2
open PySem PySem.Spec PyProof.Rows
theorem PE.imp {X : Cx} {e : Expr} {t t' : TE} (h : PE X e t) (f : ∀ σ H Q, t' σ H Q → t σ H Q) : PE X e t' := ⟨fun pins s σ H Q I q => h.run pins s σ H Q I (f _ _ _ q)⟩
theorem PT.imp {X : Cx} {e : Expr} {t t' : TT} (h : PT X e t) (f : ∀ σ H Q, t' σ H Q → t σ H Q) : PT X e t' := ⟨fun pins s σ H Q I q => h.run pins s σ H Q I (f _ _ _ q)⟩
theorem PW.imp {X : Cx} {e : Expr} {t t' : TT} (h : PW X e t) (f : ∀ σ H Q, t' σ H Q → t σ H Q) : PW X e t' := ⟨fun wh pins s σ H Q I q => h.run wh pins s σ H Q I (f _ _ _ q)⟩
theorem PA.imp {X : Cx} {e : List Expr} {t t' : TA} (h : PA X e t) (f : ∀ σ H Q, t' σ H Q → t σ H Q) : PA X e t' := ⟨fun pos pins s σ H Q I q => h.run pos pins s σ H Q I (f _ _ _ q)⟩
theorem PS.imp {X : Cx} {e : Stmt} {t t' : TS} (h : PS X e t) (f : ∀ D σ H, t' D σ H → t D σ H) : PS X e t' := ⟨fun pins s σ H D I q => h.run pins s σ H D I (f _ _ _ q)⟩
theorem PSs.imp {X : Cx} {e : List Stmt} {t t' : TS} (h : PSs X e t) (f : ∀ D σ H, t' D σ H → t D σ H) : PSs X e t' := ⟨fun pins s σ H D I q => h.run pins s σ H D I (f _ _ _ q)⟩
end L2
namespace SK
open PySem PySem.Spec PyProof.Rows L2
/-! ### names, constants -/
def eVar (i : Nat) : Ev → M D := fun s oh => match s[i]? with
  | some (some d) => .ok d oh
  | _ => .bad
def eC (d : D) : Ev → M D := fun _ oh => .ok d oh
section
variable {X : Cx} {W : WX}
theorem re_var {i : Nat} {x : Str} {pos : Pos} (hN : X.N[i]? = some x) (hv : Vis X.env.scope x) (hd : (x == ("__debug__" : Str)) = false := by decide) (hcd : (x == ("__classdict__" : Str)) = false := by decide) : RE X W (.Name x pos) (eVar i) := by
  refine (pe_var hN hv hd hcd).imp fun σ H Q ⟨ρ, oh, s, rh, rs, h⟩ => ?_
  unfold eVar at h
  cases e : s[i]? with
  | none => rw [e] at h; exact h.elim
  | some o =>
    cases o with
    | none => rw [e] at h; exact h.elim
    | some d =>
      rw [e] at h
      obtain ⟨v, ev, r⟩ := rs.get e
      exact ⟨v, ev, h ρ H .refl rh v r⟩
theorem tC_imp {v : V} {d : D} (hr : ∀ K H ρ, Rep K H ρ d v) : ∀ σ H Q, tE X W (eC d) σ H Q → tC v σ H Q := fun σ H Q ⟨ρ, oh, s, rh, rs, h⟩ => h ρ H .refl rh v (hr _ _ _)
theorem re_int {i j pos} : RE X W (.Constant (.int i) j pos) (eC (.int i)) := pe_int.imp (tC_imp fun _ _ _ => by simp [Rep])
theorem re_bl {b j pos} : RE X W (.Constant (.bool b) j pos) (eC (.bl b)) := pe_bl.imp (tC_imp fun _ _ _ => by simp [Rep])
theorem re_non {j pos} : RE X W (.Constant .none j pos) (eC .non) := pe_non.imp (tC_imp fun _ _ _ => by simp [Rep])
theorem re_str {x j pos} : RE X W (.Constant (.str x) j pos) (eC (.str x)) := pe_str.imp (tC_imp fun _ _ _ => by simp [Rep])
theorem re_gint {x : Str} {i : Int} {tk : Tok} {pos : Pos} (hm : X.mg x = some (.int i tk)) (hg : Gl X x) (hd : (x == ("__debug__" : Str)) = false := by decide) : RE X W (.Name x pos) (eC (.int i)) :=
  (pe_glob hg hm (v := .int i) ⟨tk, rfl⟩ hd).imp (tC_imp fun _ _ _ => by simp [Rep])
theorem re_gstr {x i : Str} {tk : Tok} {pos : Pos} (hm : X.mg x = some (.str i tk)) (hg : Gl X x) (hd : (x == ("__debug__" : Str)) = false := by decide) : RE X W (.Name x pos) (eC (.str i)) :=
  (pe_glob hg hm (v := .str i) ⟨tk, rfl⟩ hd).imp (tC_imp fun _ _ _ => by simp [Rep])
end
/-! ### operators of values -/
abbrev P1 := D → OH → Option (D × OH)
abbrev P2 := D → D → OH → Option (D × OH)
def lf (o : Option (D × OH)) : R D := match o with
  | some (d, oh) => .ok d oh
  | none => .bad
def e1 (p : P1) (a : Ev → M D) : Ev → M D := fun s oh => (a s oh).bnd fun x oh => lf (p x oh)
def e2 (p : P2) (a b : Ev → M D) : Ev → M D := fun s oh => (a s oh).bnd fun x oh => (b s oh).bnd fun y oh => lf (p x y oh)
/-- what is told of an answer -/
def OutP (X : Cx) (ρ : List Addr) (H : Hp) (o : Option (D × OH)) (Q : VK) : Prop := match o with
  | some (d, oh) => ∀ ρ' H' v, Later X.K ρ H ρ' H' → RH X.K H' ρ' oh → Rep X.K H' ρ' d v → Q v H'
  | none => False
theorem OutP.of {X : Cx} {W : XK} {ρ : List Addr} {H : Hp} {o : Option (D × OH)} {Q : VK} (h : Out X.K X.mg W ρ H (lf o) fun d _ ρ' H' => ∀ v, Rep X.K H' ρ' d v → Q v H') : OutP X ρ H o Q := by
  cases o with
  | none => exact h
  | some p =>
    obtain ⟨d, oh⟩ := p
    exact fun ρ' H' v L rh r => h ρ' H' L rh v r
def rP1 (X : Cx) (p : P1) : V → Hp → VK → Prop := fun x H Q => ∃ ρ oh dx, RH X.K H ρ oh ∧ Rep X.K H ρ dx x ∧ OutP X ρ H (p dx oh) Q
def rP (X : Cx) (p : P2) : R2 := fun x y H Q => ∃ ρ oh dx dy, RH X.K H ρ oh ∧ Rep X.K H ρ dx x ∧ Rep X.K H ρ dy y ∧ OutP X ρ H (p dx dy oh) Q
section
variable {X : Cx} {W : WX} {a b : Expr} {ma mb : Ev → M D} {pos : Pos}
theorem tOp_imp {p : P2} : ∀ σ H Q, tE X W (e2 p ma mb) σ H Q → tOp (rP X p) (tE X W ma) (tE X W mb) σ H Q := fun σ H Q ⟨ρ, oh, s, rh, rs, h⟩ => by
  refine ⟨ρ, oh, s, rh, rs, (Out.bnd h).imp fun dx oh1 ρ1 H1 L1 rh1 ⟨_, _, h1⟩ v rv => ?_⟩
  refine ⟨ρ1, oh1, s, rh1, L1.reps rs, (Out.bnd h1).imp fun dy oh2 ρ2 H2 L2 rh2 ⟨_, _, h2⟩ u ru => ?_⟩
  exact ⟨ρ2, oh2, dx, dy, rh2, L2.rep rv, ru, .of h2⟩
theorem re_op {op : Operator} {p : P2} (ho : OpR X (binaryOp op) (rP X p)) (ha : RE X W a ma) (hb : RE X W b mb) : RE X W (.BinOp a op b pos) (e2 p ma mb) := (pe_op ho ha hb).imp tOp_imp
theorem re_un {op : UnaryOp} {p : P1} (ho : UnR X (unaryOp op) (rP1 X p)) (ha : RE X W a ma) : RE X W (.UnaryOp op a pos) (e1 p ma) := (pe_un ho ha).imp fun σ H Q ⟨ρ, oh, s, rh, rs, h⟩ => by
  refine ⟨ρ, oh, s, rh, rs, (Out.bnd h).imp fun dx oh1 ρ1 H1 L1 rh1 ⟨_, _, h1⟩ v rv => ?_⟩
  exact ⟨ρ1, oh1, dx, rh1, rv, .of h1⟩
theorem re_cmp {op : CmpOp} {p : P2} (ho : OpR X (compareOp op) (rP X p)) (ha : RE X W a ma) (hb : RE X W b mb) (hm : behindInMarks op b = false) : RE X W (.Compare a [op] [b] pos) (e2 p ma mb) := (pe_cmpR ho ha hb hm).imp tOp_imp
theorem re_ix {p : P2} (hr : IxR X (rP X p)) (ha : RE X W a ma) (hb : RE X W b mb) (hs : PlainIx b := by intro _ _; rfl) : RE X W (.Subscript a b pos) (e2 p ma mb) := (pe_ix hr ha hb hs).imp tOp_imp
/-- tests -/
def tB1 (m : Ev → M D) : Ev → M Bool := fun s oh => (m s oh).bnd fun d oh => match d with
  | .bl b => .ok b oh
  | _ => .bad
theorem rt_cmp {op : CmpOp} {p : P2} (ho : OpR X (compareOp op) (rP X p)) (ha : RE X W a ma) (hb : RE X W b mb) (hm : behindInMarks op b = false) : RT X W (.Compare a [op] [b] pos) (tB1 (e2 p ma mb)) := by
  refine (pt_cmpR ho ha hb hm).imp fun σ H Q ⟨ρ, oh, s, rh, rs, h⟩ => ?_
  refine tOp_imp σ H _ ⟨ρ, oh, s, rh, rs, (Out.bnd h).imp fun d oh1 ρ1 H1 L1 rh1 ⟨_, _, h1⟩ v rv => ?_⟩
  cases d with
  | bl k =>
    simp only [Rep] at rv
    exact ⟨k, rv, h1 ρ1 H1 .refl rh1⟩
  | _ => exact h1.elim
theorem rt_val (h : RE X W a ma) (he : ∀ whole, isTrue a X.env whole = (do let v ← whole; standAt a.pos; holding [v] (truthy v)) := by intro _; rfl) : RT X W a (tB1 ma) := by
  refine (pt_val h he).imp fun σ H Q ⟨ρ, oh, s, rh, rs, h⟩ => ?_
  refine ⟨ρ, oh, s, rh, rs, (Out.bnd h).imp fun d oh1 ρ1 H1 L1 rh1 ⟨_, _, h1⟩ v rv => ?_⟩
  cases d with
  | bl k =>
    simp only [Rep] at rv
    exact ⟨k, rv, h1 ρ1 H1 .refl rh1⟩
  | _ => exact h1.elim
/-- truth of a value -/
def truD (oh : OH) : D → Option Bool
  | .non => some false
  | .bl b => some b
  | .int i => some (i != 0)
  | .str s => if s.length ≤ sizeLine then some (s.length != 0) else none
  | .tup l => some (!l.isEmpty)
  | .ref n => match oh[n]? with
    | some (.lst l) => some (!l.isEmpty)
    | some (.ro l) => some (!l.isEmpty)
    | _ => none
  | .adr _ => none
def tTru (m : Ev → M D) : Ev → M Bool := fun s oh => (m s oh).bnd fun d oh => match truD oh d with
  | some b => .ok b oh
  | none => .bad
theorem RepL.empty {K : PySem.W.Frag} {H : Hp} {ρ : List Addr} {l : List D} {vs : List V} (h : RepL K H ρ l vs) : vs.isEmpty = l.isEmpty := by
  have := h.length
  cases l <;> cases vs <;> simp_all
theorem rt_tru (h : RE X W a ma) (he : ∀ whole, isTrue a X.env whole = (do let v ← whole; standAt a.pos; holding [v] (truthy v)) := by intro _; rfl) : RT X W a (tTru ma) := by
  refine (pt_truth h he).imp fun σ H Q ⟨ρ, oh, s, rh, rs, h⟩ => ?_
  refine ⟨ρ, oh, s, rh, rs, (Out.bnd h).imp fun d oh1 ρ1 H1 L1 rh1 ⟨_, _, h1⟩ v rv => ?_⟩
  cases e : truD oh1 d with
  | none => simp only [e] at h1; exact h1.elim
  | some k =>
    simp only [e] at h1
    refine ⟨k, ?_, h1 ρ1 H1 .refl rh1⟩
    cases d with
    | non => simp only [Rep] at rv; subst rv; cases e; rfl
    | bl b => simp only [Rep] at rv; subst rv; cases e; rfl
    | int b => simp only [Rep] at rv; subst rv; cases e; rfl
    | str b =>
      simp only [Rep] at rv; subst rv
      simp only [truD] at e
      split at e
      · rename_i hz
        cases e
        exact ⟨hz, by cases hb : b.length <;> simp <;> omega⟩
      · cases e
    | tup l =>
      simp only [Rep] at rv
      obtain ⟨p, xs, rfl, hs, r⟩ := rv
      cases e
      exact .inr (.inl ⟨xs, SqT.of hs, by rw [r.empty]⟩)
    | ref n =>
      simp only [Rep] at rv
      obtain ⟨p, rfl, hp⟩ := rv
      simp only [truD] at e
      cases ec : oh1[n]? with
      | none => simp only [ec] at e; cases e
      | some c =>
        cases c with
        | lst l =>
          simp only [ec] at e
          cases e
          obtain ⟨xs, hx, r⟩ := rh1.cell n _ p ec hp
          exact .inl ⟨xs, SqL.of hx, by rw [r.empty]⟩
        | ro l =>
          simp only [ec] at e
          cases e
          obtain ⟨xs, hx, r⟩ := (rh1.cell n _ p ec hp).sq
          exact .inl ⟨xs, hx, by rw [r.empty]⟩
        | _ => simp only [ec] at e; cases e
    | adr p => cases e
def tAndD (a b : Ev → M Bool) : Ev → M Bool := fun s oh => (a s oh).bnd fun c oh => if c then b s oh else .ok false oh
def tOrD (a b : Ev → M Bool) : Ev → M Bool := fun s oh => (a s oh).bnd fun c oh => if c then .ok true oh else b s oh
def tNotD (a : Ev → M Bool) : Ev → M Bool := fun s oh => (a s oh).bnd fun c oh => .ok (!c) oh
variable {na nb : Ev → M Bool} {rest : List Expr}
theorem rw_and1 (ha : RT X W a na) : PW X (.BoolOp .And [a] pos) (tT X W na) := pw_and1 ha
theorem rw_or1 (ha : RT X W a na) : PW X (.BoolOp .Or [a] pos) (tT X W na) := pw_or1 ha
theorem rw_and (ha : RT X W a na) (hb : PW X (.BoolOp .And (b :: rest) pos) (tT X W nb)) : PW X (.BoolOp .And (a :: b :: rest) pos) (tT X W (tAndD na nb)) := (pw_and ha hb).imp fun σ H Q ⟨ρ, oh, s, rh, rs, h⟩ => by
  refine ⟨ρ, oh, s, rh, rs, (Out.bnd h).imp fun c oh1 ρ1 H1 L1 rh1 ⟨_, _, h1⟩ => ?_⟩
  cases c with
  | true => exact ⟨ρ1, oh1, s, rh1, L1.reps rs, h1⟩
  | false => exact h1 ρ1 H1 .refl rh1
theorem rw_or (ha : RT X W a na) (hb : PW X (.BoolOp .Or (b :: rest) pos) (tT X W nb)) : PW X (.BoolOp .Or (a :: b :: rest) pos) (tT X W (tOrD na nb)) := (pw_or ha hb).imp fun σ H Q ⟨ρ, oh, s, rh, rs, h⟩ => by
  refine ⟨ρ, oh, s, rh, rs, (Out.bnd h).imp fun c oh1 ρ1 H1 L1 rh1 ⟨_, _, h1⟩ => ?_⟩
  cases c with
  | false => exact ⟨ρ1, oh1, s, rh1, L1.reps rs, h1⟩
  | true => exact h1 ρ1 H1 .refl rh1
theorem rt_w (h : PW X a (tT X W na)) : RT X W a na := h.pt
theorem rt_not (ha : RT X W a na) : RT X W (.UnaryOp .Not a pos) (tNotD na) := (pt_not ha).imp fun σ H Q ⟨ρ, oh, s, rh, rs, h⟩ => by
  refine ⟨ρ, oh, s, rh, rs, (Out.bnd h).imp fun c oh1 ρ1 H1 L1 rh1 ⟨_, _, h1⟩ => ?_⟩
  exact h1 ρ1 H1 .refl rh1
/-- and, or, not as values: of bools -/
def eAndD (a b : Ev → M D) : Ev → M D := fun s oh => (a s oh).bnd fun c oh => match c with
  | .bl true => b s oh
  | .bl false => .ok (.bl false) oh
  | _ => .bad
def eOrD (a b : Ev → M D) : Ev → M D := fun s oh => (a s oh).bnd fun c oh => match c with
  | .bl false => b s oh
  | .bl true => .ok (.bl true) oh
  | _ => .bad
def pNot : P1 := fun d oh => match d with
  | .bl b => some (.bl (!b), oh)
  | _ => none
theorem re_one {op} (h : RE X W a ma) : RE X W (.BoolOp op [a] pos) ma := pe_one h
theorem re_and (ha : RE X W a ma) (hb : RE X W (.BoolOp .And (b :: rest) pos) mb) : RE X W (.BoolOp .And (a :: b :: rest) pos) (eAndD ma mb) := (pe_and ha hb).imp fun σ H Q ⟨ρ, oh, s, rh, rs, h⟩ => by
  refine ⟨ρ, oh, s, rh, rs, (Out.bnd h).imp fun c oh1 ρ1 H1 L1 rh1 ⟨_, _, h1⟩ v rv => ?_⟩
  cases c with
  | bl k =>
    simp only [Rep] at rv
    subst rv
    cases k with
    | true => exact ⟨true, rfl, ρ1, oh1, s, rh1, L1.reps rs, h1⟩
    | false => exact ⟨false, rfl, h1 ρ1 H1 .refl rh1 _ (by simp [Rep])⟩
  | _ => exact h1.elim
theorem re_or (ha : RE X W a ma) (hb : RE X W (.BoolOp .Or (b :: rest) pos) mb) : RE X W (.BoolOp .Or (a :: b :: rest) pos) (eOrD ma mb) := (pe_or ha hb).imp fun σ H Q ⟨ρ, oh, s, rh, rs, h⟩ => by
  refine ⟨ρ, oh, s, rh, rs, (Out.bnd h).imp fun c oh1 ρ1 H1 L1 rh1 ⟨_, _, h1⟩ v rv => ?_⟩
  cases c with
  | bl k =>
    simp only [Rep] at rv
    subst rv
    cases k with
    | false => exact ⟨false, rfl, ρ1, oh1, s, rh1, L1.reps rs, h1⟩
    | true => exact ⟨true, rfl, h1 ρ1 H1 .refl rh1 _ (by simp [Rep])⟩
  | _ => exact h1.elim
theorem re_not (ha : RE X W a ma) : RE X W (.UnaryOp .Not a pos) (e1 pNot ma) := (pe_not ha).imp fun σ H Q ⟨ρ, oh, s, rh, rs, h⟩ => by
  refine ⟨ρ, oh, s, rh, rs, (Out.bnd h).imp fun c oh1 ρ1 H1 L1 rh1 ⟨_, _, h1⟩ v rv => ?_⟩
  cases c with
  | bl k =>
    simp only [Rep] at rv
    subst rv
    exact ⟨k, rfl, h1 ρ1 H1 .refl rh1 _ (by simp [Rep])⟩
  | _ => exact h1.elim
/-- a if t else b -/
def eIf (t : Ev → M Bool) (a b : Ev → M D) : Ev → M D := fun s oh => (t s oh).bnd fun c oh => if c then a s oh else b s oh
theorem re_if {c : Expr} (hc : RT X W c na) (ha : RE X W a ma) (hb : RE X W b mb) : RE X W (.IfExp c a b pos) (eIf na ma mb) := (pe_ifExp hc ha hb).imp fun σ H Q ⟨ρ, oh, s, rh, rs, h⟩ => by
  refine ⟨ρ, oh, s, rh, rs, (Out.bnd h).imp fun c oh1 ρ1 H1 L1 rh1 ⟨_, _, h1⟩ => ?_⟩
  cases c with
  | true => exact ⟨ρ1, oh1, s, rh1, L1.reps rs, h1⟩
  | false => exact ⟨ρ1, oh1, s, rh1, L1.reps rs, h1⟩
/-- a < b < c -/
def eCh (p q : P2) (a b c : Ev → M D) : Ev → M D := fun s oh => (a s oh).bnd fun x oh => (b s oh).bnd fun y oh => (lf (p x y oh)).bnd fun k oh => match k with
  | .bl true => (c s oh).bnd fun z oh => lf (q y z oh)
  | .bl false => .ok (.bl false) oh
  | _ => .bad
theorem lfout {W' : XK} {ρ : List Addr} {H : Hp} {o : Option (D × OH)} {T : TV} (h : Out X.K X.mg W' ρ H (lf o) T) : OutP X ρ H o (fun v H' => ∃ d ρ' oh', Later X.K ρ H ρ' H' ∧ RH X.K H' ρ' oh' ∧ o = some (d, oh') ∧ Rep X.K H' ρ' d v ∧ T d oh' ρ' H') := by
  cases o with
  | none => exact h
  | some p =>
    obtain ⟨d, oh⟩ := p
    exact fun ρ' H' v L rh r => ⟨d, ρ', oh, L, rh, rfl, r, h ρ' H' L rh⟩
theorem tChain_imp {p q : P2} {mc : Ev → M D} : ∀ σ H Q, tE X W (eCh p q ma mb mc) σ H Q → tChain (rP X p) (rP X q) (tE X W ma) (tE X W mb) (tE X W mc) σ H Q := fun σ H Q ⟨ρ, oh, s, rh, rs, h⟩ => by
  refine ⟨ρ, oh, s, rh, rs, (Out.bnd h).imp fun dx oh1 ρ1 H1 L1 rh1 ⟨_, _, h1⟩ v rv => ?_⟩
  refine ⟨ρ1, oh1, s, rh1, L1.reps rs, (Out.bnd h1).imp fun dy oh2 ρ2 H2 L2 rh2 ⟨_, _, h2⟩ u ru => ?_⟩
  refine ⟨ρ2, oh2, dx, dy, rh2, L2.rep rv, ru, ?_⟩
  have h3 := lfout (Out.bnd h2)
  cases e : p dx dy oh2 with
  | none => rw [e] at h3; exact h3
  | some pr =>
    obtain ⟨k, oh3⟩ := pr
    rw [e] at h3
    intro ρ3 H3 z L3 rh3 rz
    obtain ⟨d', ρ4, oh4, L4, rh4, e4, rz4, rh4', L4', h4⟩ := h3 ρ3 H3 z L3 rh3 rz
    cases e4
    cases k with
    | bl k =>
      simp only [Rep] at rz
      subst rz
      refine ⟨k, rfl, ?_⟩
      cases k with
      | true =>
        refine ⟨ρ4, oh3, s, rh4, (L1.trans (L2.trans L4)).reps rs, (Out.bnd h4).imp fun dz oh5 ρ5 H5 L5 rh5 ⟨_, _, h5⟩ w rw5 => ?_⟩
        exact ⟨ρ5, oh5, dy, dz, rh5, (L4.trans L5).rep ru, rw5, .of h5⟩
      | false => exact h4 ρ4 H3 .refl rh4 _ (by simp [Rep])
    | _ => exact h4.elim
theorem re_chain {op op' : CmpOp} {p q : P2} {c : Expr} {mc : Ev → M D} (ho : OpR X (compareOp op) (rP X p)) (ho' : OpR X (compareOp op') (rP X q)) (ha : RE X W a ma) (hb : RE X W b mb) (hc : RE X W c mc)
    (hm : lastMarks [op, op'] [b, c] = false := by with_unfolding_all rfl) : RE X W (.Compare a [op, op'] [b, c] pos) (eCh p q ma mb mc) := (pe_chain ho ho' ha hb hc hm).imp tChain_imp
theorem rt_chain {op op' : CmpOp} {p q : P2} {c : Expr} {mc : Ev → M D} (ho : OpR X (compareOp op) (rP X p)) (ho' : OpR X (compareOp op') (rP X q)) (ha : RE X W a ma) (hb : RE X W b mb) (hc : RE X W c mc)
    (hm : lastMarks [op, op'] [b, c] = false := by with_unfolding_all rfl) : RT X W (.Compare a [op, op'] [b, c] pos) (tB1 (eCh p q ma mb mc)) := by
  refine (pt_chain ho ho' ha hb hc hm).imp fun σ H Q ⟨ρ, oh, s, rh, rs, h⟩ => ?_
  refine tChain_imp σ H _ ⟨ρ, oh, s, rh, rs, (Out.bnd h).imp fun d oh1 ρ1 H1 L1 rh1 ⟨_, _, h1⟩ v rv => ?_⟩
  cases d with
  | bl k =>
    simp only [Rep] at rv
    exact ⟨k, rv, h1 ρ1 H1 .refl rh1⟩
  | _ => exact h1.elim
end
end SK
namespace SK
open PySem PySem.Spec PyProof.Rows L2
/-! ### int operators -/
def pI (f : Int → Int → Option D) : P2 := fun x y oh => match x, y with
  | .int i, .int j => (f i j).map fun d => (d, oh)
  | _, _ => none
section
variable {X : Cx}
theorem OutP.here {ρ : List Addr} {H : Hp} {d : D} {oh : OH} {Q : VK} (h : OutP X ρ H (some (d, oh)) Q) (rh : RH X.K H ρ oh) {v : V} (r : Rep X.K H ρ d v) : Q v H := h ρ H v .refl rh r
/-- a rule of two ints: C i j -> the value -/
theorem opr_I {op : Value → Value → Sem Value} {C : Int → Int → Prop} {g : Int → Int → V} {f : Int → Int → Option D} (ho : OpR X op (rI C g)) (hf : ∀ i j d, f i j = some d → C i j ∧ ∀ K H ρ, Rep K H ρ d (g i j)) : OpR X op (rP X (pI f)) := by
  intro pins s σ H x y v u Q I rx ry ⟨ρ, oh, dx, dy, rh, r1, r2, h⟩
  cases dx with
  | int i =>
    cases dy with
    | int j =>
      simp only [Rep] at r1 r2
      subst r1; subst r2
      simp only [pI] at h
      cases e : f i j with
      | none => rw [e] at h; exact h.elim
      | some d =>
        rw [e] at h
        obtain ⟨hc, hr⟩ := hf i j d e
        exact ho pins s σ H _ _ v u Q I rx ry ⟨i, j, rfl, rfl, hc, OutP.here h rh (hr _ _ _)⟩
    | _ => exact h.elim
  | _ => exact h.elim
theorem opr_I0 {op : Value → Value → Sem Value} {g : Int → Int → V} {f : Int → Int → D} (ho : OpR X op (rI0 g)) (hf : ∀ i j K H ρ, Rep K H ρ (f i j) (g i j)) : OpR X op (rP X (pI fun i j => some (f i j))) := by
  intro pins s σ H x y v u Q I rx ry ⟨ρ, oh, dx, dy, rh, r1, r2, h⟩
  cases dx with
  | int i =>
    cases dy with
    | int j =>
      simp only [Rep] at r1 r2
      subst r1; subst r2
      exact ho pins s σ H _ _ v u Q I rx ry ⟨i, j, rfl, rfl, OutP.here h rh (hf _ _ _ _ _)⟩
    | _ => exact h.elim
  | _ => exact h.elim
def pSub : P2 := pI fun i j => some (.int (i - j))
def pLt : P2 := pI fun i j => some (.bl (decide (i < j)))
def pLe : P2 := pI fun i j => some (.bl (decide (i ≤ j)))
def pGt : P2 := pI fun i j => some (.bl (decide (j < i)))
def pGe : P2 := pI fun i j => some (.bl (decide (j ≤ i)))
def pMod : P2 := pI fun i j => if 0 < j then some (.int (i % j)) else none
def pDiv : P2 := pI fun i j => if 0 < j ∧ j.natAbs.log2 < 9000 then some (.int (i / j)) else none
def pPow : P2 := pI fun i j => if 0 ≤ j ∧ j ≤ 1000000 ∧ i.natAbs < 2 ^ 64 then some (.int (i ^ j.toNat)) else none
theorem o_sub : OpR X (binaryOp .Sub) (rP X pSub) := opr_I0 op_sub fun _ _ _ _ _ => by simp [Rep]
theorem o_lt : OpR X (compareOp .Lt) (rP X pLt) := opr_I0 op_lt fun _ _ _ _ _ => by simp [Rep]
theorem o_le : OpR X (compareOp .LtE) (rP X pLe) := opr_I0 op_le fun _ _ _ _ _ => by simp [Rep]
theorem o_gt : OpR X (compareOp .Gt) (rP X pGt) := opr_I0 op_gt fun _ _ _ _ _ => by simp [Rep]
theorem o_ge : OpR X (compareOp .GtE) (rP X pGe) := opr_I0 op_ge fun _ _ _ _ _ => by simp [Rep]
theorem o_mod : OpR X (binaryOp .Mod) (rP X pMod) := opr_I op_mod fun i j d e => by
  split at e
  · rename_i h
    cases e
    exact ⟨h, fun _ _ _ => by simp [Rep]⟩
  · cases e
theorem o_div : OpR X (binaryOp .FloorDiv) (rP X pDiv) := opr_I op_fdivW fun i j d e => by
  split at e
  · rename_i h
    cases e
    exact ⟨h, fun _ _ _ => by simp [Rep]⟩
  · cases e
theorem o_pow : OpR X (binaryOp .Pow) (rP X pPow) := opr_I op_pow fun i j d e => by
  split at e
  · rename_i h
    cases e
    exact ⟨h, fun _ _ _ => by simp [Rep]⟩
  · cases e
/-! ### + and * -/
def itemsOf (oh : OH) : D → Option (List D)
  | .tup l => some l
  | .ref n => match oh[n]? with
    | some (.lst l) => some l
    | some (.ro l) => some l
    | _ => none
  | _ => none
def mulOk (i j : Int) : Bool := decide (i.natAbs.log2 + j.natAbs.log2 < 1000000) || (decide (-(2 ^ 64) < i) && decide (i < 2 ^ 64)) || (decide (-(2 ^ 64) < j) && decide (j < 2 ^ 64))
def pAdd : P2 := fun x y oh => match x, y with
  | .int i, .int j => some (.int (i + j), oh)
  | .str a, .str b => if a.length + b.length ≤ sizeLine then some (.str (a ++ b), oh) else none
  | .tup l, .tup m => if l.length + m.length ≤ sizeLine then some (.tup (l ++ m), oh) else none
  | .ref a, .ref b => match oh[a]?, oh[b]? with
    | some (.lst l), some (.lst m) => if l.length + m.length ≤ sizeLine then some (.ref oh.length, oh ++ [.lst (l ++ m)]) else none
    | _, _ => none
  | _, _ => none
def pMul : P2 := fun x y oh => match x, y with
  | .int i, .int j => if mulOk i j then some (.int (i * j), oh) else none
  | .ref a, .int k => match oh[a]? with
    | some (.lst l) => if -(2 ^ 63) ≤ k ∧ k < 2 ^ 63 ∧ l.length * k.toNat ≤ sizeLine then some (.ref oh.length, oh ++ [.lst (List.replicate k.toNat l).flatten]) else none
    | _ => none
  | _, _ => none
theorem RepL.of_len {K : PySem.W.Frag} {H : Hp} {ρ : List Addr} {ds : List D} {vs : List V} (h : RepL K H ρ ds vs) (e : ds ≠ []) : vs ≠ [] := fun z => by
  subst z
  have := h.length
  cases ds with
  | nil => exact e rfl
  | cons => simp at this
/-- a new list as an answer -/
theorem OutP.pushL {ρ : List Addr} {H : Hp} {oh : OH} {l : List D} {xs : List V} {Q : VK} (h : OutP X ρ H (some (.ref oh.length, oh ++ [.lst l])) Q) (rh : RH X.K H ρ oh) (r : RepL X.K H ρ l xs) : ∀ p, H p = none → Q (.ref p) (upd H p (.lst xs)) := fun p hp => by
  obtain ⟨rh', L, g⟩ := rh.push hp r
  exact h _ _ _ L rh' (by simp only [Rep]; exact ⟨p, rfl, g⟩)
/-- a new tuple as an answer -/
theorem OutP.tup {ρ : List Addr} {H : Hp} {oh : OH} {l : List D} {xs : List V} {Q : VK} (h : OutP X ρ H (some (.tup l, oh)) Q) (rh : RH X.K H ρ oh) (r : RepL X.K H ρ l xs) : ∀ p, H p = none → Q (.ref p) (upd H p (.tup xs)) := fun p hp =>
  h _ _ _ (.fresh hp) (rh.fresh hp) (by simp only [Rep]; exact ⟨p, xs, rfl, upd_same, Later.repl (.fresh hp) r⟩)
theorem RepL.rep {K : PySem.W.Frag} {H : Hp} {ρ : List Addr} {l : List D} {xs : List V} (r : RepL K H ρ l xs) : ∀ k : Nat, RepL K H ρ (List.replicate k l).flatten (List.replicate k xs).flatten
  | 0 => by simp [RepL]
  | k + 1 => by
    rw [List.replicate_succ, List.replicate_succ, List.flatten_cons, List.flatten_cons]
    exact r.append (RepL.rep r k)
theorem o_add : OpR X (binaryOp .Add) (rP X pAdd) := by
  intro pins s σ H x y v u Q I rx ry ⟨ρ, oh, dx, dy, rh, r1, r2, h⟩
  cases dx with
  | int i =>
    cases dy with
    | int j =>
      simp only [Rep] at r1 r2
      subst r1; subst r2
      exact op_add pins s σ H _ _ v u Q I rx ry ⟨i, j, rfl, rfl, OutP.here h rh (by simp [Rep])⟩
    | _ => exact h.elim
  | str i =>
    cases dy with
    | str j =>
      simp only [Rep] at r1 r2
      subst r1; subst r2
      simp only [pAdd] at h
      split at h
      · rename_i hz
        exact op_add_str pins s σ H _ _ v u Q I rx ry ⟨i, j, rfl, rfl, hz, OutP.here h rh (by simp [Rep])⟩
      · exact h.elim
    | _ => exact h.elim
  | tup l =>
    cases dy with
    | tup m =>
      simp only [Rep] at r1 r2
      obtain ⟨a, xs, rfl, s1, q1⟩ := r1
      obtain ⟨b, ys, rfl, s2, q2⟩ := r2
      simp only [pAdd] at h
      split at h
      · rename_i hz
        have hlen : xs.length + ys.length ≤ sizeLine := by rw [← q1.length, ← q2.length]; exact hz
        have nilD : ∀ {ds : List D} {vs : List V}, RepL X.K H ρ ds vs → vs = [] → ds = [] := fun {ds vs} r e => by
          subst e
          have := r.length
          cases ds with
          | nil => rfl
          | cons => simp at this
        refine op_catA pins s σ H _ _ v u Q I rx ry ⟨a, b, xs, ys, rfl, rfl, SqT.of s1, SqT.of s2, hlen, fun e => ?_, fun _ e => ?_, fun _ _ p hp => ?_⟩
        · rw [nilD q1 e, List.nil_append] at h
          exact OutP.here h rh (by simp only [Rep]; exact ⟨b, ys, rfl, s2, q2⟩)
        · rw [nilD q2 e, List.append_nil] at h
          exact OutP.here h rh (by simp only [Rep]; exact ⟨a, xs, rfl, s1, q1⟩)
        · exact OutP.tup h rh (q1.append q2) p hp
      · exact h.elim
    | _ => exact h.elim
  | ref n =>
    cases dy with
    | ref m =>
      simp only [Rep] at r1 r2
      obtain ⟨a, rfl, ga⟩ := r1
      obtain ⟨b, rfl, gb⟩ := r2
      simp only [pAdd] at h
      split at h
      · rename_i l m' e1 e2
        obtain ⟨xs, hx, q1⟩ := rh.cell _ _ a e1 ga
        obtain ⟨ys, hy, q2⟩ := rh.cell _ _ b e2 gb
        split at h
        · rename_i hz
          exact op_cat pins s σ H _ _ v u Q I rx ry ⟨a, b, xs, ys, rfl, rfl, hx, hy, by rw [← q1.length, ← q2.length]; exact hz, OutP.pushL h rh (q1.append q2)⟩
        · exact h.elim
      · exact h.elim
    | _ => exact h.elim
  | _ => exact h.elim
theorem o_mul : OpR X (binaryOp .Mult) (rP X pMul) := by
  intro pins s σ H x y v u Q I rx ry ⟨ρ, oh, dx, dy, rh, r1, r2, h⟩
  cases dx with
  | int i =>
    cases dy with
    | int j =>
      simp only [Rep] at r1 r2
      subst r1; subst r2
      simp only [pMul] at h
      split at h
      · rename_i hz
        unfold mulOk at hz
        simp only [Bool.or_eq_true, Bool.and_eq_true, decide_eq_true_eq] at hz
        rcases hz with (hz | hz) | hz
        · exact op_mulW pins s σ H _ _ v u Q I rx ry ⟨i, j, rfl, rfl, hz, OutP.here h rh (by simp [Rep])⟩
        · exact op_mul pins s σ H _ _ v u Q I rx ry ⟨i, j, rfl, rfl, .inl hz, OutP.here h rh (by simp [Rep])⟩
        · exact op_mul pins s σ H _ _ v u Q I rx ry ⟨i, j, rfl, rfl, .inr hz, OutP.here h rh (by simp [Rep])⟩
      · exact h.elim
    | _ => exact h.elim
  | ref n =>
    cases dy with
    | int k =>
      simp only [Rep] at r1 r2
      obtain ⟨a, rfl, ga⟩ := r1
      subst r2
      simp only [pMul] at h
      split at h
      · rename_i l e1
        obtain ⟨xs, hx, q1⟩ := rh.cell _ _ a e1 ga
        split at h
        · rename_i hz
          exact op_rep pins s σ H _ _ v u Q I rx ry ⟨a, k, xs, rfl, rfl, hx, hz.1, hz.2.1, by rw [← q1.length]; exact hz.2.2, OutP.pushL h rh (q1.rep _)⟩
        · exact h.elim
      · exact h.elim
    | _ => exact h.elim
  | _ => exact h.elim
/-! ### == and != over data -/
def toPys (f : D → Option PyData) : List D → Option (List PyData)
  | [] => some []
  | d :: ds => match f d, toPys f ds with
    | some p, some ps => some (p :: ps)
    | _, _ => none
def toPy (oh : OH) : Nat → D → Option PyData
  | _, .non => some .none
  | _, .bl b => some (.bool b)
  | _, .int i => some (.int i)
  | _, .str x => some (.str x)
  | 0, _ => none
  | k + 1, .tup l => (toPys (toPy oh k) l).map .tuple
  | k + 1, .ref n => match oh[n]? with
    | some (.lst l) => (toPys (toPy oh k) l).map .list
    | some (.ro l) => (toPys (toPy oh k) l).map .list
    | _ => none
  | _, .adr _ => none
theorem toPys_dp {K : PySem.W.Frag} {H : Hp} {ρ : List Addr} {f : D → Option PyData} (hf : ∀ d p v, f d = some p → Rep K H ρ d v → Dp K H v p) : ∀ (l : List D) (ps : List PyData) (vs : List V), toPys f l = some ps → RepL K H ρ l vs → DpAll K H vs ps
  | [], ps, vs, e, r => by
    cases e
    simp only [RepL] at r
    subst r
    exact .nil
  | d :: ds, ps, vs, e, r => by
    simp only [RepL] at r
    obtain ⟨v, vs', rfl, r1, r2⟩ := r
    simp only [toPys] at e
    cases e1 : f d with
    | none => simp [e1] at e
    | some p =>
      cases e2 : toPys f ds with
      | none => simp [e1, e2] at e
      | some qs =>
        simp only [e1, e2] at e
        cases e
        exact .cons (hf _ _ _ e1 r1) (toPys_dp hf ds qs vs' e2 r2)
theorem toPy_dp {K : PySem.W.Frag} {H : Hp} {ρ : List Addr} {oh : OH} (rh : RH K H ρ oh) : ∀ (k : Nat) (d : D) (p : PyData) (v : V), toPy oh k d = some p → Rep K H ρ d v → Dp K H v p := by
  intro k
  induction k with
  | zero =>
    intro d p v e r
    cases d with
    | non => cases e; simp only [Rep] at r; subst r; exact .non
    | bl b => cases e; simp only [Rep] at r; subst r; exact .bl b
    | int b => cases e; simp only [Rep] at r; subst r; exact .int b
    | str b => cases e; simp only [Rep] at r; subst r; exact .str b
    | _ => cases e
  | succ k ih =>
    intro d p v e r
    cases d with
    | non => cases e; simp only [Rep] at r; subst r; exact .non
    | bl b => cases e; simp only [Rep] at r; subst r; exact .bl b
    | int b => cases e; simp only [Rep] at r; subst r; exact .int b
    | str b => cases e; simp only [Rep] at r; subst r; exact .str b
    | tup l =>
      simp only [Rep] at r
      obtain ⟨a, xs, rfl, hs, r⟩ := r
      simp only [toPy, Option.map_eq_some_iff] at e
      obtain ⟨ps, e1, rfl⟩ := e
      exact .tup (SqT.of hs) (toPys_dp (fun d p v => ih d p v) l ps xs e1 r)
    | ref n =>
      simp only [Rep] at r
      obtain ⟨a, rfl, ga⟩ := r
      simp only [toPy] at e
      split at e
      · rename_i l el
        obtain ⟨xs, hx, q⟩ := rh.cell _ _ a el ga
        simp only [Option.map_eq_some_iff] at e
        obtain ⟨ps, e1, rfl⟩ := e
        exact .lst (SqL.of hx) (toPys_dp (fun d p v => ih d p v) l ps xs e1 q)
      · rename_i l el
        obtain ⟨xs, hx, q⟩ := (rh.cell _ _ a el ga).sq
        simp only [Option.map_eq_some_iff] at e
        obtain ⟨ps, e1, rfl⟩ := e
        exact .lst hx (toPys_dp (fun d p v => ih d p v) l ps xs e1 q)
      · cases e
    | adr a => cases e
def eqS : D → D → Option Bool
  | .int i, .int j => some (decide (i = j))
  | .str i, .str j => some (decide (i = j))
  | _, _ => none
def eqDp (oh : OH) (x y : D) : Option Bool := match toPy oh 60 x, toPy oh 60 y with
  | some a, some b => if SeqAt.shaped a && SeqAt.shaped b then some (PyData.eqv a b) else none
  | _, _ => none
def eqD (oh : OH) (x y : D) : Option Bool := match eqS x y with
  | some b => some b
  | none => eqDp oh x y
def pEq : P2 := fun x y oh => (eqD oh x y).map fun b => (.bl b, oh)
def pNe : P2 := fun x y oh => (eqD oh x y).map fun b => (.bl (!b), oh)
theorem eqD_dp {ρ : List Addr} {H : Hp} {oh : OH} {dx dy : D} {x y : V} {b : Bool} (rh : RH X.K H ρ oh) (r1 : Rep X.K H ρ dx x) (r2 : Rep X.K H ρ dy y) (e : eqDp oh dx dy = some b) : ∃ d e, Dp X.K H x d ∧ Dp X.K H y e ∧ SeqAt.shaped d = true ∧ SeqAt.shaped e = true ∧ b = PyData.eqv d e := by
  unfold eqDp at e
  split at e
  · rename_i p q e1 e2
    split at e
    · rename_i hs
      rw [Bool.and_eq_true] at hs
      cases e
      exact ⟨p, q, toPy_dp rh _ _ _ _ e1 r1, toPy_dp rh _ _ _ _ e2 r2, hs.1, hs.2, rfl⟩
    · cases e
  · cases e
theorem eqS_sc {K : PySem.W.Frag} {ρ : List Addr} {H : Hp} {dx dy : D} {x y : V} {b : Bool} (r1 : Rep K H ρ dx x) (r2 : Rep K H ρ dy y) (e : eqS dx dy = some b) : scal x y = true ∧ b = decide (x = y) := by
  unfold eqS at e
  split at e
  · cases e
    simp only [Rep] at r1 r2
    subst r1; subst r2
    exact ⟨rfl, by simp⟩
  · cases e
    simp only [Rep] at r1 r2
    subst r1; subst r2
    exact ⟨rfl, by simp⟩
  · cases e
theorem o_eq (hu : X.A.units + 64 < cLine) : OpR X (compareOp .Eq) (rP X pEq) := by
  intro pins s σ H x y v u Q I rx ry ⟨ρ, oh, dx, dy, rh, r1, r2, h⟩
  unfold pEq eqD at h
  cases es : eqS dx dy with
  | some b =>
    rw [es] at h
    obtain ⟨h1, rfl⟩ := eqS_sc r1 r2 es
    exact op_eq pins s σ H _ _ v u Q I rx ry ⟨h1, OutP.here h rh (by simp [Rep])⟩
  | none =>
    rw [es] at h
    cases e : eqDp oh dx dy with
    | none => rw [e] at h; exact h.elim
    | some b =>
      rw [e] at h
      obtain ⟨p, q, h1, h2, s1, s2, rfl⟩ := eqD_dp rh r1 r2 e
      exact op_eqD hu pins s σ H _ _ v u Q I rx ry ⟨p, q, h1, h2, s1, s2, OutP.here h rh (by simp [Rep])⟩
theorem o_ne (hu : X.A.units + 64 < cLine) : OpR X (compareOp .NotEq) (rP X pNe) := by
  intro pins s σ H x y v u Q I rx ry ⟨ρ, oh, dx, dy, rh, r1, r2, h⟩
  unfold pNe eqD at h
  cases es : eqS dx dy with
  | some b =>
    rw [es] at h
    obtain ⟨h1, rfl⟩ := eqS_sc r1 r2 es
    exact op_ne pins s σ H _ _ v u Q I rx ry ⟨h1, OutP.here h rh (by simp [Rep])⟩
  | none =>
    rw [es] at h
    cases e : eqDp oh dx dy with
    | none => rw [e] at h; exact h.elim
    | some b =>
      rw [e] at h
      obtain ⟨p, q, h1, h2, s1, s2, rfl⟩ := eqD_dp rh r1 r2 e
      exact op_neD hu pins s σ H _ _ v u Q I rx ry ⟨p, q, h1, h2, s1, s2, OutP.here h rh (by simp [Rep])⟩
/-- is None -/
def pIsN (neg : Bool) : P2 := fun x y oh => match y with
  | .non => some (.bl (match x with | .non => !neg | _ => neg), oh)
  | _ => none
theorem rep_non {K : PySem.W.Frag} {H : Hp} {ρ : List Addr} {d : D} {v : V} (r : Rep K H ρ d v) : decide (v = V.non) = (match d with | .non => true | _ => false) := by
  cases d with
  | non => simp only [Rep] at r; subst r; rfl
  | bl b => simp only [Rep] at r; subst r; rfl
  | int b => simp only [Rep] at r; subst r; rfl
  | str b => simp only [Rep] at r; subst r; rfl
  | tup l => simp only [Rep] at r; obtain ⟨a, xs, rfl, _⟩ := r; rfl
  | ref l => simp only [Rep] at r; obtain ⟨a, rfl, _⟩ := r; rfl
  | adr l => simp only [Rep] at r; subst r; rfl
theorem o_isN : OpR X (compareOp .Is) (rP X (pIsN false)) := by
  intro pins s σ H x y v u Q I rx ry ⟨ρ, oh, dx, dy, rh, r1, r2, h⟩
  cases dy with
  | non =>
    simp only [Rep] at r2
    subst r2
    refine op_isN pins s σ H _ _ v u Q I rx ry ⟨rfl, ?_⟩
    rw [rep_non r1]
    simp only [pIsN] at h
    refine OutP.here h rh ?_
    cases dx <;> simp [Rep]
  | _ => exact h.elim
theorem o_notN : OpR X (compareOp .IsNot) (rP X (pIsN true)) := by
  intro pins s σ H x y v u Q I rx ry ⟨ρ, oh, dx, dy, rh, r1, r2, h⟩
  cases dy with
  | non =>
    simp only [Rep] at r2
    subst r2
    refine op_notN pins s σ H _ _ v u Q I rx ry ⟨rfl, ?_⟩
    rw [rep_non r1]
    simp only [pIsN] at h
    refine OutP.here h rh ?_
    cases dx <;> simp [Rep]
  | _ => exact h.elim
def pNeg : P1 := fun x oh => match x with
  | .int i => some (.int (-i), oh)
  | _ => none
theorem o_neg : UnR X (unaryOp .USub) (rP1 X pNeg) := by
  intro pins s σ H x v Q I rx hh
  obtain ⟨ρ, oh, dx, rh, r1, h⟩ := hh
  cases dx with
  | int i =>
    simp only [Rep] at r1
    subst r1
    exact (L2.un_neg (X := X)) pins s σ H (.int i) v Q I rx ⟨i, rfl, OutP.here h rh (by simp [Rep])⟩
  | _ => exact h.elim
/-! ### subscripts -/
def pIx : P2 := fun x y oh => match x, y with
  | .str z, .int i => if z.length ≤ sizeLine then (atI z.cps.toList i).map fun c => (.str ⟨#[c]⟩, oh) else none
  | d, .int i => match itemsOf oh d with
    | some l => (atI l i).map fun c => (c, oh)
    | none => none
  | _, _ => none
theorem atI_rep {K : PySem.W.Frag} {H : Hp} {ρ : List Addr} {l : List D} {xs : List V} {i : Int} {d : D} (r : RepL K H ρ l xs) (e : atI l i = some d) : ∃ v, atI xs i = some v ∧ Rep K H ρ d v := by
  unfold atI at e ⊢
  rw [← r.length]
  cases en : ixN l.length i with
  | none => rw [en] at e; cases e
  | some j =>
    rw [en] at e
    obtain ⟨v, ev, q⟩ := r.get (i := j) e
    exact ⟨v, ev, q⟩
theorem itemsOf_rep {ρ : List Addr} {H : Hp} {oh : OH} {d : D} {x : V} {l : List D} (rh : RH X.K H ρ oh) (r : Rep X.K H ρ d x) (e : itemsOf oh d = some l) : ∃ p xs, x = .ref p ∧ (SqL X.K H p xs ∨ SqT X.K H p xs) ∧ RepL X.K H ρ l xs := by
  cases d with
  | tup m =>
    cases e
    simp only [Rep] at r
    obtain ⟨a, xs, rfl, hs, q⟩ := r
    exact ⟨a, xs, rfl, .inr (SqT.of hs), q⟩
  | ref n =>
    simp only [Rep] at r
    obtain ⟨a, rfl, ga⟩ := r
    simp only [itemsOf] at e
    split at e
    · rename_i m el
      cases e
      obtain ⟨xs, hx, q⟩ := rh.cell _ _ a el ga
      exact ⟨a, xs, rfl, .inl (SqL.of hx), q⟩
    · rename_i m el
      cases e
      obtain ⟨xs, hx, q⟩ := (rh.cell _ _ a el ga).sq
      exact ⟨a, xs, rfl, .inl hx, q⟩
    · cases e
  | _ => cases e
theorem itemsOf_repT {ρ : List Addr} {H : Hp} {oh : OH} {d : D} {x : V} {l : List D} (rh : RH X.K H ρ oh) (r : Rep X.K H ρ d x) (e : itemsOf oh d = some l) : ∃ p xs, x = .ref p ∧ (SqL X.K H p xs ∨ H p = some (.tup xs)) ∧ RepL X.K H ρ l xs := by
  cases d with
  | tup m =>
    cases e
    simp only [Rep] at r
    obtain ⟨a, xs, rfl, hs, q⟩ := r
    exact ⟨a, xs, rfl, .inr hs, q⟩
  | ref n =>
    simp only [Rep] at r
    obtain ⟨a, rfl, ga⟩ := r
    simp only [itemsOf] at e
    split at e
    · rename_i m el
      cases e
      obtain ⟨xs, hx, q⟩ := rh.cell _ _ a el ga
      exact ⟨a, xs, rfl, .inl (SqL.of hx), q⟩
    · rename_i m el
      cases e
      obtain ⟨xs, hx, q⟩ := (rh.cell _ _ a el ga).sq
      exact ⟨a, xs, rfl, .inl hx, q⟩
    · cases e
  | _ => cases e
theorem o_ix : IxR X (rP X pIx) := by
  intro val sl pins s σ H x y v u Q I rx ry ⟨ρ, oh, dx, dy, rh, r1, r2, h⟩ hsub
  cases dy with
  | int i =>
    simp only [Rep] at r2
    subst r2
    have key : ∀ l, itemsOf oh dx = some l → OutP X ρ H ((atI l i).map fun c => (c, oh)) Q → rIx X.K x (.int i) H Q := fun l el h => by
      obtain ⟨p, xs, rfl, hs, q⟩ := itemsOf_rep rh r1 el
      cases ea : atI l i with
      | none => rw [ea] at h; exact h.elim
      | some d =>
        rw [ea] at h
        obtain ⟨w, ew, qw⟩ := atI_rep q ea
        rcases hs with hs | hs
        · exact .inl ⟨p, xs, i, w, rfl, rfl, hs, ew, OutP.here h rh qw⟩
        · exact .inr (.inl ⟨p, xs, i, w, rfl, rfl, hs, ew, OutP.here h rh qw⟩)
    refine ix_seq val sl pins s σ H x (.int i) v u Q I rx ry ?_ hsub
    cases dx with
    | str z =>
      simp only [Rep] at r1
      subst r1
      simp only [pIx] at h
      split at h
      · rename_i hz
        cases ea : atI z.cps.toList i with
        | none => rw [ea] at h; exact h.elim
        | some c =>
          rw [ea] at h
          exact .inr (.inr ⟨z, i, c, rfl, rfl, hz, ea, OutP.here h rh (by simp [Rep])⟩)
      · exact h.elim
    | tup l => exact key l rfl h
    | ref n =>
      cases el : itemsOf oh (.ref n) with
      | none => simp only [pIx, el] at h; exact h.elim
      | some l =>
        simp only [pIx, el] at h
        exact key l el h
    | _ => exact h.elim
  | _ => cases dx <;> exact h.elim
end
end SK
namespace SK
open PySem PySem.Spec PyProof.Rows L2
section
variable {X : Cx} {W : WX} {e b : Expr} {es : List Expr} {ma mb : Ev → M D} {ms : Ev → M (List D)} {pos : Pos}
/-! ### argument lists, displays -/
def aNil : Ev → M (List D) := fun _ oh => .ok [] oh
def aCons (a : Ev → M D) (r : Ev → M (List D)) : Ev → M (List D) := fun s oh => (a s oh).bnd fun x oh => (r s oh).bnd fun xs oh => .ok (x :: xs) oh
theorem ra_nil : RA X W [] aNil := pa_nil.imp fun σ H Q ⟨ρ, oh, s, rh, rs, h⟩ => h ρ H .refl rh [] (by simp [RepL])
theorem ra_cons (ha : RE X W e ma) (hr : RA X W es ms) (hs : starEach (e :: es) X.env = (false, eval e X.env) :: starEach es X.env := by rfl) : RA X W (e :: es) (aCons ma ms) := (pa_cons ha hr hs).imp fun σ H Q ⟨ρ, oh, s, rh, rs, h⟩ => by
  refine ⟨ρ, oh, s, rh, rs, (Out.bnd h).imp fun dx oh1 ρ1 H1 L1 rh1 ⟨_, _, h1⟩ v rv => ?_⟩
  refine ⟨ρ1, oh1, s, rh1, L1.reps rs, (Out.bnd h1).imp fun ds oh2 ρ2 H2 L2 rh2 ⟨_, _, h2⟩ vs rvs => ?_⟩
  exact h2 ρ2 H2 .refl rh2 (v :: vs) (by simp only [RepL]; exact ⟨v, vs, rfl, L2.rep rv, rvs⟩)
def eTup (m : Ev → M (List D)) : Ev → M D := fun s oh => (m s oh).bnd fun ds oh => if ds.length ≤ sizeLine then .ok (.tup ds) oh else .bad
def eLst (m : Ev → M (List D)) : Ev → M D := fun s oh => (m s oh).bnd fun ds oh => if ds.length ≤ sizeLine then .ok (.ref oh.length) (oh ++ [.lst ds]) else .bad
theorem re_tup {x1} (h : RA X W es ms) : RE X W (.Tuple es x1 pos) (eTup ms) := (pe_tup h).imp fun σ H Q ⟨ρ, oh, s, rh, rs, h⟩ => by
  refine ⟨ρ, oh, s, rh, rs, (Out.bnd h).imp fun ds oh1 ρ1 H1 L1 rh1 ⟨_, _, h1⟩ vs rvs => ?_⟩
  split at h1
  · rename_i hz
    refine ⟨by rw [← rvs.length]; exact hz, fun p hp => ?_⟩
    exact h1 ρ1 _ (.fresh hp) (rh1.fresh hp) _ (by simp only [Rep]; exact ⟨p, vs, rfl, upd_same, Later.repl (.fresh hp) rvs⟩)
  · exact h1.elim
theorem re_lst (h : RA X W es ms) : RE X W (.List es pos) (eLst ms) := (pe_lst h).imp fun σ H Q ⟨ρ, oh, s, rh, rs, h⟩ => by
  refine ⟨ρ, oh, s, rh, rs, (Out.bnd h).imp fun ds oh1 ρ1 H1 L1 rh1 ⟨_, _, h1⟩ vs rvs => ?_⟩
  split at h1
  · rename_i hz
    refine ⟨by rw [← rvs.length]; exact hz, fun p hp => ?_⟩
    obtain ⟨rh2, L2, g⟩ := rh1.push hp rvs
    exact h1 _ _ L2 rh2 _ (by simp only [Rep]; exact ⟨p, rfl, g⟩)
  · exact h1.elim
/-! ### calls of built-ins -/
abbrev PL := List D → OH → Option (D × OH)
def rPL (X : Cx) (p : PL) : List V → Hp → VK → Prop := fun xs H Q => ∃ ρ oh ds, RH X.K H ρ oh ∧ RepL X.K H ρ ds xs ∧ OutP X ρ H (p ds oh) Q
def eCB (p : PL) (m : Ev → M (List D)) : Ev → M D := fun s oh => (m s oh).bnd fun ds oh => lf (p ds oh)
theorem tCB_imp {p : PL} : ∀ σ H Q, tE X W (eCB p ms) σ H Q → tCB (rPL X p) (tA X W ms) σ H Q := fun σ H Q ⟨ρ, oh, s, rh, rs, h⟩ =>
  ⟨ρ, oh, s, rh, rs, (Out.bnd h).imp fun ds oh1 ρ1 H1 L1 rh1 ⟨_, _, h1⟩ vs rvs => ⟨ρ1, oh1, ds, rh1, rvs, .of h1⟩⟩
theorem re_cb {x : Str} {p : Pos} {id : String} {f : PL} (hc : CallR X (.builtin id) (rPL X f)) (hm : X.mg x = none) (hv : bootBuiltins x = some (.builtin id)) (ha : RA X W (e :: es) ms) (hg : Gl X x := by rfl) (hn : x ≠ "__name__" := by decide) (hdb : (x == ("__debug__" : Str)) = false := by decide)
    (he : starEach (e :: es) X.env = (false, eval e X.env) :: starEach es X.env := by rfl) (hpl : (backTo pos (starEach es X.env)).any (·.1) = false := by rfl) : RE X W (.Call (.Name x p) (e :: es) [] pos) (eCB f ms) := (pe_callB hc hg hm hv ha hn hdb he hpl).imp tCB_imp
theorem re_ct {x : Str} {p : Pos} {T : String} {f : PL} (hc : CallR X (.type T) (rPL X f)) (hm : X.mg x = none) (hv : bootBuiltins x = some (.type T)) (ha : RA X W (e :: es) ms) (hg : Gl X x := by rfl) (hn : x ≠ "__name__" := by decide) (hdb : (x == ("__debug__" : Str)) = false := by decide)
    (he : starEach (e :: es) X.env = (false, eval e X.env) :: starEach es X.env := by rfl) (hpl : (backTo pos (starEach es X.env)).any (·.1) = false := by rfl) : RE X W (.Call (.Name x p) (e :: es) [] pos) (eCB f ms) := (pe_callTy hc hg hm hv ha hn hdb he hpl).imp tCB_imp
theorem RepL.one {K : PySem.W.Frag} {H : Hp} {ρ : List Addr} {d : D} {xs : List V} (r : RepL K H ρ [d] xs) : ∃ v, xs = [v] ∧ Rep K H ρ d v := by
  simp only [RepL] at r
  obtain ⟨v, vs, rfl, r, rfl⟩ := r
  exact ⟨v, rfl, r⟩
theorem RepL.two {K : PySem.W.Frag} {H : Hp} {ρ : List Addr} {d d' : D} {xs : List V} (r : RepL K H ρ [d, d'] xs) : ∃ v w, xs = [v, w] ∧ Rep K H ρ d v ∧ Rep K H ρ d' w := by
  simp only [RepL] at r
  obtain ⟨v, vs, rfl, r, w, ws, rfl, r', rfl⟩ := r
  exact ⟨v, w, rfl, r, r'⟩
def bLen : PL := fun ds oh => match ds with
  | [.str x] => if x.length ≤ sizeLine then some (.int x.length, oh) else none
  | [d] => (itemsOf oh d).map fun l => (.int l.length, oh)
  | _ => none
theorem c_len : CallR X (.builtin "len") (rPL X bLen) := by
  intro pins s σ H xs us Q I rv ⟨ρ, oh, ds, rh, r, h⟩
  have key : ∀ d l v, itemsOf oh d = some l → Rep X.K H ρ d v → xs = [v] → OutP X ρ H ((itemsOf oh d).map fun l => ((.int l.length : D), oh)) Q → wpAny (model X.prog X.w) X.A (call (.builtin "len") us) (EP X pins σ Q) X.xe s := fun d l v el r1 ex h => by
    subst ex
    rw [el] at h
    obtain ⟨p, ys, rfl, hs, q⟩ := itemsOf_rep rh r1 el
    exact call_len_seq pins s σ H [.ref p] us Q I rv ⟨p, ys, rfl, hs, by rw [← q.length]; exact OutP.here h rh (by simp [Rep])⟩
  cases ds with
  | nil => exact h.elim
  | cons d ds =>
    cases ds with
    | cons _ _ => cases d <;> exact h.elim
    | nil =>
      obtain ⟨v, rfl, r1⟩ := r.one
      cases d with
      | str x =>
        simp only [Rep] at r1
        subst r1
        simp only [bLen] at h
        split at h
        · rename_i hz
          exact call_len pins s σ H _ us Q I rv ⟨.str x, x.length, rfl, ⟨hz, rfl⟩, OutP.here h rh (by simp [Rep])⟩
        · exact h.elim
      | tup l => exact key _ l v rfl r1 rfl h
      | ref n =>
        cases el : itemsOf oh (.ref n) with
        | none => simp only [bLen, el] at h; exact h.elim
        | some l => exact key _ l v el r1 rfl h
      | _ => exact h.elim
def bInt : PL := fun ds oh => match ds with
  | [.int i] => some (.int i, oh)
  | [.bl b] => some (.int (if b then 1 else 0), oh)
  | _ => none
theorem c_int : CallR X (.type "int") (rPL X bInt) := by
  intro pins s σ H xs us Q I rv ⟨ρ, oh, ds, rh, r, h⟩
  unfold bInt at h
  split at h
  · obtain ⟨v, rfl, r1⟩ := r.one
    simp only [Rep] at r1
    subst r1
    exact call_int1 pins s σ H _ us Q I rv (.inl ⟨_, rfl, OutP.here h rh (by simp [Rep])⟩)
  · obtain ⟨v, rfl, r1⟩ := r.one
    simp only [Rep] at r1
    subst r1
    exact call_int1 pins s σ H _ us Q I rv (.inr ⟨_, rfl, OutP.here h rh (by simp [Rep])⟩)
  · exact h.elim
def bAbs : PL := fun ds oh => match ds with
  | [.int i] => some (.int (if i < 0 then -i else i), oh)
  | _ => none
theorem c_abs : CallR X (.builtin "abs") (rPL X bAbs) := by
  intro pins s σ H xs us Q I rv ⟨ρ, oh, ds, rh, r, h⟩
  unfold bAbs at h
  split at h
  · obtain ⟨v, rfl, r1⟩ := r.one
    simp only [Rep] at r1
    subst r1
    exact call_abs pins s σ H _ us Q I rv ⟨_, rfl, OutP.here h rh (by simp [Rep])⟩
  · exact h.elim
def bMax2 : PL := fun ds oh => match ds with
  | [.int i, .int j] => some (.int (if j > i then j else i), oh)
  | _ => none
def bMin2 : PL := fun ds oh => match ds with
  | [.int i, .int j] => some (.int (if j < i then j else i), oh)
  | _ => none
theorem c_max2 (hc : X.calm = true) : CallR X (.builtin "max") (rPL X bMax2) := by
  intro pins s σ H xs us Q I rv ⟨ρ, oh, ds, rh, r, h⟩
  unfold bMax2 at h
  split at h
  · obtain ⟨v, w, rfl, r1, r2⟩ := r.two
    simp only [Rep] at r1 r2
    subst r1; subst r2
    exact call_max2 hc pins s σ H _ us Q I rv ⟨_, _, rfl, OutP.here h rh (by simp [Rep])⟩
  · exact h.elim
theorem c_min2 (hc : X.calm = true) : CallR X (.builtin "min") (rPL X bMin2) := by
  intro pins s σ H xs us Q I rv ⟨ρ, oh, ds, rh, r, h⟩
  unfold bMin2 at h
  split at h
  · obtain ⟨v, w, rfl, r1, r2⟩ := r.two
    simp only [Rep] at r1 r2
    subst r1; subst r2
    exact call_min2 hc pins s σ H _ us Q I rv ⟨_, _, rfl, OutP.here h rh (by simp [Rep])⟩
  · exact h.elim
def bGcd : PL := fun ds oh => match ds with
  | [.int i, .int j] => some (.int ((Nat.gcd i.natAbs j.natAbs : Nat) : Int), oh)
  | _ => none
theorem c_gcd : CallR X (.builtin "math.gcd") (rPL X bGcd) := by
  intro pins s σ H xs us Q I rv ⟨ρ, oh, ds, rh, r, h⟩
  unfold bGcd at h
  split at h
  · obtain ⟨v, w, rfl, r1, r2⟩ := r.two
    simp only [Rep] at r1 r2
    subst r1; subst r2
    exact cr_gcd pins s σ H _ us Q I rv ⟨_, _, rfl, OutP.here h rh (by simp [Rep])⟩
  · exact h.elim
def bTuple : PL := fun ds oh => match ds with
  | [d] => (itemsOf oh d).map fun l => (.tup l, oh)
  | _ => none
theorem c_tuple : CallR X (.type "tuple") (rPL X bTuple) := by
  intro pins s σ H xs us Q I rv ⟨ρ, oh, ds, rh, r, h⟩
  cases ds with
  | nil => exact h.elim
  | cons d ds =>
    cases ds with
    | cons _ _ => exact h.elim
    | nil =>
      obtain ⟨v, rfl, r1⟩ := r.one
      simp only [bTuple] at h
      cases el : itemsOf oh d with
      | none => rw [el] at h; exact h.elim
      | some l =>
        rw [el] at h
        obtain ⟨p, ys, rfl, hs, q⟩ := itemsOf_repT rh r1 el
        refine call_tuple_of pins s σ H _ us Q I rv ⟨p, ys, rfl, ?_⟩
        rcases hs with hs | hs
        · exact .inl ⟨hs, OutP.tup h rh q⟩
        · exact .inr ⟨SqT.of hs, OutP.here h rh (by simp only [Rep]; exact ⟨p, ys, rfl, hs, q⟩)⟩
def bList : PL := fun ds oh => match ds with
  | [d] => (itemsOf oh d).map fun l => (.ref oh.length, oh ++ [.lst l])
  | _ => none
theorem c_list : CallR X (.type "list") (rPL X bList) := by
  intro pins s σ H xs us Q I rv ⟨ρ, oh, ds, rh, r, h⟩
  cases ds with
  | nil => exact h.elim
  | cons d ds =>
    cases ds with
    | cons _ _ => exact h.elim
    | nil =>
      obtain ⟨v, rfl, r1⟩ := r.one
      simp only [bList] at h
      cases el : itemsOf oh d with
      | none => rw [el] at h; exact h.elim
      | some l =>
        rw [el] at h
        obtain ⟨p, ys, rfl, hs, q⟩ := itemsOf_rep rh r1 el
        exact call_list_of pins s σ H _ us Q I rv ⟨p, ys, rfl, hs, OutP.pushL h rh q⟩
def toInts : List D → Option (List Int)
  | [] => some []
  | .int i :: ds => (toInts ds).map (i :: ·)
  | _ => none
theorem toInts_rep {K : PySem.W.Frag} {H : Hp} {ρ : List Addr} : ∀ {l : List D} {ns : List Int} {xs : List V}, toInts l = some ns → RepL K H ρ l xs → xs = ns.map V.int
  | [], ns, xs, e, r => by
    cases e
    simp only [RepL] at r
    rw [r]
    rfl
  | .int i :: ds, ns, xs, e, r => by
    simp only [toInts, Option.map_eq_some_iff] at e
    obtain ⟨ms, e1, rfl⟩ := e
    simp only [RepL, Rep] at r
    obtain ⟨v, vs, rfl, rfl, r2⟩ := r
    rw [toInts_rep e1 r2]
    rfl
  | .non :: _, _, _, e, _ => by cases e
  | .bl _ :: _, _, _, e, _ => by cases e
  | .str _ :: _, _, _, e, _ => by cases e
  | .tup _ :: _, _, _, e, _ => by cases e
  | .ref _ :: _, _, _, e, _ => by cases e
  | .adr _ :: _, _, _, e, _ => by cases e
def bSum : PL := fun ds oh => match ds with
  | [.ref n] => match itemsOf oh (.ref n) with
    | some l => (toInts l).map fun ns => (.int ns.sum, oh)
    | none => none
  | _ => none
theorem items_ref {ρ : List Addr} {H : Hp} {oh : OH} {n : Nat} {x : V} {l : List D} (rh : RH X.K H ρ oh) (r : Rep X.K H ρ (.ref n) x) (e : itemsOf oh (.ref n) = some l) : ∃ p xs, x = .ref p ∧ SqL X.K H p xs ∧ RepL X.K H ρ l xs := by
  simp only [Rep] at r
  obtain ⟨a, rfl, ga⟩ := r
  simp only [itemsOf] at e
  split at e
  · rename_i m el
    cases e
    obtain ⟨xs, hx, q⟩ := rh.cell _ _ a el ga
    exact ⟨a, xs, rfl, SqL.of hx, q⟩
  · rename_i m el
    cases e
    obtain ⟨xs, hx, q⟩ := (rh.cell _ _ a el ga).sq
    exact ⟨a, xs, rfl, hx, q⟩
  · cases e
theorem c_sum (hc : X.calm = true) : CallR X (.builtin "sum") (rPL X bSum) := by
  intro pins s σ H xs us Q I rv ⟨ρ, oh, ds, rh, r, h⟩
  unfold bSum at h
  split at h
  · rename_i n
    obtain ⟨v, rfl, r1⟩ := r.one
    split at h
    · rename_i l el
      obtain ⟨p, ys, rfl, hs, q⟩ := items_ref rh r1 el
      cases e : toInts l with
      | none => rw [e] at h; exact h.elim
      | some ns =>
        rw [e] at h
        have ey := toInts_rep e q
        subst ey
        exact cr_sum hc pins s σ H _ us Q I rv ⟨p, ns, rfl, hs, OutP.here h rh (by simp [Rep])⟩
    · exact h.elim
  · exact h.elim
theorem len_nil : ∀ (s : Ev) (oh : OH) (ds : List D) (oh' : OH), aNil s oh = .ok ds oh' → ds.length = 0 := fun s oh ds oh' e => by
  cases e; rfl
theorem len_cons {n : Nat} (h : ∀ (s : Ev) (oh : OH) (ds : List D) (oh' : OH), ms s oh = .ok ds oh' → ds.length = n) : ∀ (s : Ev) (oh : OH) (ds : List D) (oh' : OH), aCons ma ms s oh = .ok ds oh' → ds.length = n + 1 := fun s oh ds oh' e => by
  unfold aCons at e
  cases e1 : ma s oh with
  | ok d oh1 =>
    rw [e1, bnd_ok] at e
    cases e2 : ms s oh1 with
    | ok es oh2 =>
      rw [e2, bnd_ok] at e
      cases e
      rw [List.length_cons, h _ _ _ _ e2]
    | exc => rw [e2] at e; cases e
    | bad => rw [e2] at e; cases e
  | exc => rw [e1] at e; cases e
  | bad => rw [e1] at e; cases e
/-! ### calls of defs -/
abbrev Fn := List D → M D
def OutF (K : PySem.W.Frag) (mg : Str → Option Value) (ρ : List Addr) (H : Hp) (r : R D) (Q : VK) (E : XK) : Prop := Out K mg E ρ H r fun d _ ρ' H' => ∀ v, Rep K H' ρ' d v → Q v H'
def spF (K : PySem.W.Frag) (mg : Str → Option Value) (n : Nat) (f : Fn) : Sp := fun vs H Q E => ∃ ρ oh ds, vs.length = n ∧ RH K H ρ oh ∧ RepL K H ρ ds vs ∧ OutF K mg ρ H (f ds oh) Q E
def eCall (f : Fn) (m : Ev → M (List D)) : Ev → M D := fun s oh => (m s oh).bnd fun ds oh => f ds oh
theorem re_call {k n : Nat} {f : Addr} {fd : FuncData} {ps : List Str} {x : Str} {p : Pos} {g : Fn} (F : FnOk X.prog X.w X.K X.mg X.base (L2.CX X.prog X.w) k f fd ps (spF X.K X.mg ps.length g)) (hr : Room k X.A) (hm : X.mg x = some (.ref f)) (hk : PySem.W.keepIn X.K (.ref f) = true) (hb : Binds X.K fd ps []) (tk : Takes X W)
    (ha : RA X W (e :: es) ms) (hl : (e :: es).length = ps.length := by rfl) (hg : Gl X x := by rfl) (hdb : (x == ("__debug__" : Str)) = false := by decide) (he : starEach (e :: es) X.env = (false, eval e X.env) :: starEach es X.env := by rfl) (hpl : (backTo pos (starEach es X.env)).any (·.1) = false := by rfl)
    (hlen : ∀ s oh ds oh', ms s oh = .ok ds oh' → ds.length = (e :: es).length) :
    RE X W (.Call (.Name x p) (e :: es) [] pos) (eCall g ms) := (pe_callS (E := WE W) F hr hg hm hk hb (fun σ => passAt tk σ) ha hdb he hpl).imp fun σ H Q ⟨ρ, oh, s, rh, rs, h⟩ => by
  refine ⟨ρ, oh, s, rh, rs, ?_⟩
  have h2 := Out.bnd h
  cases em : ms s oh with
  | ok ds oh1 =>
    rw [em] at h2
    intro ρ1 H1 L1 rh1 vs rvs
    exact ⟨ρ1, oh1, ds, by rw [← rvs.length, hlen _ _ _ _ em, hl], rh1, rvs, (h2 ρ1 H1 L1 rh1).2.2⟩
  | exc c w oh1 => rw [em] at h2; exact h2
  | bad => rw [em] at h2; exact h2
end
end SK
namespace SK
open PySem PySem.Spec PyProof.Rows L2
abbrev SM := Ev → OH → RS
def RS.bnd (r : RS) (f : Ev → OH → RS) : RS := match r with
  | .nx s oh => f s oh
  | r => r
def R.st {α : Type} (s : Ev) (r : R α) (f : α → OH → RS) : RS := match r with
  | .ok a oh => f a oh
  | .exc c w oh => .exc c w s oh
  | .bad => .bad
section
variable {X : Cx} {W : WX} {e b : Expr} {es : List Expr} {st : Stmt} {rest : List Stmt} {ma mb : Ev → M D} {na : Ev → M Bool} {m1 m2 : SM} {pos : Pos}
theorem Out.toS {α : Type} {ρ : List Addr} {H : Hp} {σ : L2.St} {s : Ev} {r : R α} {f : α → OH → RS} {E : Ends} (h : OutS X.K X.mg W ρ H (r.st s f) E) (rs : RepS X.K H ρ s σ) :
    Out X.K X.mg (fun c d H' => W c d σ H') ρ H r fun a oh ρ' H' => OutS X.K X.mg W ρ' H' (f a oh) E := by
  cases r with
  | ok a oh => exact fun ρ' H' L _ => OutS.later (r := f a oh) h L
  | exc c w oh => exact fun ρ' H' dd v C L rh rv => h ρ' H' σ dd v C L rh (L.reps rs) rv
  | bad => exact h
def sSkip : SM := fun s oh => .nx s oh
def sSeq (a b : SM) : SM := fun s oh => (a s oh).bnd b
def sExpr (m : Ev → M D) : SM := fun s oh => (m s oh).st s fun _ oh => .nx s oh
def sRet (m : Ev → M D) : SM := fun s oh => (m s oh).st s fun d oh => .rt d oh
def sRetN : SM := fun _ oh => .rt .non oh
def sSet (i : Nat) (m : Ev → M D) : SM := fun s oh => (m s oh).st s fun d oh => .nx (s.set i (some d)) oh
def sIf (t : Ev → M Bool) (a b : SM) : SM := fun s oh => (t s oh).st s fun c oh => if c then a s oh else b s oh
theorem rss_nil : RSs X W [] sSkip := pss_nil.imp fun D σ H ⟨ρ, oh, s, rh, rs, h⟩ => h ρ H σ .refl rh rs
theorem rss_one (h : RSt X W st m1) : RSs X W [st] m1 := pss_one h
theorem rss_cons (h1 : RSt X W st m1) (h2 : RSs X W rest m2) : RSs X W (st :: rest) (sSeq m1 m2) := (pss_cons h1 h2).imp fun D σ H ⟨ρ, oh, s, rh, rs, h⟩ => by
  refine ⟨ρ, oh, s, rh, rs, ?_⟩
  show OutS _ _ _ _ _ _ _
  unfold sSeq at h
  cases er : m1 s oh with
  | nx s1 oh1 =>
    rw [er] at h
    exact fun ρ' H' σ' L rh' rs' => ⟨ρ', oh1, s1, rh', rs', OutS.later (r := m2 s1 oh1) h L⟩
  | rt d oh1 => rw [er] at h; exact h
  | bk d oh1 => rw [er] at h; exact h
  | ct d oh1 => rw [er] at h; exact h
  | exc c w s1 oh1 => rw [er] at h; exact h
  | bad => rw [er] at h; exact h
theorem rs_pass : RSt X W (.Pass pos) sSkip := ps_pass.imp fun D σ H ⟨ρ, oh, s, rh, rs, h⟩ => h ρ H σ .refl rh rs
def sBreak : SM := fun s oh => .bk s oh
def sCont : SM := fun s oh => .ct s oh
theorem rs_break : RSt X W (.Break pos) sBreak := ps_break.imp fun D σ H ⟨ρ, oh, s, rh, rs, h⟩ => h ρ H σ .refl rh rs
theorem rs_cont : RSt X W (.Continue pos) sCont := ps_continue.imp fun D σ H ⟨ρ, oh, s, rh, rs, h⟩ => h ρ H σ .refl rh rs
theorem rs_expr (he : RE X W e ma) (hs : swapsWith e none pos.line X.env = pure false := by rfl) : RSt X W (.Expr e pos) (sExpr ma) := (ps_expr he hs).imp fun D σ H ⟨ρ, oh, s, rh, rs, h⟩ =>
  ⟨ρ, oh, s, rh, rs, (Out.toS h rs).imp fun d oh1 ρ1 H1 L1 rh1 h1 v rv => h1 ρ1 H1 σ .refl rh1 (L1.reps rs)⟩
theorem rs_ret (he : RE X W e ma) : RSt X W (.Return (some e) pos) (sRet ma) := (ps_ret he).imp fun D σ H ⟨ρ, oh, s, rh, rs, h⟩ =>
  ⟨ρ, oh, s, rh, rs, (Out.toS h rs).imp fun d oh1 ρ1 H1 L1 rh1 h1 v rv => h1 ρ1 H1 v .refl rh1 rv⟩
theorem rs_retN : RSt X W (.Return none pos) sRetN := ps_retN.imp fun D σ H ⟨ρ, oh, s, rh, rs, h⟩ => h ρ H .non .refl rh (by simp [Rep])
theorem rs_set {i : Nat} {x : Str} {pos' : Pos} (hN : X.N.Nodup) (hi : X.N[i]? = some x) (hx : Loc X.env.scope x) (he : RE X W e ma) (hs : swapsWith e (some (.Name x pos')) pos.line X.env = pure false := by rfl) (hf : X.fn x = true ∨ X.env.scope.names.lookup x = some .local := by first | exact .inl rfl | exact .inr rfl | assumption) :
    RSt X W (.Assign [.Name x pos'] e pos) (sSet i ma) := (ps_set hN hi hx he hs hf).imp fun D σ H ⟨ρ, oh, s, rh, rs, h⟩ =>
  ⟨ρ, oh, s, rh, rs, (Out.toS h rs).imp fun d oh1 ρ1 H1 L1 rh1 h1 v rv => h1 ρ1 H1 (σ.set i (some v)) .refl rh1 (RepS.set rv i (L1.reps rs))⟩
theorem rs_if {c : Expr} {a b : List Stmt} (hc : RT X W c na) (ha : RSs X W a m1) (hb : RSs X W b m2) : RSt X W (.If c a b pos) (sIf na m1 m2) := (ps_if hc ha hb).imp fun D σ H ⟨ρ, oh, s, rh, rs, h⟩ => by
  refine ⟨ρ, oh, s, rh, rs, (Out.toS h rs).imp fun c oh1 ρ1 H1 L1 rh1 h1 => ?_⟩
  cases c with
  | true => exact ⟨ρ1, oh1, s, rh1, L1.reps rs, h1⟩
  | false => exact ⟨ρ1, oh1, s, rh1, L1.reps rs, h1⟩
/-! ### targets -/
abbrev GM := D → Ev → OH → Option (Ev × OH)
abbrev GMs := List D → Ev → OH → Option (Ev × OH)
def OutG (X : Cx) (ρ : List Addr) (H : Hp) (o : Option (Ev × OH)) (Q : L2.St → Hp → Prop) : Prop := match o with
  | some (s, oh) => ∀ ρ' H' σ', Later X.K ρ H ρ' H' → RH X.K H' ρ' oh → RepS X.K H' ρ' s σ' → Q σ' H'
  | none => False
def tG (X : Cx) (g : GM) : TG := fun v σ H Q => ∃ ρ oh s d, RH X.K H ρ oh ∧ RepS X.K H ρ s σ ∧ Rep X.K H ρ d v ∧ OutG X ρ H (g d s oh) Q
def tGs (X : Cx) (g : GMs) : TGs := fun vs σ H Q => ∃ ρ oh s ds, RH X.K H ρ oh ∧ RepS X.K H ρ s σ ∧ RepL X.K H ρ ds vs ∧ OutG X ρ H (g ds s oh) Q
abbrev RG (X : Cx) (tg : Expr) (g : GM) : Prop := PG X tg (tG X g)
abbrev RGs (X : Cx) (tg : List Expr) (g : GMs) : Prop := PGs X tg (tGs X g)
end
end SK
namespace L2
open PySem PySem.Spec PyProof.Rows
theorem PG.imp {X : Cx} {e : Expr} {t t' : TG} (h : PG X e t) (f : ∀ v σ H Q, t' v σ H Q → t v σ H Q) : PG X e t' := ⟨fun pins s σ H v u Q I r q => h.run pins s σ H v u Q I r (f _ _ _ _ q)⟩
theorem PGs.imp {X : Cx} {e : List Expr} {t t' : TGs} (h : PGs X e t) (f : ∀ v σ H Q, t' v σ H Q → t v σ H Q) : PGs X e t' := ⟨fun pins s σ H v u Q I r q => h.run pins s σ H v u Q I r (f _ _ _ _ q)⟩
theorem PG.or {X : Cx} {e : Expr} {t t' : TG} (h : PG X e t) (h' : PG X e t') : PG X e (fun v σ H Q => t v σ H Q ∨ t' v σ H Q) := ⟨fun pins s σ H v u Q I r q => q.elim (fun q => h.run pins s σ H v u Q I r q) fun q => h'.run pins s σ H v u Q I r q⟩
theorem PI.imp {X : Cx} {tg e : Expr} {t t' : TI} (h : PI X tg e t) (f : ∀ σ H R, t' σ H R → t σ H R) : PI X tg e t' := ⟨fun pins s σ H R I q => h.run pins s σ H R I (f _ _ _ q)⟩
end L2
namespace SK
open PySem PySem.Spec PyProof.Rows L2
section
variable {X : Cx} {W : WX} {e b : Expr} {es : List Expr} {st : Stmt} {rest : List Stmt} {ma mb : Ev → M D} {ms : Ev → M (List D)} {na : Ev → M Bool} {m1 m2 : SM} {pos : Pos} {g : GM} {gs : GMs}
def gN (i : Nat) : GM := fun d s oh => some (s.set i (some d), oh)
def gNil : GMs := fun ds s oh => match ds with
  | [] => some (s, oh)
  | _ => none
def gCons (g : GM) (gs : GMs) : GMs := fun ds s oh => match ds with
  | [] => none
  | d :: ds => match g d s oh with
    | some (s, oh) => gs ds s oh
    | none => none
def gT (n : Nat) (gs : GMs) : GM := fun d s oh => match d with
  | .tup l => if l.length = n then gs l s oh else none
  | .ref k => match itemsOf oh (.ref k) with
    | some l => if l.length = n then gs l s oh else none
    | none => none
  | _ => none
theorem rg_name {i : Nat} {x : Str} (hN : X.N.Nodup) (hi : X.N[i]? = some x) (hx : Loc X.env.scope x) (hf : X.fn x = true ∨ X.env.scope.names.lookup x = some .local := by first | exact .inl rfl | exact .inr rfl | assumption) : RG X (.Name x pos) (gN i) :=
  (pg_name hN hi hx hf).imp fun v σ H Q ⟨ρ, oh, s, d, rh, rs, r, h⟩ => h ρ H _ .refl rh (RepS.set r i rs)
theorem rgs_nil : RGs X [] gNil := pgs_nil.imp fun v σ H Q ⟨ρ, oh, s, ds, rh, rs, r, h⟩ => by
  cases ds with
  | nil =>
    simp only [RepL] at r
    exact ⟨r, h ρ H σ .refl rh rs⟩
  | cons => exact h.elim
theorem rgs_cons (h1 : RG X e g) (h2 : RGs X es gs) (hs : (assignEach (e :: es) X.env).map (·.2) = assign e X.env :: (assignEach es X.env).map (·.2) := by rfl) : RGs X (e :: es) (gCons g gs) := (pgs_cons h1 h2 hs).imp fun v σ H Q ⟨ρ, oh, s, ds, rh, rs, r, h⟩ => by
  cases ds with
  | nil => exact h.elim
  | cons d ds =>
    simp only [RepL] at r
    obtain ⟨w, ws, rfl, r1, r2⟩ := r
    refine ⟨w, ws, rfl, ρ, oh, s, d, rh, rs, r1, ?_⟩
    simp only [gCons] at h
    cases eg : g d s oh with
    | none => rw [eg] at h; exact h.elim
    | some p =>
      obtain ⟨s1, oh1⟩ := p
      rw [eg] at h
      intro ρ1 H1 σ1 L1 rh1 rs1
      refine ⟨ρ1, oh1, s1, ds, rh1, rs1, L1.repl r2, ?_⟩
      cases e2 : gs ds s1 oh1 with
      | none => simp only [e2] at h; exact h.elim
      | some q =>
        simp only [e2] at h
        exact fun ρ' H' σ' L => h ρ' H' σ' (L1.trans L)
theorem rg_tup {k n : Nat} (hc : X.calm = true) (h : RGs X es gs) (hn : (assignEach es X.env).length = n := by rfl) (hst : (assignEach es X.env).findIdx? (·.1) = none := by rfl) : RG X (.Tuple es k pos) (gT n gs) := ((pg_tup hc h hn hst).or (pg_lst hc h hn hst)).imp fun v σ H Q ⟨ρ, oh, s, d, rh, rs, r, h⟩ => by
  cases d with
  | tup l =>
    simp only [Rep] at r
    obtain ⟨a, xs, rfl, hs, r⟩ := r
    simp only [gT] at h
    split at h
    · rename_i hl
      exact .inl ⟨a, xs, rfl, SqT.of hs, by rw [← r.length]; exact hl, ρ, oh, s, l, rh, rs, r, h⟩
    · exact h.elim
  | ref n =>
    simp only [gT] at h
    split at h
    · rename_i l el
      obtain ⟨p, xs, rfl, hs, q⟩ := items_ref rh r el
      split at h
      · rename_i hl
        exact .inr ⟨p, xs, rfl, hs, by rw [← q.length]; exact hl, ρ, oh, s, l, rh, rs, q, h⟩
      · exact h.elim
    · exact h.elim
  | _ => exact h.elim
/-- o[i] = v -/
def pSetI (o i v : D) (oh : OH) : Option OH := match o, i with
  | .ref n, .int k => match oh[n]? with
    | some (.lst l) => (ixN l.length k).map fun j => oh.set n (.lst (l.set j v))
    | _ => none
  | _, _ => none
def gSub (mo mi : Ev → M D) : GM := fun d s oh => match mo s oh with
  | .ok o oh => match mi s oh with
    | .ok i oh => (pSetI o i d oh).map fun oh => (s, oh)
    | _ => none
  | _ => none
theorem rg_sub {o i : Expr} {mo mi : Ev → M D} (ho : RE X W o mo) (hi : RE X W i mi)
    (ha : ∀ v, assign (.Subscript o i pos) X.env v = (do
      let ov ← holding [v] (eval o X.env)
      let iv ← holding [v, ov] (eval i X.env)
      standAt pos
      holding [v, ov, iv] (setItem ov iv v)
      release [v, ov, iv] []) := by intro _; rfl) : RG X (.Subscript o i pos) (gSub mo mi) := (pg_sub ho hi set_list ha).imp fun v σ H Q ⟨ρ, oh, s, d, rh, rs, r, h⟩ => by
  refine ⟨ρ, oh, s, rh, rs, ?_⟩
  unfold gSub at h
  cases e1 : mo s oh with
  | ok o oh1 =>
    simp only [e1] at h
    intro ρ1 H1 L1 rh1 x rx
    refine ⟨ρ1, oh1, s, rh1, L1.reps rs, ?_⟩
    cases e2 : mi s oh1 with
    | ok j oh2 =>
      simp only [e2] at h
      intro ρ2 H2 L2 rh2 y ry
      have rx2 := L2.rep rx
      have rv2 := (L1.trans L2).rep r
      cases o with
      | ref n =>
        cases j with
        | int k =>
          simp only [Rep] at rx2 ry
          obtain ⟨a, rfl, ga⟩ := rx2
          subst ry
          simp only [pSetI] at h
          split at h
          · rename_i l el
            obtain ⟨xs, hx, q⟩ := rh2.cell _ _ a el ga
            cases ej : ixN l.length k with
            | none => rw [ej] at h; exact h.elim
            | some j =>
              rw [ej] at h
              refine ⟨a, xs, k, j, rfl, rfl, hx, by rw [← q.length]; exact ej, ?_⟩
              obtain ⟨rh3, L3⟩ := rh2.write el ga hx (RepL.set rv2 j q)
              exact h ρ2 _ σ (L1.trans (L2.trans L3)) rh3 ((L1.trans (L2.trans L3)).reps rs)
          · exact h.elim
        | _ => exact h.elim
      | _ => exact h.elim
    | exc c w oh2 => simp only [e2] at h; exact h.elim
    | bad => simp only [e2] at h; exact h.elim
  | exc c w oh2 => simp only [e1] at h; exact h.elim
  | bad => simp only [e1] at h; exact h.elim
def sAsg (m : Ev → M D) (g : GM) : SM := fun s oh => (m s oh).st s fun d oh => match g d s oh with
  | some (s, oh) => .nx s oh
  | none => .bad
theorem rs_asg {tg : Expr} (he : RE X W e ma) (hg : RG X tg g) (hs : swapsWithSole [tg] e pos.line X.env = pure false := by rfl) (hw : swappedStores [tg] e X.env = pure none := by rfl)
    (h1 : (assignEach [tg] X.env).map (·.2) = [assign tg X.env] := by rfl) : RSt X W (.Assign [tg] e pos) (sAsg ma g) := (ps_asg he hg hs hw h1).imp fun D σ H ⟨ρ, oh, s, rh, rs, h⟩ => by
  refine ⟨ρ, oh, s, rh, rs, (Out.toS h rs).imp fun d oh1 ρ1 H1 L1 rh1 h1 v rv => ?_⟩
  refine ⟨ρ1, oh1, s, d, rh1, L1.reps rs, rv, ?_⟩
  cases eg : g d s oh1 with
  | none => simp only [eg] at h1; exact h1.elim
  | some p => simp only [eg] at h1; exact h1
/-- a, b = e1, e2: two locals -/
def sPar2 (i j : Nat) (m : Ev → M (List D)) : SM := fun s oh => (m s oh).st s fun ds oh => match ds with
  | [d, d'] => .nx ((s.set i (some d)).set j (some d')) oh
  | _ => .bad
theorem rs_par {i j : Nat} {x y : Str} {px py pt : Pos} {kt k2 : Nat} {pt2 : Pos} (hc : X.calm = true) (hN : X.N.Nodup) (hi : X.N[i]? = some x) (hj : X.N[j]? = some y)
    (hx : X.env.scope.names.lookup x = some .local) (hy : X.env.scope.names.lookup y = some .local) (ha : RA X W [e, b] ms)
    (hw : swappedStores [.Tuple [.Name x px, .Name y py] kt pt] (.Tuple [e, b] k2 pt2) X.env = pure (some [x, y]) := by rfl) (hij : i ≠ j := by decide)
    (hs : swapsWithSole [.Tuple [.Name x px, .Name y py] kt pt] (.Tuple [e, b] k2 pt2) pos.line X.env = pure false := by rfl) :
    RSt X W (.Assign [.Tuple [.Name x px, .Name y py] kt pt] (.Tuple [e, b] k2 pt2) pos) (sPar2 i j ms) := (ps_par hc hN hi hj hij hx hy ha hw hs).imp fun D σ H ⟨ρ, oh, s, rh, rs, h⟩ => by
  refine ⟨ρ, oh, s, rh, rs, (Out.toS h rs).imp fun ds oh1 ρ1 H1 L1 rh1 h1 vs rv => ?_⟩
  split at h1
  · obtain ⟨v, w, rfl, r1, r2⟩ := rv.two
    exact ⟨v, w, rfl, h1 ρ1 H1 _ .refl rh1 (RepS.set r2 j (RepS.set r1 i (L1.reps rs)))⟩
  · exact h1.elim
/-! ### what is walked -/
inductive Src where
  | val (d : D)
  | rng (lo : Int) (n : Nat)
  | stp (lo c : Int) (n : Nat)
def SrcIt (K : PySem.W.Frag) (H : Hp) (ρ : List Addr) : Src → It → Prop
  | .val (.tup l), J => ∃ a xs, H a = some (.tup xs) ∧ RepL K H ρ l xs ∧ J = Itt K a
  | .val (.ref n), J => ∃ a, ρ[n]? = some a ∧ J = Itl K a
  | .val _, _ => False
  | .rng lo n, J => J = Itr lo n
  | .stp lo c n, J => J = Itc lo c n
def okSrc (oh : OH) : Src → Bool
  | .val d => (itemsOf oh d).isSome
  | .rng _ _ => true
  | .stp _ _ _ => true
def tI (X : Cx) (W : WX) (m : Ev → M Src) : TI := fun σ H R => ∃ ρ oh s, RH X.K H ρ oh ∧ RepS X.K H ρ s σ ∧
  Out X.K X.mg (fun c d H' => W c d σ H') ρ H (m s oh) fun src oh' ρ' H' => okSrc oh' src = true ∧ ∀ J, SrcIt X.K H' ρ' src J → R J H'
abbrev RI (X : Cx) (W : WX) (tg iter : Expr) (m : Ev → M Src) : Prop := PI X tg iter (tI X W m)
def iVal (m : Ev → M D) : Ev → M Src := fun s oh => (m s oh).bnd fun d oh => .ok (.val d) oh
def iRange1 (m : Ev → M (List D)) : Ev → M Src := fun s oh => (m s oh).bnd fun ds oh => match ds with
  | [.int j] => if -(2 ^ 62) ≤ j ∧ j < 2 ^ 62 then .ok (.rng 0 j.toNat) oh else .bad
  | _ => .bad
def iRange2 (m : Ev → M (List D)) : Ev → M Src := fun s oh => (m s oh).bnd fun ds oh => match ds with
  | [.int i, .int j] => if -(2 ^ 62) ≤ i ∧ i < 2 ^ 62 ∧ -(2 ^ 62) ≤ j ∧ j < 2 ^ 62 then .ok (.rng i (j - i).toNat) oh else .bad
  | _ => .bad
def iRange3 (m : Ev → M (List D)) : Ev → M Src := fun s oh => (m s oh).bnd fun ds oh => match ds with
  | [.int i, .int j, .int c] => if -(2 ^ 62) ≤ i ∧ i < 2 ^ 62 ∧ -(2 ^ 62) ≤ j ∧ j < 2 ^ 62 ∧ c = -1 then .ok (.stp i (-1) (i - j).toNat) oh else .bad
  | _ => .bad
theorem ri_seq {tg l : Expr} (hl : RE X W l ma) : RI X W tg l (iVal ma) := by
  refine ⟨fun pins s σ H R I hh => ?_⟩
  obtain ⟨ρ, oh, sv, rh, rs, h⟩ := hh
  refine thn (hl.run pins s σ H (fun x H1 => ∃ (a : Addr) (J : It), x = .ref a ∧ R J H1 ∧ ((J = Itl X.K a ∧ ∃ xs, SqL X.K H1 a xs) ∨ (J = Itt X.K a ∧ ∃ xs, SqT X.K H1 a xs))) I ⟨ρ, oh, sv, rh, rs, ?_⟩) fun v s1 ⟨x, H1, I1, r1, a, J, ex, qr, qj⟩ => ?_
  · refine (Out.bnd h).imp fun d oh1 ρ1 H1 L1 rh1 ⟨_, _, h1⟩ x rx => ?_
    obtain ⟨hk, hJ⟩ := h1 ρ1 H1 .refl rh1
    cases d with
    | tup l =>
      simp only [Rep] at rx
      obtain ⟨a, xs, rfl, hs, r⟩ := rx
      exact ⟨a, _, rfl, hJ (Itt X.K a) ⟨a, xs, hs, r, rfl⟩, .inr ⟨rfl, xs, SqT.of hs⟩⟩
    | ref n =>
      simp only [okSrc, Option.isSome_iff_exists] at hk
      obtain ⟨l, el⟩ := hk
      obtain ⟨p, xs, rfl, hs, r⟩ := items_ref rh1 rx el
      simp only [Rep] at rx
      obtain ⟨p', e', gp⟩ := rx
      cases e'
      exact ⟨p, _, rfl, hJ (Itl X.K p) ⟨p, gp, rfl⟩, .inl ⟨rfl, xs, hs⟩⟩
    | _ => cases hk
  · subst ex
    obtain rfl : v = Value.ref a := r1
    have nw := I1.hok.fresh (Nat.le_refl s1.heap.objs.size)
    have fpk : ∀ b ∈ [s1.heap.objs.size], FpOk X pins H1 b := fun b hb => by
      rw [List.mem_singleton] at hb
      rw [hb]
      exact I1.fpOk (Nat.le_refl _) nw
    rcases qj with ⟨rfl, xs, hs⟩ | ⟨rfl, xs, hs⟩
    · obtain ⟨its, _, pl, _⟩ := I1.list hs
      exact wpAny_pyIter_list pl.isList ⟨_, _, _, _, H1, rfl, I1.kept (t' := s1.toks) (fun _ _ z => Heap.get?_push_of_some _ z), turn_list a _, ⟨_, Heap.get?_push_size _ rfl, rfl, rfl⟩, fpk, qr⟩
    · obtain ⟨its, _, pl, _⟩ := I1.tuple hs
      exact wpAny_pyIter_tuple (show s1.heap.IsTuple a its.toArray from pl) ⟨_, _, _, _, H1, rfl, I1.kept (t' := s1.toks) (fun _ _ z => Heap.get?_push_of_some _ z), turn_tuple a _, ⟨_, Heap.get?_push_size _ rfl, rfl, rfl⟩, fpk, qr⟩
theorem ri_range1 {tg : Expr} {p : Pos} (hm : X.mg "range" = none) (ha : RA X W [e] ms) (hg : Gl X "range" := by rfl) (hs : starEach [e] X.env = [(false, eval e X.env)] := by rfl) : RI X W tg (.Call (.Name "range" p) [e] [] pos) (iRange1 ms) := (pi_range1 hg hm ha hs).imp fun σ H R ⟨ρ, oh, s, rh, rs, h⟩ => by
  refine ⟨ρ, oh, s, rh, rs, (Out.bnd h).imp fun ds oh1 ρ1 H1 L1 rh1 ⟨_, _, h1⟩ vs rv => ?_⟩
  split at h1
  · obtain ⟨v, rfl, r1⟩ := rv.one
    simp only [Rep] at r1
    subst r1
    split at h1
    · rename_i hz
      exact ⟨_, rfl, hz.1, hz.2, (h1 ρ1 H1 .refl rh1).2 _ rfl⟩
    · exact h1.elim
  · exact h1.elim
theorem ri_range2 {tg : Expr} {p : Pos} (hm : X.mg "range" = none) (ha : RA X W [e, b] ms) (hg : Gl X "range" := by rfl) (hs : starEach [e, b] X.env = [(false, eval e X.env), (false, eval b X.env)] := by rfl) (hs2 : starEach [b] X.env = [(false, eval b X.env)] := by rfl) : RI X W tg (.Call (.Name "range" p) [e, b] [] pos) (iRange2 ms) := (pi_range2 hg hm ha hs hs2).imp fun σ H R ⟨ρ, oh, s, rh, rs, h⟩ => by
  refine ⟨ρ, oh, s, rh, rs, (Out.bnd h).imp fun ds oh1 ρ1 H1 L1 rh1 ⟨_, _, h1⟩ vs rv => ?_⟩
  split at h1
  · obtain ⟨v, w, rfl, r1, r2⟩ := rv.two
    simp only [Rep] at r1 r2
    subst r1; subst r2
    split at h1
    · rename_i hz
      exact ⟨_, _, rfl, hz, (h1 ρ1 H1 .refl rh1).2 _ rfl⟩
    · exact h1.elim
  · exact h1.elim
theorem rep_abc {K : PySem.W.Frag} {H : Hp} {ρ : List Addr} {d d' d2 : D} {xs : List V} (r : RepL K H ρ [d, d', d2] xs) : ∃ v w u, xs = [v, w, u] ∧ Rep K H ρ d v ∧ Rep K H ρ d' w ∧ Rep K H ρ d2 u := by
  simp only [RepL] at r
  obtain ⟨v, vs, rfl, r, w, ws, rfl, r', u, us, rfl, r2, rfl⟩ := r
  exact ⟨v, w, u, rfl, r, r', r2⟩
theorem ri_range3 {tg c : Expr} {p : Pos} (hm : X.mg "range" = none) (ha : RA X W [e, b, c] ms) (hg : Gl X "range" := by rfl) (hs : starEach [e, b, c] X.env = (false, eval e X.env) :: starEach [b, c] X.env := by rfl) (hpl : (backTo pos (starEach [b, c] X.env)).any (·.1) = false := by rfl) : RI X W tg (.Call (.Name "range" p) [e, b, c] [] pos) (iRange3 ms) := (pi_range3 hg hm ha hs hpl).imp fun σ H R ⟨ρ, oh, s, rh, rs, h⟩ => by
  refine ⟨ρ, oh, s, rh, rs, (Out.bnd h).imp fun ds oh1 ρ1 H1 L1 rh1 ⟨_, _, h1⟩ vs rv => ?_⟩
  split at h1
  · obtain ⟨v, w, u, rfl, r1, r2, r3⟩ := rep_abc rv
    simp only [Rep] at r1 r2 r3
    subst r1; subst r2; subst r3
    split at h1
    · rename_i hz
      obtain ⟨h1', h2, h3, h4, rfl⟩ := hz
      exact ⟨_, _, _, _, rfl, RgC.neg h1' h2 h3 h4, (h1 ρ1 H1 .refl rh1).2 _ rfl⟩
    · exact h1.elim
  · exact h1.elim
/-! ### loops -/
def loopT (g : GM) (body : SM) : List D → SM
  | [], s, oh => .nx s oh
  | d :: ds, s, oh => match g d s oh with
    | none => .bad
    | some (s1, oh1) => match body s1 oh1 with
      | .nx s2 oh2 => loopT g body ds s2 oh2
      | .ct s2 oh2 => loopT g body ds s2 oh2
      | .bk s2 oh2 => .nx s2 oh2
      | r => r
def loopR (g : GM) (body : SM) (k : Nat) : Nat → Nat → SM
  | 0, _, _, _ => .bad
  | f + 1, i, s, oh => match itemsOf oh (.ref k) with
    | none => .bad
    | some l => match l[i]? with
      | none => .nx s oh
      | some d => match g d s oh with
        | none => .bad
        | some (s1, oh1) => match body s1 oh1 with
          | .nx s2 oh2 => loopR g body k f (i + 1) s2 oh2
          | .ct s2 oh2 => loopR g body k f (i + 1) s2 oh2
          | .bk s2 oh2 => .nx s2 oh2
          | r => r
def sFor (m : Ev → M Src) (g : GM) (body : SM) : SM := fun s oh => (m s oh).st s fun src oh => match src with
  | .rng lo n => loopT g body ((List.range n).map fun (i : Nat) => D.int (lo + (i : Int))) s oh
  | .stp lo c n => loopT g body ((List.range n).map fun (i : Nat) => D.int (lo + (i : Int) * c)) s oh
  | .val (.tup l) => loopT g body l s oh
  | .val (.ref k) => match itemsOf oh (.ref k) with
    | some l => loopR g body k (l.length + 1) 0 s oh
    | none => .bad
  | .val _ => .bad
/-- one turn -/
theorem turn_of {ρ : List Addr} {H : Hp} {σ : L2.St} {s : Ev} {oh : OH} {d : D} {x : V} {k : SM} {D0 : Ends} {N : L2.St → Hp → Prop} (rh : RH X.K H ρ oh) (rs : RepS X.K H ρ s σ) (rx : Rep X.K H ρ d x)
    (h : OutS X.K X.mg W ρ H (match g d s oh with
      | none => .bad
      | some (s1, oh1) => match m1 s1 oh1 with
        | .nx s2 oh2 => k s2 oh2
        | .ct s2 oh2 => k s2 oh2
        | .bk s2 oh2 => .nx s2 oh2
        | r => r) D0) (hN : ∀ ρ' H' σ' s' oh', Later X.K ρ H ρ' H' → RH X.K H' ρ' oh' → RepS X.K H' ρ' s' σ' → OutS X.K X.mg W ρ' H' (k s' oh') D0 → N σ' H') :
    tG X g x σ H fun σ2 H2 => tS X W m1 { D0 with nx := N, ct := N, bk := D0.nx } σ2 H2 := by
  refine ⟨ρ, oh, s, d, rh, rs, rx, ?_⟩
  cases eg : g d s oh with
  | none => rw [eg] at h; exact h.elim
  | some p =>
    obtain ⟨s1, oh1⟩ := p
    rw [eg] at h
    intro ρ1 H1 σ1 L1 rh1 rs1
    refine ⟨ρ1, oh1, s1, rh1, rs1, ?_⟩
    dsimp only at h
    cases eb : m1 s1 oh1 with
    | nx s2 oh2 =>
      rw [eb] at h
      exact fun ρ2 H2 σ2 L2 rh2 rs2 => hN ρ2 H2 σ2 s2 oh2 (L1.trans L2) rh2 rs2 (OutS.later (r := k s2 oh2) h (L1.trans L2))
    | ct s2 oh2 =>
      rw [eb] at h
      exact fun ρ2 H2 σ2 L2 rh2 rs2 => hN ρ2 H2 σ2 s2 oh2 (L1.trans L2) rh2 rs2 (OutS.later (r := k s2 oh2) h (L1.trans L2))
    | bk s2 oh2 =>
      rw [eb] at h
      exact fun ρ2 H2 σ2 L2 => h ρ2 H2 σ2 (L1.trans L2)
    | rt d2 oh2 =>
      rw [eb] at h
      exact fun ρ2 H2 v L2 => h ρ2 H2 v (L1.trans L2)
    | exc c w s2 oh2 =>
      rw [eb] at h
      exact fun ρ2 H2 σ2 dd v C L2 => h ρ2 H2 σ2 dd v C (L1.trans L2)
    | bad => rw [eb] at h; exact h
theorem drop_at {l : List D} {i : Nat} {d : D} (h : l[i]? = some d) : l.drop i = d :: l.drop (i + 1) := by
  obtain ⟨hi, e⟩ := List.getElem?_eq_some_iff.mp h
  rw [List.drop_eq_getElem_cons hi, e]
/-- a walk over items that stand -/
theorem for_items {l : List D} {J : It} {ρ : List Addr} {H : Hp} {σ : L2.St} {s : Ev} {oh : OH} {D0 : Ends} (rh : RH X.K H ρ oh) (rs : RepS X.K H ρ s σ)
    (hgo : ∀ (i : Nat) d ρ' H', Later X.K ρ H ρ' H' → l[i]? = some d → J.go i H' ∧ ∀ x H'', J.yld i H' x H'' → H'' = H' ∧ Rep X.K H' ρ' d x)
    (hst : ∀ (i : Nat) ρ' H', Later X.K ρ H ρ' H' → l.length ≤ i → J.stop i H') (h : OutS X.K X.mg W ρ H (loopT g m1 l s oh) D0) :
    ∃ Wt : Nat → Nat → L2.St → Hp → Prop, (∃ m, Wt 0 m σ H) ∧ ∀ i m σ H, Wt i m σ H →
      (J.stop i H ∧ D0.nx σ H) ∨ (J.go i H ∧ ∃ N : L2.St → Hp → Prop, (∀ σ' H', N σ' H' → ∃ m', m' < m ∧ Wt (i + 1) m' σ' H') ∧ ∀ x H', J.yld i H x H' → tG X g x σ H' fun σ2 H2 => tS X W m1 { D0 with nx := N, ct := N, bk := D0.nx } σ2 H2) := by
  refine ⟨fun i m σ' H' => ∃ ρ' oh' s', Later X.K ρ H ρ' H' ∧ RH X.K H' ρ' oh' ∧ RepS X.K H' ρ' s' σ' ∧ m + i = l.length ∧ OutS X.K X.mg W ρ' H' (loopT g m1 (l.drop i) s' oh') D0,
    ⟨l.length, ρ, oh, s, .refl, rh, rs, by omega, by rw [List.drop_zero]; exact h⟩, ?_⟩
  rintro i m σ' H' ⟨ρ', oh', s', L', rh', rs', em, h'⟩
  cases ed : l[i]? with
  | none =>
    have hi : l.length ≤ i := List.getElem?_eq_none_iff.mp ed
    rw [List.drop_of_length_le hi] at h'
    exact .inl ⟨hst i ρ' H' L' hi, h' ρ' H' σ' .refl rh' rs'⟩
  | some d =>
    have hi : i < l.length := (List.getElem?_eq_some_iff.mp ed).1
    obtain ⟨g1, g2⟩ := hgo i d ρ' H' L' ed
    refine .inr ⟨g1, fun σ2 H2 => ∃ ρ2 oh2 s2, Later X.K ρ H ρ2 H2 ∧ RH X.K H2 ρ2 oh2 ∧ RepS X.K H2 ρ2 s2 σ2 ∧ OutS X.K X.mg W ρ2 H2 (loopT g m1 (l.drop (i + 1)) s2 oh2) D0, fun σ2 H2 ⟨ρ2, oh2, s2, a, b, c, d⟩ => ⟨m - 1, by omega, ρ2, oh2, s2, a, b, c, by omega, d⟩, fun x H'' y => ?_⟩
    obtain ⟨rfl, rx⟩ := g2 x H'' y
    rw [drop_at ed] at h'
    exact turn_of (k := loopT g m1 (l.drop (i + 1))) (D0 := D0) rh' rs' rx h' fun ρ2 H2 σ2 s2 oh2 L2 rh2 rs2 h2 => ⟨ρ2, oh2, s2, L'.trans L2, rh2, rs2, h2⟩
/-- a walk over an own list -/
theorem for_cell {k f : Nat} {a : Addr} {ρ : List Addr} {H : Hp} {σ : L2.St} {s : Ev} {oh : OH} {D0 : Ends} (rh : RH X.K H ρ oh) (rs : RepS X.K H ρ s σ) (ga : ρ[k]? = some a) (h : OutS X.K X.mg W ρ H (loopR g m1 k f 0 s oh) D0) :
    ∃ Wt : Nat → Nat → L2.St → Hp → Prop, (∃ m, Wt 0 m σ H) ∧ ∀ i m σ H, Wt i m σ H →
      ((Itl X.K a).stop i H ∧ D0.nx σ H) ∨ ((Itl X.K a).go i H ∧ ∃ N : L2.St → Hp → Prop, (∀ σ' H', N σ' H' → ∃ m', m' < m ∧ Wt (i + 1) m' σ' H') ∧ ∀ x H', (Itl X.K a).yld i H x H' → tG X g x σ H' fun σ2 H2 => tS X W m1 { D0 with nx := N, ct := N, bk := D0.nx } σ2 H2) := by
  refine ⟨fun i m σ' H' => ∃ ρ' oh' s', Later X.K ρ H ρ' H' ∧ RH X.K H' ρ' oh' ∧ RepS X.K H' ρ' s' σ' ∧ OutS X.K X.mg W ρ' H' (loopR g m1 k m i s' oh') D0, ⟨f, ρ, oh, s, .refl, rh, rs, h⟩, ?_⟩
  rintro i m σ' H' ⟨ρ', oh', s', L', rh', rs', h'⟩
  have ga' := pre_get L'.pre ga
  cases m with
  | zero => exact h'.elim
  | succ m =>
    unfold loopR at h'
    cases el : itemsOf oh' (.ref k) with
    | none => simp only [el] at h'; exact h'.elim
    | some l =>
      simp only [el] at h'
      obtain ⟨p, xs, ep, hs, r⟩ := items_ref rh' (x := .ref a) (by simp only [Rep]; exact ⟨a, rfl, ga'⟩) el
      cases ep
      cases ed : l[i]? with
      | none =>
        simp only [ed] at h'
        have hi : l.length ≤ i := List.getElem?_eq_none_iff.mp ed
        exact .inl ⟨⟨xs, hs, by rw [← r.length]; exact hi⟩, h' ρ' H' σ' .refl rh' rs'⟩
      | some d =>
        simp only [ed] at h'
        obtain ⟨v, ev, rv⟩ := r.get ed
        refine .inr ⟨⟨xs, v, hs, ev⟩, fun σ2 H2 => ∃ ρ2 oh2 s2, Later X.K ρ H ρ2 H2 ∧ RH X.K H2 ρ2 oh2 ∧ RepS X.K H2 ρ2 s2 σ2 ∧ OutS X.K X.mg W ρ2 H2 (loopR g m1 k m (i + 1) s2 oh2) D0, fun σ2 H2 q => ⟨m, by omega, q⟩, fun x H'' y => ?_⟩
        obtain ⟨rfl, fx⟩ := y
        have ex : v = x := Option.some.inj (ev.symm.trans (fx xs hs))
        subst ex
        exact turn_of (k := loopR g m1 k m (i + 1)) (D0 := D0) rh' rs' rv h' fun ρ2 H2 σ2 s2 oh2 L2 rh2 rs2 h2 => ⟨ρ2, oh2, s2, L'.trans L2, rh2, rs2, h2⟩
theorem rs_for {tg iter : Expr} {body : List Stmt} {mi : Ev → M Src} (hp : PassesOwn (model X.prog X.w) X.A X.env X.xe) (hc : X.calm = true) (hi : RI X W tg iter mi) (hg : RG X tg g) (hb : RSs X W body m1)
    (hs : ∀ x, foldedSetIterable iter X.env x = pure x := by intro _; rfl) : RSt X W (.For tg iter body [] pos) (sFor mi g m1) := (ps_for hp hc hi hg hb hs).imp fun D0 σ H ⟨ρ, oh, s, rh, rs, h⟩ => by
  refine ⟨ρ, oh, s, rh, rs, ((Out.toS h rs).imp fun src oh1 ρ1 H1 L1 rh1 h1 => ?_)⟩
  cases src with
  | rng lo n =>
    refine ⟨rfl, fun J eJ => ?_⟩
    have eJ : J = Itr lo n := eJ
    subst eJ
    refine for_items rh1 (L1.reps rs) (fun i d ρ' H' _ ed => ?_) (fun i ρ' H' _ hi => by
      have hi : n ≤ i := by simpa using hi
      exact hi) h1
    rw [List.getElem?_map] at ed
    cases er : (List.range n)[i]? with
    | none => rw [er] at ed; cases ed
    | some j =>
      rw [er] at ed
      cases ed
      have hj := (List.getElem?_eq_some_iff.mp er)
      obtain ⟨hi, ej⟩ := hj
      simp at hi ej
      subst ej
      exact ⟨hi, fun x H'' y => ⟨y.1, by rw [y.2]; simp [Rep]⟩⟩
  | stp lo c n =>
    refine ⟨rfl, fun J eJ => ?_⟩
    have eJ : J = Itc lo c n := eJ
    subst eJ
    refine for_items rh1 (L1.reps rs) (fun i d ρ' H' _ ed => ?_) (fun i ρ' H' _ hi => by
      have hi : n ≤ i := by simpa using hi
      exact hi) h1
    rw [List.getElem?_map] at ed
    cases er : (List.range n)[i]? with
    | none => rw [er] at ed; cases ed
    | some j =>
      rw [er] at ed
      cases ed
      have hj := (List.getElem?_eq_some_iff.mp er)
      obtain ⟨hi, ej⟩ := hj
      simp at hi ej
      subst ej
      exact ⟨hi, fun x H'' y => ⟨y.1, by rw [y.2]; simp [Rep]⟩⟩
  | val d =>
    cases d with
    | tup l =>
      refine ⟨rfl, fun J eJ => ?_⟩
      obtain ⟨a, xs, hs, r, rfl⟩ := eJ
      refine for_items rh1 (L1.reps rs) (fun i d ρ' H' L' ed => ?_) (fun i ρ' H' L' hi => ⟨xs, SqT.of (L'.tup _ _ hs), by rw [← r.length]; exact hi⟩) h1
      obtain ⟨v, ev, rv⟩ := r.get ed
      refine ⟨⟨xs, v, SqT.of (L'.tup _ _ hs), ev⟩, fun x H'' y => ⟨y.1, ?_⟩⟩
      have ex : v = x := Option.some.inj (ev.symm.trans (y.2 xs (SqT.of (L'.tup _ _ hs))))
      subst ex
      exact L'.rep rv
    | ref k =>
      dsimp only at h1
      cases el : itemsOf oh1 (.ref k) with
      | none => simp only [el] at h1; exact h1.elim
      | some l =>
        simp only [el] at h1
        refine ⟨by simp [okSrc, el], fun J eJ => ?_⟩
        obtain ⟨a, ga, rfl⟩ := eJ
        exact for_cell rh1 (L1.reps rs) ga h1
    | _ => exact h1.elim
def loopW (t : Ev → M Bool) (body : SM) : Nat → SM
  | 0, _, _ => .bad
  | f + 1, s, oh => (t s oh).st s fun c oh => if c then match body s oh with
      | .nx s2 oh2 => loopW t body f s2 oh2
      | .ct s2 oh2 => loopW t body f s2 oh2
      | .bk s2 oh2 => .nx s2 oh2
      | r => r else .nx s oh
open Classical in
noncomputable def sWhile (t : Ev → M Bool) (body : SM) : SM := fun s oh => if h : ∃ f, loopW t body f s oh ≠ .bad then loopW t body (Classical.choose h) s oh else .bad
theorem loopW_more (t : Ev → M Bool) (body : SM) : ∀ (f : Nat) (s : Ev) (oh : OH), loopW t body f s oh ≠ .bad → loopW t body (f + 1) s oh = loopW t body f s oh
  | 0, _, _, h => absurd rfl h
  | f + 1, s, oh, h => by
    rw [loopW.eq_2 (f := f)] at h ⊢
    rw [loopW.eq_2 (f := f + 1)]
    cases et : t s oh with
    | ok c oh1 =>
      rw [et] at h
      simp only [R.st] at h ⊢
      cases c with
      | false => rfl
      | true =>
        simp only [if_true] at h ⊢
        cases eb : body s oh1 with
        | nx s2 oh2 => simp only [eb] at h; exact loopW_more t body f s2 oh2 h
        | ct s2 oh2 => simp only [eb] at h; exact loopW_more t body f s2 oh2 h
        | _ => rfl
    | exc c w oh1 => rfl
    | bad => rfl
theorem loopW_le {t : Ev → M Bool} {body : SM} {f g : Nat} {s : Ev} {oh : OH} (h : loopW t body f s oh ≠ .bad) (hfg : f ≤ g) : loopW t body g s oh = loopW t body f s oh := by
  induction hfg with
  | refl => rfl
  | step _ ih => exact (loopW_more t body _ s oh (by rw [ih]; exact h)).trans ih
theorem sWhile_of {t : Ev → M Bool} {body : SM} {f : Nat} {s : Ev} {oh : OH} {r : RS} (h : loopW t body f s oh = r) (hr : r ≠ .bad) : sWhile t body s oh = r := by
  have hx : ∃ f, loopW t body f s oh ≠ .bad := ⟨f, by rw [h]; exact hr⟩
  unfold sWhile
  rw [dif_pos hx]
  have h1 := Classical.choose_spec hx
  have h2 : loopW t body f s oh ≠ .bad := by rw [h]; exact hr
  rw [← h]
  rcases Nat.le_total f (Classical.choose hx) with q | q
  · exact loopW_le h2 q
  · exact (loopW_le h1 q).symm
theorem sWhile_fuel {t : Ev → M Bool} {body : SM} {s : Ev} {oh : OH} (h : sWhile t body s oh ≠ .bad) : ∃ f, loopW t body f s oh = sWhile t body s oh := by
  unfold sWhile at h ⊢
  split at h
  · rename_i hx
    rw [dif_pos hx]
    exact ⟨_, rfl⟩
  · exact absurd rfl h
theorem rs_while {c : Expr} {body : List Stmt} (hp : PassesOwn (model X.prog X.w) X.A X.env X.xe) (hc : RT X W c na) (hb : RSs X W body m1) : RSt X W (.While c body [] pos) (sWhile na m1) := (ps_while hp hc hb).imp fun D0 σ H ⟨ρ, oh, s, rh, rs, h⟩ => by
  have hnb : sWhile na m1 s oh ≠ .bad := fun z => by rw [z] at h; exact h
  obtain ⟨f, ef⟩ := sWhile_fuel hnb
  rw [← ef] at h
  refine ⟨fun m σ' H' => ∃ ρ' oh' s', Later X.K ρ H ρ' H' ∧ RH X.K H' ρ' oh' ∧ RepS X.K H' ρ' s' σ' ∧ OutS X.K X.mg W ρ' H' (loopW na m1 m s' oh') D0, ⟨f, ρ, oh, s, .refl, rh, rs, h⟩, ?_⟩
  rintro m σ' H' ⟨ρ', oh', s', L', rh', rs', h'⟩
  cases m with
  | zero => exact h'.elim
  | succ m =>
    unfold loopW at h'
    refine ⟨ρ', oh', s', rh', rs', (Out.toS h' rs').imp fun c oh1 ρ1 H1 L1 rh1 h1 => ?_⟩
    cases c with
    | false => exact h1 ρ1 H1 σ' .refl rh1 (L1.reps rs')
    | true =>
      refine ⟨fun σ2 H2 => ∃ ρ2 oh2 s2, Later X.K ρ H ρ2 H2 ∧ RH X.K H2 ρ2 oh2 ∧ RepS X.K H2 ρ2 s2 σ2 ∧ OutS X.K X.mg W ρ2 H2 (loopW na m1 m s2 oh2) D0, fun σ2 H2 q => ⟨m, by omega, q⟩, ρ1, oh1, s', rh1, L1.reps rs', ?_⟩
      simp only [if_true] at h1
      cases eb : m1 s' oh1 with
      | nx s2 oh2 =>
        simp only [eb] at h1
        exact fun ρ2 H2 σ2 L2 rh2 rs2 => ⟨ρ2, oh2, s2, L'.trans (L1.trans L2), rh2, rs2, OutS.later (r := loopW na m1 m s2 oh2) h1 L2⟩
      | ct s2 oh2 =>
        simp only [eb] at h1
        exact fun ρ2 H2 σ2 L2 rh2 rs2 => ⟨ρ2, oh2, s2, L'.trans (L1.trans L2), rh2, rs2, OutS.later (r := loopW na m1 m s2 oh2) h1 L2⟩
      | bk s2 oh2 => simp only [eb] at h1; exact h1
      | rt d2 oh2 => simp only [eb] at h1; exact h1
      | exc c w s2 oh2 => simp only [eb] at h1; exact h1
      | bad => simp only [eb] at h1; exact h1.elim
/-! ### defs -/
def mkFn (n : Nat) (body : SM) : Fn := fun ds oh => match body (ds.map some ++ List.replicate (n - ds.length) none) oh with
  | .nx _ oh => .ok .non oh
  | .rt d oh => .ok d oh
  | .exc c w _ oh => .exc c w oh
  | _ => .bad
theorem reps_start {K : PySem.W.Frag} {H : Hp} {ρ : List Addr} : ∀ (n : Nat), RepS K H ρ (List.replicate n none) (List.replicate n none)
  | 0 => rfl
  | n + 1 => ⟨none, _, rfl, reps_start n⟩
theorem reps_args {K : PySem.W.Frag} {H : Hp} {ρ : List Addr} {t : Ev} {τ : L2.St} (ht : RepS K H ρ t τ) : ∀ {ds : List D} {vs : List V}, RepL K H ρ ds vs → RepS K H ρ (ds.map some ++ t) (vs.map some ++ τ)
  | [], _, h => by
    simp only [RepL] at h
    subst h
    exact ht
  | d :: ds, _, h => by
    simp only [RepL] at h
    obtain ⟨v, vs, rfl, r, q⟩ := h
    exact ⟨v, _, rfl, r, reps_args ht q⟩
section
variable {P : Program} {w : World} {K : PySem.W.Frag} {mg : Str → Option Value} {base : Heap}
theorem fn_ok {x qual : Str} {sd : Stmt} {f : Addr} {fd : FuncData} {N ps : List Str} {k : Nat} {body : SM} (F : Fun K x qual sd f fd) (S : FnScope N ps (defScope sd))
    (hb : ∀ (cdv : Value) (A : Around) (outer : List Env) (s : Shared) (H : Hp) (E : XK), Room k (A.deeper (envOfC qual (defScope sd) s.heap.objs.size f cdv)) →
      RSs (cxOf (L2.CX P w) P w K mg base N qual (defScope sd) f cdv A outer s H E) (fun cls d _ H => E cls d H) (defBody sd) body) :
    FnOk P w K mg base (L2.CX P w) (k + 1) f fd ps (spF K mg ps.length (mkFn N.length body)) := by
  refine F.okX S (fun vs H Q E h => ?_) (fun cdv A outer s H vs Q E hr h => ⟨_, hb cdv A outer s H E hr, ?_⟩)
  · obtain ⟨_, _, _, h, _⟩ := h
    exact h
  · obtain ⟨ρ, oh, ds, hl, rh, r, h⟩ := h
    refine ⟨ρ, oh, ds.map some ++ List.replicate (N.length - ds.length) none, rh, ?_, ?_⟩
    · unfold L2.start
      rw [r.length]
      exact reps_args (reps_start _) r
    · unfold mkFn at h
      cases eb : body (ds.map some ++ List.replicate (N.length - ds.length) none) oh with
      | nx s1 oh1 =>
        rw [eb] at h
        exact fun ρ' H' σ' L rh' _ => h ρ' H' L rh' _ (by simp [Rep])
      | rt d oh1 =>
        rw [eb] at h
        exact fun ρ' H' v L rh' rv => h ρ' H' L rh' v rv
      | exc c w s1 oh1 =>
        rw [eb] at h
        exact fun ρ' H' σ' dd v C L rh' _ => h ρ' H' dd v C L rh'
      | bk => rw [eb] at h; exact h.elim
      | ct => rw [eb] at h; exact h.elim
      | bad => rw [eb] at h; exact h.elim
/-- a promise of nothing -/
theorem fn_none {f : Addr} {fd : FuncData} {ps : List Str} {k : Nat} : FnOk P w K mg base (L2.CX P w) k f fd ps (spF K mg ps.length fun _ _ => .bad) :=
  ⟨fun vs H Q E h => by obtain ⟨_, _, _, h, _⟩ := h; exact h, fun A outer s H args us vs Q E _ _ _ _ h => by obtain ⟨_, _, _, _, _, _, h⟩ := h; exact h.elim⟩
end
end
end SK
namespace SK
open PySem PySem.Spec PyProof.Rows L2
/-! ### list comprehensions -/
def wipeE (s : Ev) : List Nat → Ev
  | [] => s
  | v :: vs => (wipeE s vs).set v none
section
variable {K : PySem.W.Frag} {H : Hp} {ρ : List Addr}
theorem RepS.unset : ∀ {s : Ev} {σ : L2.St} (i : Nat), RepS K H ρ s σ → RepS K H ρ (s.set i none) (σ.set i none)
  | [], _, _, h => by
    simp only [RepS] at h
    subst h
    exact rfl
  | none :: s, _, 0, h => by
    obtain ⟨v', σ', rfl, t⟩ := h
    exact ⟨none, σ', rfl, t⟩
  | some x :: s, _, 0, h => by
    obtain ⟨v', σ', rfl, _, t⟩ := h
    exact ⟨none, σ', rfl, t⟩
  | none :: s, _, i + 1, h => by
    obtain ⟨v', σ', rfl, t⟩ := h
    exact ⟨v', σ'.set i none, rfl, RepS.unset i t⟩
  | some x :: s, _, i + 1, h => by
    obtain ⟨v', σ', rfl, q, t⟩ := h
    exact ⟨v', σ'.set i none, rfl, q, RepS.unset i t⟩
theorem RepS.wipe {s : Ev} {σ : L2.St} (h : RepS K H ρ s σ) : ∀ vs : List Nat, RepS K H ρ (wipeE s vs) (L2.wipe σ vs)
  | [] => h
  | v :: vs => RepS.unset v (RepS.wipe h vs)
end
theorem wipe_in {σ : L2.St} {i : Nat} : ∀ {vs : List Nat}, i ∈ vs → i < σ.length → (L2.wipe σ vs)[i]? = some none
  | v :: vs, h, hi => by
    unfold L2.wipe
    by_cases e : v = i
    · subst e
      rw [List.getElem?_set_self (by rw [wipe_length]; exact hi)]
    · rw [List.getElem?_set_ne e]
      exact wipe_in ((List.mem_cons.mp h).resolve_left (Ne.symm e)) hi
theorem wipe_set {σ : L2.St} {i : Nat} {x : Option V} {vs : List Nat} (h : i ∈ vs) : L2.wipe (σ.set i x) vs = L2.wipe σ vs := by
  apply List.ext_getElem?
  intro j
  by_cases hj : j ∈ vs
  · by_cases hl : j < σ.length
    · rw [wipe_in hj hl, wipe_in hj (by rw [List.length_set]; exact hl)]
    · rw [List.getElem?_eq_none (by rw [wipe_length, List.length_set]; omega), List.getElem?_eq_none (by rw [wipe_length]; omega)]
  · rw [wipe_out hj, wipe_out hj, List.getElem?_set_ne (fun z => hj (by rw [← z]; exact h))]
theorem wipe_idem {σ : L2.St} {vs : List Nat} : L2.wipe (L2.wipe σ vs) vs = L2.wipe σ vs := by
  apply List.ext_getElem?
  intro j
  by_cases hj : j ∈ vs
  · by_cases hl : j < σ.length
    · rw [wipe_in hj hl, wipe_in hj (by rw [wipe_length]; exact hl)]
    · rw [List.getElem?_eq_none (by rw [wipe_length, wipe_length]; omega), List.getElem?_eq_none (by rw [wipe_length]; omega)]
  · rw [wipe_out hj]
/-- a comprehension's target: a name, or a tuple of names -/
inductive CT where
  | one (i : Nat)
  | many (is : List Nat)
def gNames : List Nat → GMs
  | [] => gNil
  | i :: is => gCons (gN i) (gNames is)
def gNamesV : List Nat → TGs
  | [] => L2.gNil
  | i :: is => L2.gCons (gName i) (gNamesV is)
/-- a tuple alone -/
def gTt (n : Nat) (gs : GMs) : GM := fun d s oh => match d with
  | .tup l => if l.length = n then gs l s oh else none
  | _ => none
def CT.g : CT → GM
  | .one i => gN i
  | .many is => gTt is.length (gNames is)
def CT.v (K : PySem.W.Frag) : CT → TG
  | .one i => gName i
  | .many is => L2.gTup K is.length (gNamesV is)
def CT.ix : CT → List Nat
  | .one i => [i]
  | .many is => is
section
variable {K : PySem.W.Frag} {ρ : List Addr} {H : Hp}
theorem names_run {vs : List Nat} : ∀ (is : List Nat) (l : List D) (xs : List V) (s s' : Ev) (oh oh' : OH) (σ : L2.St), (∀ i ∈ is, i ∈ vs) → RepS K H ρ s σ → RepL K H ρ l xs → gNames is l s oh = some (s', oh') →
    gNamesV is xs σ H fun σ2 H2 => H2 = H ∧ oh' = oh ∧ RepS K H ρ s' σ2 ∧ L2.wipe σ2 vs = L2.wipe σ vs
  | [], l, xs, s, s', oh, oh', σ, hv, rs, r, e => by
    cases l with
    | cons => cases e
    | nil =>
      cases e
      simp only [RepL] at r
      exact ⟨r, rfl, rfl, rs, rfl⟩
  | i :: is, l, xs, s, s', oh, oh', σ, hv, rs, r, e => by
    cases l with
    | nil => cases e
    | cons d l =>
      simp only [RepL] at r
      obtain ⟨v, vs', rfl, r1, r2⟩ := r
      refine ⟨v, vs', rfl, ?_⟩
      have q := names_run is l vs' (s.set i (some d)) s' oh oh' (σ.set i (some v)) (fun j hj => hv j (List.mem_cons_of_mem _ hj)) (RepS.set r1 i rs) r2 e
      rw [wipe_set (hv i List.mem_cons_self)] at q
      exact q
theorem ct_run {vs : List Nat} {c : CT} {d : D} {x : V} {s s' : Ev} {oh oh' : OH} {σ : L2.St} (hv : ∀ i ∈ c.ix, i ∈ vs) (rs : RepS K H ρ s σ) (r : Rep K H ρ d x) (e : c.g d s oh = some (s', oh')) :
    c.v K x σ H fun σ2 H2 => H2 = H ∧ oh' = oh ∧ RepS K H ρ s' σ2 ∧ L2.wipe σ2 vs = L2.wipe σ vs := by
  cases c with
  | one i =>
    cases e
    exact ⟨rfl, rfl, RepS.set r i rs, wipe_set (hv i List.mem_cons_self)⟩
  | many is =>
    cases d with
    | tup l =>
      simp only [Rep] at r
      obtain ⟨a, xs, rfl, hs, r⟩ := r
      simp only [CT.g, gTt] at e
      split at e
      · rename_i hl
        exact ⟨a, xs, rfl, SqT.of hs, by rw [← r.length]; exact hl, names_run is l xs s s' oh oh' σ hv rs r e⟩
      · cases e
    | _ => cases e
end
def W0 : WX := fun _ _ _ _ => False
def compT (n : Nat) (g : GM) (t : Ev → M Bool) (el : Ev → M D) (s : Ev) : List D → OH → Option OH
  | [], oh => some oh
  | d :: ds, oh => match g d s oh with
    | none => none
    | some (s1, oh1) => match t s1 oh1 with
      | .ok b oh2 => if b then match el s1 oh2 with
          | .ok y oh3 => match oh3[n]? with
            | some (.lst acc) => if acc.length < sizeLine then compT n g t el s ds (oh3.set n (.lst (acc ++ [y]))) else none
            | _ => none
          | _ => none
        else compT n g t el s ds oh2
      | _ => none
def compR (n k : Nat) (g : GM) (t : Ev → M Bool) (el : Ev → M D) (s : Ev) : Nat → Nat → OH → Option OH
  | 0, _, _ => none
  | f + 1, i, oh => match itemsOf oh (.ref k) with
    | none => none
    | some l => match l[i]? with
      | none => some oh
      | some d => match g d s oh with
        | none => none
        | some (s1, oh1) => match t s1 oh1 with
          | .ok b oh2 => if b then match el s1 oh2 with
              | .ok y oh3 => match oh3[n]? with
                | some (.lst acc) => if acc.length < sizeLine then compR n k g t el s f (i + 1) (oh3.set n (.lst (acc ++ [y]))) else none
                | _ => none
              | _ => none
            else compR n k g t el s f (i + 1) oh2
          | _ => none
def asRef (n : Nat) (o : Option OH) : R D := match o with
  | some oh => .ok (.ref n) oh
  | none => .bad
def eLc (mi : Ev → M Src) (g : GM) (t : Ev → M Bool) (el : Ev → M D) (vs : List Nat) : Ev → M D := fun s oh => (mi s oh).bnd fun src oh => match src with
  | .rng lo k => asRef oh.length (compT oh.length g t el (wipeE s vs) ((List.range k).map fun (i : Nat) => D.int (lo + (i : Int))) (oh ++ [.lst []]))
  | .stp _ _ _ => .bad
  | .val (.tup l) => asRef oh.length (compT oh.length g t el (wipeE s vs) l (oh ++ [.lst []]))
  | .val (.ref k) => match itemsOf oh (.ref k) with
    | some l => asRef oh.length (compR oh.length k g t el (wipeE s vs) (l.length + 1) 0 (oh ++ [.lst []]))
    | none => .bad
  | .val _ => .bad
def tYesD : Ev → M Bool := fun _ oh => .ok true oh
section
variable {X : Cx} {mt : Ev → M Bool} {me : Ev → M D}
/-- one turn of a comprehension -/
theorem comp_turn {c : CT} {vs : List Nat} {n : Nat} {a : Addr} {ρ : List Addr} {H : Hp} {σ : L2.St} {s : Ev} {oh r : OH} {d : D} {x : V} {k : OH → Option OH} {Nx : Hp → Prop} (hv : ∀ i ∈ c.ix, i ∈ vs) (rh : RH X.K H ρ oh) (rs : RepS X.K H ρ s σ) (rx : Rep X.K H ρ d x) (ga : ρ[n]? = some a)
    (h : (match c.g d s oh with
      | none => none
      | some (s1, oh1) => match mt s1 oh1 with
        | .ok b oh2 => if b then match me s1 oh2 with
            | .ok y oh3 => match oh3[n]? with
              | some (.lst acc) => if acc.length < sizeLine then k (oh3.set n (.lst (acc ++ [y]))) else none
              | _ => none
            | _ => none
          else k oh2
        | _ => none) = some r)
    (hN : ∀ ρ' H' oh', Later X.K ρ H ρ' H' → RH X.K H' ρ' oh' → k oh' = some r → Nx H') :
    c.v X.K x σ H fun σ2 H2 => L2.wipe σ2 vs = L2.wipe σ vs ∧ tT X W0 mt σ2 H2 fun b H3 => if b = true then tE X W0 me σ2 H3 fun y H4 => ∃ acc, H4 a = some (.lst acc) ∧ acc.length < sizeLine ∧ Nx (upd H4 a (.lst (acc ++ [y]))) else Nx H3 := by
  cases eg : c.g d s oh with
  | none => rw [eg] at h; cases h
  | some p =>
    obtain ⟨s1, oh1⟩ := p
    rw [eg] at h
    have mono : ∀ {T T' : L2.St → Hp → Prop}, (∀ σ2 H2, T σ2 H2 → T' σ2 H2) → c.v X.K x σ H T → c.v X.K x σ H T' := by
      intro T T' f
      cases c with
      | one i => exact f _ _
      | many is =>
        rintro ⟨b, xs, e1, e2, e3, e4⟩
        refine ⟨b, xs, e1, e2, e3, ?_⟩
        have go : ∀ (is : List Nat) (xs : List V) (σ : L2.St), gNamesV is xs σ H T → gNamesV is xs σ H T' := by
          intro is
          induction is with
          | nil => exact fun xs σ ⟨e, q⟩ => ⟨e, f _ _ q⟩
          | cons i is ih => exact fun xs σ ⟨v, r, e, q⟩ => ⟨v, r, e, ih _ _ q⟩
        exact go is xs σ e4
    refine mono (fun σ2 H2 q => ?_) (ct_run hv rs rx eg)
    obtain ⟨rfl, rfl, rs2, hw⟩ := q
    refine ⟨hw, ?_⟩
    dsimp only at h
    refine ⟨ρ, oh1, s1, rh, rs2, ?_⟩
    cases et : mt s1 oh1 with
    | exc => rw [et] at h; cases h
    | bad => rw [et] at h; cases h
    | ok b oh2 =>
      rw [et] at h
      intro ρ3 H3 L3 rh3
      cases b with
      | false => exact hN ρ3 H3 oh2 L3 rh3 h
      | true =>
        simp only [if_true] at h ⊢
        refine ⟨ρ3, oh2, s1, rh3, L3.reps rs2, ?_⟩
        cases ee : me s1 oh2 with
        | exc => rw [ee] at h; cases h
        | bad => rw [ee] at h; cases h
        | ok y oh3 =>
          rw [ee] at h
          intro ρ4 H4 L4 rh4 v rv
          dsimp only at h
          split at h
          · rename_i acc ea
            split at h
            · rename_i hz
              have ga4 := pre_get (L3.trans L4).pre ga
              obtain ⟨xs, hx, q⟩ := rh4.cell _ _ a ea ga4
              obtain ⟨rh5, L5⟩ := rh4.write (l := acc ++ [y]) (xs := xs ++ [v]) ea ga4 hx (q.append (by simp only [RepL]; exact ⟨v, [], rfl, rv, rfl⟩))
              exact ⟨xs, hx, by rw [← q.length]; exact hz, hN ρ4 _ _ (L3.trans (L4.trans L5)) rh5 h⟩
            · cases h
          · cases h
theorem comp_items {c : CT} {vs : List Nat} {n : Nat} {a : Addr} {l : List D} {J : It} {ρ : List Addr} {H : Hp} {σ : L2.St} {s : Ev} {oh r : OH} {Q : VK} (hv : ∀ i ∈ c.ix, i ∈ vs) (rh : RH X.K H ρ oh) (rs : RepS X.K H ρ s (L2.wipe σ vs)) (ga : ρ[n]? = some a)
    (hgo : ∀ (i : Nat) d ρ' H', Later X.K ρ H ρ' H' → l[i]? = some d → J.go i H' ∧ ∀ x H'', J.yld i H' x H'' → H'' = H' ∧ Rep X.K H' ρ' d x)
    (hst : ∀ (i : Nat) ρ' H', Later X.K ρ H ρ' H' → l.length ≤ i → J.stop i H') (h : compT n c.g mt me s l oh = some r) (hq : ∀ ρ' H', Later X.K ρ H ρ' H' → RH X.K H' ρ' r → Q (.ref a) H') :
    ∃ Wt : Nat → Nat → Hp → Prop, (∃ m, Wt 0 m H) ∧ ∀ i m H, Wt i m H →
      (J.stop i H ∧ Q (.ref a) H) ∨ (J.go i H ∧ ∃ Nx : Hp → Prop, (∀ H', Nx H' → ∃ m', m' < m ∧ Wt (i + 1) m' H') ∧ ∀ x H', J.yld i H x H' → c.v X.K x (L2.wipe σ vs) H' fun σ2 H2 => L2.wipe σ2 vs = L2.wipe σ vs ∧ tT X W0 mt σ2 H2 fun b H3 =>
        if b = true then tE X W0 me σ2 H3 fun y H4 => ∃ acc, H4 a = some (.lst acc) ∧ acc.length < sizeLine ∧ Nx (upd H4 a (.lst (acc ++ [y]))) else Nx H3) := by
  refine ⟨fun i m H' => ∃ ρ' oh', Later X.K ρ H ρ' H' ∧ RH X.K H' ρ' oh' ∧ m + i = l.length ∧ compT n c.g mt me s (l.drop i) oh' = some r, ⟨l.length, ρ, oh, .refl, rh, by omega, by rw [List.drop_zero]; exact h⟩, ?_⟩
  rintro i m H' ⟨ρ', oh', L', rh', em, h'⟩
  cases ed : l[i]? with
  | none =>
    have hi : l.length ≤ i := List.getElem?_eq_none_iff.mp ed
    rw [List.drop_of_length_le hi] at h'
    cases h'
    exact .inl ⟨hst i ρ' H' L' hi, hq ρ' H' L' rh'⟩
  | some d =>
    have hi : i < l.length := (List.getElem?_eq_some_iff.mp ed).1
    obtain ⟨g1, g2⟩ := hgo i d ρ' H' L' ed
    refine .inr ⟨g1, fun H2 => ∃ ρ2 oh2, Later X.K ρ H ρ2 H2 ∧ RH X.K H2 ρ2 oh2 ∧ compT n c.g mt me s (l.drop (i + 1)) oh2 = some r, fun H2 ⟨ρ2, oh2, p1, p2, p3⟩ => ⟨m - 1, by omega, ρ2, oh2, p1, p2, by omega, p3⟩, fun x H'' y => ?_⟩
    obtain ⟨rfl, rx⟩ := g2 x H'' y
    rw [drop_at ed] at h'
    have q := comp_turn (X := X) (mt := mt) (me := me) (vs := vs) (k := compT n c.g mt me s (l.drop (i + 1))) (Nx := fun H2 => ∃ ρ2 oh2, Later X.K ρ H ρ2 H2 ∧ RH X.K H2 ρ2 oh2 ∧ compT n c.g mt me s (l.drop (i + 1)) oh2 = some r) hv rh' (L'.reps rs) rx (pre_get L'.pre ga) h' fun ρ2 H2 oh2 L2 rh2 h2 => ⟨ρ2, oh2, L'.trans L2, rh2, h2⟩
    rw [wipe_idem] at q
    exact q
theorem comp_cell {c : CT} {vs : List Nat} {n k f : Nat} {a b : Addr} {ρ : List Addr} {H : Hp} {σ : L2.St} {s : Ev} {oh r : OH} {Q : VK} (hv : ∀ i ∈ c.ix, i ∈ vs) (rh : RH X.K H ρ oh) (rs : RepS X.K H ρ s (L2.wipe σ vs)) (ga : ρ[n]? = some a) (gb : ρ[k]? = some b)
    (h : compR n k c.g mt me s f 0 oh = some r) (hq : ∀ ρ' H', Later X.K ρ H ρ' H' → RH X.K H' ρ' r → Q (.ref a) H') :
    ∃ Wt : Nat → Nat → Hp → Prop, (∃ m, Wt 0 m H) ∧ ∀ i m H, Wt i m H →
      ((Itl X.K b).stop i H ∧ Q (.ref a) H) ∨ ((Itl X.K b).go i H ∧ ∃ Nx : Hp → Prop, (∀ H', Nx H' → ∃ m', m' < m ∧ Wt (i + 1) m' H') ∧ ∀ x H', (Itl X.K b).yld i H x H' → c.v X.K x (L2.wipe σ vs) H' fun σ2 H2 => L2.wipe σ2 vs = L2.wipe σ vs ∧ tT X W0 mt σ2 H2 fun b H3 =>
        if b = true then tE X W0 me σ2 H3 fun y H4 => ∃ acc, H4 a = some (.lst acc) ∧ acc.length < sizeLine ∧ Nx (upd H4 a (.lst (acc ++ [y]))) else Nx H3) := by
  refine ⟨fun i m H' => ∃ ρ' oh', Later X.K ρ H ρ' H' ∧ RH X.K H' ρ' oh' ∧ compR n k c.g mt me s m i oh' = some r, ⟨f, ρ, oh, .refl, rh, h⟩, ?_⟩
  rintro i m H' ⟨ρ', oh', L', rh', h'⟩
  have gb' := pre_get L'.pre gb
  cases m with
  | zero => cases h'
  | succ m =>
    unfold compR at h'
    cases el : itemsOf oh' (.ref k) with
    | none => simp only [el] at h'; cases h'
    | some l =>
      simp only [el] at h'
      obtain ⟨p, xs, ep, hs, rl⟩ := items_ref rh' (x := .ref b) (by simp only [Rep]; exact ⟨b, rfl, gb'⟩) el
      cases ep
      cases ed : l[i]? with
      | none =>
        simp only [ed] at h'
        cases h'
        have hi : l.length ≤ i := List.getElem?_eq_none_iff.mp ed
        exact .inl ⟨⟨xs, hs, by rw [← rl.length]; exact hi⟩, hq ρ' H' L' rh'⟩
      | some d =>
        simp only [ed] at h'
        obtain ⟨v, ev, rv⟩ := rl.get ed
        refine .inr ⟨⟨xs, v, hs, ev⟩, fun H2 => ∃ ρ2 oh2, Later X.K ρ H ρ2 H2 ∧ RH X.K H2 ρ2 oh2 ∧ compR n k c.g mt me s m (i + 1) oh2 = some r, fun H2 q => ⟨m, by omega, q⟩, fun x H'' y => ?_⟩
        obtain ⟨rfl, fx⟩ := y
        have ex : v = x := Option.some.inj (ev.symm.trans (fx xs hs))
        subst ex
        have q := comp_turn (X := X) (mt := mt) (me := me) (vs := vs) (k := compR n k c.g mt me s m (i + 1)) (Nx := fun H2 => ∃ ρ2 oh2, Later X.K ρ H ρ2 H2 ∧ RH X.K H2 ρ2 oh2 ∧ compR n k c.g mt me s m (i + 1) oh2 = some r) hv rh' (L'.reps rs) rv (pre_get L'.pre ga) h' fun ρ2 H2 oh2 L2 rh2 h2 => ⟨ρ2, oh2, L'.trans L2, rh2, h2⟩
        rw [wipe_idem] at q
        exact q
theorem lc_imp {W : WX} {mi : Ev → M Src} {c : CT} {vs : List Nat} (hv : ∀ i ∈ c.ix, i ∈ vs) : ∀ σ H Q, tE X W (eLc mi c.g mt me vs) σ H Q → tLc (tI X W mi) (c.v X.K) (tT X W0 mt) (tE X W0 me) vs σ H Q := fun σ H Q ⟨ρ, oh, s, rh, rs, h⟩ => by
  refine ⟨ρ, oh, s, rh, rs, (Out.bnd h).imp fun src oh1 ρ1 H1 L1 rh1 ⟨_, _, h1⟩ => ?_⟩
  have fin : ∀ {o : Option OH} {J : It}, Out X.K X.mg (fun c d H' => W c d σ H') ρ1 H1 (asRef oh1.length o) (fun d _ ρ' H' => ∀ v, Rep X.K H' ρ' d v → Q v H') →
      (∀ (a : Addr) (ρ2 : List Addr) (H2 : Hp) (r : OH), o = some r → H1 a = none → Later X.K ρ1 H1 ρ2 H2 → RH X.K H2 ρ2 (oh1 ++ [.lst []]) → ρ2[oh1.length]? = some a → H2 = upd H1 a (.lst []) → (∀ ρ' H', Later X.K ρ2 H2 ρ' H' → RH X.K H' ρ' r → Q (.ref a) H') →
        ∃ Wt : Nat → Nat → Hp → Prop, (∃ m, Wt 0 m H2) ∧ ∀ i m H, Wt i m H →
          (J.stop i H ∧ Q (.ref a) H) ∨ (J.go i H ∧ ∃ Nx : Hp → Prop, (∀ H', Nx H' → ∃ m', m' < m ∧ Wt (i + 1) m' H') ∧ ∀ x H', J.yld i H x H' → c.v X.K x (L2.wipe σ vs) H' fun σ2 H2 => L2.wipe σ2 vs = L2.wipe σ vs ∧ tT X W0 mt σ2 H2 fun b H3 =>
            if b = true then tE X W0 me σ2 H3 fun y H4 => ∃ acc, H4 a = some (.lst acc) ∧ acc.length < sizeLine ∧ Nx (upd H4 a (.lst (acc ++ [y]))) else Nx H3)) →
      ∀ D, H1 D = none → ∃ Wt : Nat → Nat → Hp → Prop, (∃ m, Wt 0 m (upd H1 D (.lst []))) ∧ ∀ i m H, Wt i m H →
        (J.stop i H ∧ Q (.ref D) H) ∨ (J.go i H ∧ ∃ Nx : Hp → Prop, (∀ H', Nx H' → ∃ m', m' < m ∧ Wt (i + 1) m' H') ∧ ∀ x H', J.yld i H x H' → c.v X.K x (L2.wipe σ vs) H' fun σ2 H2 => L2.wipe σ2 vs = L2.wipe σ vs ∧ tT X W0 mt σ2 H2 fun b H3 =>
          if b = true then tE X W0 me σ2 H3 fun y H4 => ∃ acc, H4 D = some (.lst acc) ∧ acc.length < sizeLine ∧ Nx (upd H4 D (.lst (acc ++ [y]))) else Nx H3) := fun {o J} ho k D hD => by
    cases o with
    | none => exact ho.elim
    | some r =>
      obtain ⟨rh2, L2, g⟩ := rh1.push (l := []) (xs := []) hD (by simp [RepL])
      exact k D _ _ r rfl hD L2 rh2 g rfl fun ρ' H' L' rh' => ho ρ' H' (L2.trans L') rh' _ (by simp only [Rep]; exact ⟨D, rfl, pre_get L'.pre g⟩)
  cases src with
  | stp lo c n => exact h1.elim
  | rng lo n =>
    refine ⟨rfl, fun J eJ => ?_⟩
    have eJ : J = Itr lo n := eJ
    subst eJ
    refine fin h1 fun a ρ2 H2 r er _ L2 rh2 g _ hq => ?_
    refine comp_items hv rh2 ((L1.trans L2).reps rs |>.wipe vs) g (fun i d ρ' H' _ ed => ?_) (fun i ρ' H' _ hi => by
      have hi : n ≤ i := by simpa using hi
      exact hi) er hq
    rw [List.getElem?_map] at ed
    cases er : (List.range n)[i]? with
    | none => rw [er] at ed; cases ed
    | some j =>
      rw [er] at ed
      cases ed
      obtain ⟨hi, ej⟩ := List.getElem?_eq_some_iff.mp er
      simp at hi ej
      subst ej
      exact ⟨hi, fun x H'' y => ⟨y.1, by rw [y.2]; simp [Rep]⟩⟩
  | val d =>
    cases d with
    | tup l =>
      refine ⟨rfl, fun J eJ => ?_⟩
      obtain ⟨p, xs, hs, r, rfl⟩ := eJ
      refine fin h1 fun a ρ2 H2 r2 er _ L2 rh2 g _ hq => ?_
      refine comp_items hv rh2 ((L1.trans L2).reps rs |>.wipe vs) g (fun i d ρ' H' L' ed => ?_) (fun i ρ' H' L' hi => ⟨xs, SqT.of ((L2.trans L').tup _ _ hs), by rw [← r.length]; exact hi⟩) er hq
      obtain ⟨v, ev, rv⟩ := r.get ed
      refine ⟨⟨xs, v, SqT.of ((L2.trans L').tup _ _ hs), ev⟩, fun x H'' y => ⟨y.1, ?_⟩⟩
      have ex : v = x := Option.some.inj (ev.symm.trans (y.2 xs (SqT.of ((L2.trans L').tup _ _ hs))))
      subst ex
      exact (L2.trans L').rep rv
    | ref k =>
      dsimp only at h1
      cases el : itemsOf oh1 (.ref k) with
      | none => simp only [el] at h1; exact h1.elim
      | some l =>
        simp only [el] at h1
        refine ⟨by simp [okSrc, el], fun J eJ => ?_⟩
        obtain ⟨b, gb, rfl⟩ := eJ
        refine fin h1 fun a ρ2 H2 r2 er _ L2 rh2 g _ hq => ?_
        exact comp_cell hv rh2 ((L1.trans L2).reps rs |>.wipe vs) g (pre_get L2.pre gb) er hq
    | _ => exact h1.elim
variable {W : WX} {elt tg iter : Expr} {ifs : List Expr} {scope : Scope} {own : List (Str × Nat)} {pos : Pos} {mi : Ev → M Src} {c : CT}
theorem re_lc (hc : X.calm = true) (hN : X.N.Nodup) (hi : RI X W tg iter mi) (ok : BlkOk X.N X.env.scope scope own) (hv : ∀ i ∈ c.ix, i ∈ own.map (·.2))
    (hg : ∀ (s : Shared) (H : Hp) (C : Addr) (cl : List (Str × Addr)) (fp : List Addr), PG (X.blk s H scope (compEnvC scope cl C X.env) fp) tg (c.v X.K)) (ht : ∀ (s : Shared) (H : Hp) (C : Addr) (cl : List (Str × Addr)) (fp : List Addr), PTs (X.blk s H scope (compEnvC scope cl C X.env) fp) ifs (tT X W0 mt))
    (he : ∀ (s : Shared) (H : Hp) (C : Addr) (cl : List (Str × Addr)) (fp : List Addr), PE (X.blk s H scope (compEnvC scope cl C X.env) fp) elt (tE X W0 me)) (hs : ∀ x, foldedSetIterable iter X.env x = pure x := by intro _; rfl) :
    RE X W (.ListComp elt [⟨tg, iter, ifs, 0⟩] scope pos) (eLc mi c.g mt me (own.map (·.2))) := (pe_lc hc hN hi ok hg ht he hs).imp (lc_imp hv)
theorem rs_lc {i : Nat} {y : Str} {py spos : Pos} (hc : X.calm = true) (hN : X.N.Nodup) (hy : X.N[i]? = some y) (hyl : X.env.scope.names.lookup y = some .local)
    (hsw : swapsWith (.ListComp elt [⟨tg, iter, ifs, 0⟩] scope pos) (some (.Name y py)) spos.line X.env = pure true) (hi : RI X W tg iter mi) (ok : BlkOk X.N X.env.scope scope own) (hv : ∀ i ∈ c.ix, i ∈ own.map (·.2))
    (hg : ∀ (s : Shared) (H : Hp) (C : Addr) (cl : List (Str × Addr)) (fp : List Addr), PG (X.blk s H scope (compEnvC scope cl C X.env) fp) tg (c.v X.K)) (ht : ∀ (s : Shared) (H : Hp) (C : Addr) (cl : List (Str × Addr)) (fp : List Addr), PTs (X.blk s H scope (compEnvC scope cl C X.env) fp) ifs (tT X W0 mt))
    (he : ∀ (s : Shared) (H : Hp) (C : Addr) (cl : List (Str × Addr)) (fp : List Addr), PE (X.blk s H scope (compEnvC scope cl C X.env) fp) elt (tE X W0 me)) (hs : ∀ x, foldedSetIterable iter X.env x = pure x := by intro _; rfl) :
    RSt X W (.Assign [.Name y py] (.ListComp elt [⟨tg, iter, ifs, 0⟩] scope pos) spos) (sSet i (eLc mi c.g mt me (own.map (·.2)))) := (ps_setLc hc hN hy hyl hsw hi ok hg ht he hs).imp fun D0 σ H ⟨ρ, oh, s, rh, rs, h⟩ =>
  lc_imp hv σ H _ ⟨ρ, oh, s, rh, rs, (Out.toS h rs).imp fun d oh1 ρ1 H1 L1 rh1 h1 v rv => h1 ρ1 H1 (σ.set i (some v)) .refl rh1 (RepS.set rv i (L1.reps rs))⟩
theorem rts_nil : PTs X [] (tT X W0 tYesD) := ⟨fun pins s σ H Q I ⟨ρ, oh, sv, rh, rs, h⟩ => pts_nil.run pins s σ H Q I (h ρ H .refl rh)⟩
theorem rts_one {e : Expr} (h : PT X e (tT X W0 mt)) : PTs X [e] (tT X W0 mt) := pts_one h
end
end SK
set_option maxHeartbeats 2000000
namespace SKX
open PySem PySem.W PySem.Calls PyProof.Rows PySem.HandSPX
/-! ### Refused.__init__: super().__init__("refused"), then self.what = what -/
def rA (p1 p2 : Pos) : Arguments := { posonlyargs := [], args := [{ arg := "self", annotation := none, pos := p1 }, { arg := "what", annotation := none, pos := p2 }], vararg := none, kwonlyargs := [], kw_defaults := [], kwarg := none, defaults := [] }
def rB (a0 a1 a2 a3 a4 a5 q1 q2 q3 q4 : Pos) (j : Nat) (tx : Str) : List Stmt :=
  [.Expr (.Call (.Attribute (.Call (.Name "super" a0) [] [] a1) "__init__" a2) [.Constant (.str tx) j a3] [] a4) a5, .Assign [.Attribute (.Name "self" q1) "what" q2] (.Name "what" q3) q4]
def rS : Scope := { kind := .function, names := [(PySem.Str.ofString "self", .local), (PySem.Str.ofString "what", .local), (PySem.Str.ofString "__class__", .free), (PySem.Str.ofString "super", .globalImplicit)], isGenerator := false, isCoroutine := false, more := [] }
structure RefTxt (prog : Program) (K : Frag) (mg : Str → Option Value) (R fI cc cda : Addr) : Prop where
  fn : ∃ (oc : Value) (od : Option Addr) (doc pm : Value) (an : Option Addr) (ct : Value) (osl : Array (Option Value)) (p1 p2 a0 a1 a2 a3 a4 a5 q1 q2 q3 q4 : Pos) (j : Nat) (tx : Str),
    K.lookup fI = some ⟨oc, od, .func (ksFn "__init__" "Refused.__init__" (rA p1 p2) (rB a0 a1 a2 a3 a4 a5 q1 q2 q3 q4 j tx) rS .none .none doc pm an (.ref cda) ct cc), osl⟩ ∧ codeIn K (.ref cda) "Refused.__init__" = true ∧
      ∀ (name : Str) (L f : Addr) (cdv : Value), ∃ pl : Sem Bool, eval (.Call (.Attribute (.Call (.Name "super" a0) [] [] a1) "__init__" a2) [.Constant (.str tx) j a3] [] a4) (ksEnv name rS L f cdv cc) = (do
        let ov ← attributeBase (.Call (.Name "super" a0) [] [] a1) "__init__" (ksEnv name rS L f cdv cc) (eval (.Call (.Name "super" a0) [] [] a1) (ksEnv name rS L f cdv cc))
        standAt a2.atName
        let (f', first) ← holding [ov] (getMethod ov "__init__" pl)
        callWith a4 f' first (backTo a4 (starEach [.Constant (.str tx) j a3] (ksEnv name rS L f cdv cc))) [])
  cell : ∃ cl cld csl, K.lookup cc = some ⟨cl, cld, .cell (some (.ref R)), csl⟩
  code : ∃ ccl cdd vs ccs file tf, K.lookup cda = some ⟨ccl, cdd, .fields vs, ccs⟩ ∧ vs[2]? = some (.str file tf) ∧ ((prog.main.file : Str) == file) = true
  isC : ∃ cd, clsIn K R = some cd
  sup : mg "super" = none
  top : (prog.main.scope.names.lookup ("super" : Str)).isSome = false
  opq : nsIn K cStatics "thirdparty.any" = some none
structure ErrTxt (K : Frag) (mg : Str → Option Value) (R fI : Addr) (c : Str) (C : Addr) : Prop where
  gC : mg c = some (.ref C)
  cls : ∃ nm q N bs bm sn sub ab col dd k0 k1 k2 k3 k5, K.lookup C = some (excClassObj nm q C N bs bm true sn sub ab col dd k0 k1 k2 k3 k5 "ValueError.__new__") ∧ refsVE bm = true
  sa : findIn K (.ref C) "__setattr__" = some (some (.builtin "object.__setattr__"))
  ga : findIn K (.ref C) "__getattribute__" = some (some (.builtin "BaseException.__getattribute__"))
  gg : findIn K (.ref C) "__getattr__" = some none
  noN : findIn K (.ref C) "what" = some none
  iC : findIn K (.ref C) "__init__" = some (some (.ref fI))
  tC : typeIn K (.ref fI) = some (.type "function")
  kC : keepIn K (.ref C) = true
  exC : subIn K (.ref C) (.type "BaseException") = some true
  veC : subIn K (.ref C) (.type "ValueError") = some true
  tyC : typeIn K (.ref C) = some (.type "type")
  hdC : hasDictIn K C = true
  toR : mroIn K C (.ref R) = some true
  sup : ks_superIn K C R "__init__" = some (some (.builtin "ValueError.__init__"))
  ini : excInitIn K C veTail "ValueError.__new__" = true
  clC : findIn K (.ref C) "__class__" = some (some (.builtin "object.__class__"))
  clN : specialIn K (.builtin "object.__class__") "__get__" = some (some (.builtin "getset_descriptor.__get__"))
  clT : takesIn K (.builtin "object.__class__") = some true
  toO : mroIn K C (.type "object") = some true
theorem one_fits (v : Value) : [v].length ≤ sizeLine := by
  rw [sizeLine_eq]
  exact (by decide : 1 ≤ 16777216)
/-- what __init__ leaves of a fresh exception at x -/
structure InitEnd (h h' : Heap) (x C dx t1 : Addr) (v : Value) : Prop where
  keep : ∀ b o, b ≠ x → h.get? b = some o → h'.get? b = some o
  obj : h'.get? x = some { cls := .ref C, dict := some dx, data := .fields #[.ref t1, .none, .none, .none, .bool false, .none] }
  dbig : h.objs.size ≤ dx
  dne : dx ≠ x
  ns : h'.Ns1 dx (fun y => if y = "what" then some v else none)
/-- a made exception -/
structure OwnMade (h h' : Heap) (e C d : Addr) (v : Value) : Prop where
  keep : ∀ b o, h.get? b = some o → h'.get? b = some o
  new : h.objs.size ≤ e
  obj : ∃ oe vs, h'.get? e = some oe ∧ oe.cls = .ref C ∧ oe.dict = some d ∧ oe.data = .fields vs ∧ vs[1]? = some .none
  dbig : h.objs.size ≤ d
  dne : d ≠ e
  ns : h'.Ns1 d (fun y => if y = "what" then some v else none)
section
variable {prog : Program} {w : World} {A : Around} {E : Value → Shared → Prop} {Rr : Result → Shared → Prop} {s : Shared} {K : Frag} {mg : Str → Option Value} {R C fI cc cda : Addr} {c : Str}
theorem init_run (T : RefTxt prog K mg R fI cc cda) (T2 : ErrTxt K mg R fI c C) {x t0 : Addr} {v : Value} (X : K.In s.heap) (hlim : s.heap.NoLimit) (hG : s.heap.Ns mainGlobals mg) (hB : ∃ mb, s.heap.Ns builtinsNs mb ∧ mb "super" = bootBuiltins "super")
    (hx : s.heap.get? x = some (excO C t0)) (hnx : K.lookup x = none) (hgx : mainGlobals ≠ x) (hroom : A.depth < recursionLimit)
    (hq : ∀ h' tk dx t1, InitEnd s.heap h' x C dx t1 v → Rr (.ok (.ret .none)) { s with heap := h', toks := tk }) :
    codeAny (model prog w) A (.call (.ref fI) ⟨[.ref x, v], []⟩) Rr s := by
  obtain ⟨oc, od, doc, pm, an, ct, osl, p1, p2, a0, a1, a2, a3, a4, a5, q1, q2, q3, q4, j, tx, ho, hcd, hmeth⟩ := T.fn
  obtain ⟨nm, q, N, bs, bm, sn, sub, ab, col, dd, k0, k1, k2, k3, k5, hC, hbm⟩ := T2.cls
  obtain ⟨cl, cld, csl, hcell⟩ := T.cell
  obtain ⟨ccl, cdd, vs, ccs, file, tf, hcode, hvs, hfile⟩ := T.code
  obtain ⟨cdR, hR⟩ := T.isC
  have hcl : clsIn K C = some { name := nm, bases := bs, mro := .ref C :: bm, ns := N, qualname := q, hasDict := true, slotNames := sn, subclasses := sub, abstract := ab, collection := col, hasDel := false } := by unfold clsIn; rw [hC] <;> rfl
  refine ks_codeAny_call_defAt (body := rB a0 a1 a2 a3 a4 a5 q1 q2 q3 q4 j tx) (binds := [("self", .ref x), ("what", v)]) hroom (X _ _ ho) rfl hlim (codeRec_of X hcd) rfl (BindsTo.of_eq rfl) (show ∀ x ∈ rS.names, x.2 ≠ .cell by decide +kernel) (fun y hy => ?_) (fun h₀ hns hk => ?_) rfl rfl rfl
  · simp only [List.mem_cons, List.not_mem_nil, or_false] at hy
    rcases hy with rfl | rfl <;> rfl
  have X₁ : K.In h₀ := X.keeps hk
  have hx₁ := hk _ _ hx
  have hxL : s.heap.objs.size ≠ x := Nat.ne_of_gt (Heap.lt_size hx)
  obtain ⟨mb, hb, hbs⟩ := hB
  have oD : ∃ oD, h₀.get? R = some oD ∧ oD.data = .cls cdR := by
    unfold clsIn at hR
    split at hR
    · rename_i c0 d0 cd' sl ho
      cases hR
      exact ⟨_, X₁ _ _ ho, rfl⟩
    · cases hR
  obtain ⟨oD, hD1, hD2⟩ := oD
  have hxC : x ≠ C := fun z => by
    rw [z] at hnx
    rw [hC] at hnx
    cases hnx
  obtain ⟨pl, hpl⟩ := hmeth "Refused.__init__" s.heap.objs.size fI (.ref cda)
  refine ks_wpAt_execs_cons (ks_wpAt_Expr_any (ks_wpAt_MethodCall (pl := pl) ?_ hpl))
  refine ks_wpAt_super_base rfl rfl (by decide) rfl (X₁ _ _ ho) rfl rfl rfl (X₁ _ _ hcode) rfl hvs hfile T.top ?_
  refine ks_loadName_global rfl rfl (loadGlobal_builtin (hG.at fun o e => hk _ _ e) T.sup (hb.at fun o e => hk _ _ e) (hbs.trans (by kernel_rfl : bootBuiltins "super" = some (.type "super"))) ⟨rfl, ?_⟩)
  refine wpAny_loadName_free rfl rfl rfl ⟨_, X₁ _ _ hcell, rfl⟩ ?_
  refine wpAny_loadName_local rfl rfl hns (v := .ref x) (by first | rfl | kernel_rfl) ?_
  refine ks_wpAny_isType_cls hD1 hD2 ⟨rfl, ?_⟩
  refine ks_wpAny_call_super hD1 hD2 hx₁ rfl (fun c e => by cases e) (looks_mroIn X₁ T2.toR) (fun h₁ hso hk₁ => ?_)
  have X₂ := X₁.keeps hk₁
  have hx₂ := hk₁ _ _ hx₁
  have I₂ : InstAt h₁ x (excO C t0) C none := ⟨hx₂, rfl, rfl, trivial⟩
  have hsup := T2.sup
  unfold ks_superIn at hsup
  rw [hcl] at hsup
  have hI : Looks (model prog w) h₁ (isInstance (.ref x) (.type "ValueError")) true := I₂.type.andThen (looks_subIn X₂ T2.veC)
  refine kxs_getMethod kxs_ValueError hso (looks_opaque X₂ T.opq) (l₀ := .ref C :: bm) (fun A Q E s k q => wpAny_bind ((looks_clsIn X₂ hcl) A _ E s k (wpAny_pure q))) rfl X₂ hsup hI hxC (by decide) ?_
  refine kxs_callWith (i := "ValueError.__init__") (x := x) (by first | rfl | decide) ?_
  have hu : (h₁.push (kxs_mw "ValueError.__init__" x)).get? h₁.objs.size = some (kxs_mw "ValueError.__init__" x) := Heap.get?_push_at rfl rfl
  have hk₂ : ∀ b o, h₁.get? b = some o → (h₁.push (kxs_mw "ValueError.__init__" x)).get? b = some o := fun b o e => Heap.get?_push_of_some _ e
  refine evalArgs_plain (Calls.spliced_cons (Constant_str (k := j) (pos := a3) ?_))
  refine Calls.spliced_nil ⟨hu, ?_⟩
  refine wpAny_call (codeAny_of_tree ?_)
  obtain ⟨nm', N', qn', bs', bm', hd', sn', su', ab', co', dd', e0, e1, e2, e3, e5, hCe, hT⟩ := excInit_of (X₂.keeps hk₂) T2.ini
  show wpAny _ _ (callAny (.ref h₁.objs.size) _) _ _ _
  simp only [callAny]
  refine wpAny_bind (wpAny_load hu ?_)
  simp only [kxs_mw, show (Value.type "method-wrapper" == Value.type "method" || Value.type "method-wrapper" == Value.type "builtin_function_or_method" || Value.type "method-wrapper" == Value.type "method-wrapper") = true by decide, if_true]
  refine KFB.if_so (by decide) ?_
  refine wpAny_bind (check_bound_init F.excBase_ValueError.toExcCallFacts hCe (hk₂ _ _ hx₂) rfl ?_)
  refine wpAny_bind (wpAny_pure (wpAny_pure ?_))
  refine ⟨plainId_quiet F.excBase_ValueError.init.plain _, codeAny_builtin F.excBase_ValueError.initEntry ?_⟩
  refine exc_init_tree (cls := .ref C) (t0 := t0) (dv := none) (c2 := .none) (c3 := .none) (b4 := .bool false) (hk₂ _ _ hx₂) (one_fits _) fun h₃ k₃ hx₃ _ => ?_
  have kAll : ∀ b o, b ≠ x → h₀.get? b = some o → h₃.get? b = some o := fun b o hb e => k₃ b o hb (hk₂ _ _ (hk₁ _ _ e))
  have kS : ∀ b o, b ≠ x → s.heap.get? b = some o → h₃.get? b = some o := fun b o hb e => kAll b o hb (hk _ _ e)
  have X₃ : K.In h₃ := fun a o e => kS a o (fun z => by rw [z, hnx] at e; cases e) (X a o e)
  have hns₃ := hns.at fun o e => kAll _ o hxL e
  show PySem.wpAt _ _ _ (execs _ _) _ _ _
  refine wpAt_of_wpAny (wpAny_execs_cons (plainObj_wpAny_Assign_Attribute ?_))
  refine wpAny_Name (wpAny_loadName_local rfl rfl hns₃ (v := v) (by first | rfl | kernel_rfl) ?_) (by decide)
  refine wpAny_Name (wpAny_loadName_local rfl rfl hns₃ (v := .ref x) (by first | rfl | kernel_rfl) ?_) (by decide)
  refine set_plain X₃ (ox := excO C _) (od := none) ⟨hx₃, rfl, rfl, trivial⟩ T2.sa ?_
  refine exc_osa X₃ hx₃ hcl (show refsVE (.ref C :: bm) = true from hbm) rfl T2.noN (fun h₄ tk₄ dx k₄ dn dne hx₄ hn₄ => ?_)
  have z : s.heap.objs.size < h₃.objs.size := hns₃.lt
  exact wpAny_execs_nil (hq h₄ tk₄ dx _ ⟨fun b o hb e => k₄ b o hb (kS b o hb e), hx₄, Nat.le_of_lt (Nat.lt_of_lt_of_le z dn), dne, hn₄⟩)
theorem made_run (T : RefTxt prog K mg R fI cc cda) (T2 : ErrTxt K mg R fI c C) {v : Value} (X : K.In s.heap) (hlim : s.heap.NoLimit) (hG : s.heap.Ns mainGlobals mg) (hB : ∃ mb, s.heap.Ns builtinsNs mb ∧ mb "super" = bootBuiltins "super") (hroom : A.depth + 1 < recursionLimit)
    (hq : ∀ h' tk e d, OwnMade s.heap h' e C d v → Rr (.ok (.ret (.ref e))) { s with heap := h', toks := tk }) :
    codeAny (model prog w) A (.call (.ref C) ⟨[v], []⟩) Rr s := by
  obtain ⟨nm, q, N, bs, bm, sn, sub, ab, col, dd, k0, k1, k2, k3, k5, hC, hbm⟩ := T2.cls
  obtain ⟨mb, hb, hbs⟩ := hB
  obtain ⟨hp, g, dr, tk, os⟩ := s
  have k : ∀ b o, hp.get? b = some o → ((hp.push (kdv_tup [v])).push (excO C hp.objs.size)).get? b = some o := fun b o e => Heap.get?_push_of_some _ (Heap.get?_push_of_some _ e)
  have hget : ((hp.push (kdv_tup [v])).push (excO C hp.objs.size)).get? (hp.objs.size + 1) = some (excO C hp.objs.size) := by heap_get
  have hnx : K.lookup (hp.objs.size + 1) = none := by
    cases e : K.lookup (hp.objs.size + 1) with
    | none => rfl
    | some o =>
      have z : hp.get? (hp.objs.size + 1) = some o := X _ _ e
      exact absurd (Nat.lt_of_succ_lt (Heap.lt_size z)) (Nat.lt_irrefl _)
  have hgx : mainGlobals ≠ hp.objs.size + 1 := fun z => by
    have y := hG.lt
    rw [z] at y
    exact absurd (Nat.lt_of_succ_lt y) (Nat.lt_irrefl _)
  refine call_own F.excBase_ValueError (fun X => refsVE_contains X bm hbm) (X _ _ hC) (looks_findIn X T2.iC) (fun self => bind_fn X self T2.tC) (one_fits v) ?_
  refine init_run (s := ⟨(hp.push (kdv_tup [v])).push (excO C hp.objs.size), g, dr, tk, os⟩) T T2 (X.keeps k) (hlim.keeps k) (hG.at fun o e => k _ _ e) ⟨mb, hb.at fun o e => k _ _ e, hbs⟩ hget hnx hgx ?_ fun h' tk' dx t1 ⟨k', hx, dn, dne, hns⟩ => ?_
  · show A.depth + 1 < recursionLimit
    exact hroom
  · have old : ∀ b o, hp.get? b = some o → h'.get? b = some o := fun b o e => k' b o (Nat.ne_of_lt (Nat.lt_succ_of_lt (Heap.lt_size e))) (k b o e)
    have z : hp.objs.size + 1 + 1 ≤ dx := by
      first
        | (simpa only [Heap.size_push] using dn)
        | exact dn
        | (have q := dn; rw [Heap.size_push, Heap.size_push] at q; exact q)
    exact ⟨rfl, hq h' tk' (hp.objs.size + 1) dx ⟨old, Nat.le_succ _, ⟨_, _, hx, rfl, rfl, rfl, rfl⟩, Nat.le_trans (Nat.le_trans (Nat.le_succ _) (Nat.le_succ _)) z, dne, hns⟩⟩
end
end SKX
namespace SK
open PySem PySem.Spec PyProof.Rows L2 SKX
theorem relO_what {v : V} {v' : Value} (r : RelV v v') (f : Str) : RelO (List.lookup f [(("what" : Str), v)]) (if f = "what" then some v' else none) := by
  by_cases hw : f = "what"
  · subst hw
    rw [if_pos rfl]
    have q : List.lookup ("what" : Str) [(("what" : Str), v)] = some v := by simp [List.lookup]
    rw [q]
    exact r
  · rw [if_neg hw]
    have qw : (f == ("what" : Str)) = false := by simpa using hw
    have q2 : List.lookup f [(("what" : Str), v)] = none := by simp [List.lookup, qw]
    rw [q2]
    trivial
section
variable {X : Cx} {W : WX} {R fI cc cda C : Addr} {c : Str}
def tMkErr (C : Addr) (ta : TA) : L2.St → Hp → XK → Prop := fun σ H Q => ta σ H fun vs H1 => ∃ v, vs = [v] ∧ ∀ d, H1 d = none → Q (.ref C) (some d) (upd H1 d (.xd [(("what" : Str), v)]))
theorem pmk_err {a : Expr} {ta : TA} {p pos : Pos} {k : Nat} (T : RefTxt X.prog X.K X.mg R fI cc cda) (T2 : ErrTxt X.K X.mg R fI c C) (hr : Room k X.A) (ha : PA X [a] ta) (hg : Gl X c) (hdb : (c == ("__debug__" : Str)) = false)
    (he : starEach (a :: []) X.env = (false, eval a X.env) :: starEach [] X.env := by rfl) (hpl : (backTo pos (starEach [] X.env)).any (·.1) = false := by rfl) :
    PMk X (.Call (.Name c p) [a] [] pos) (tMkErr C ta) := by
  intro pins s σ H Q I h
  refine wpAny_Call_Name_kw (ld_glob I hg T2.gC ?_ hdb)
  refine PySem.W.callWith_K (h₀ := X.base) I.ok.mod.kin T2.kC (thn (ha.run pos pins s σ H _ I h) fun us s1 hh => ?_) he hpl
  obtain ⟨vs, H1, I1, r1, v, ev, q1⟩ := hh
  subst ev
  refine ⟨I1.kIn, ?_⟩
  cases r1 with
  | cons rv rn =>
    rename_i v' us'
    cases rn
    show wpAny _ _ (call (.ref C) [v']) _ _ _
    have hlim := I1.nolimit
    have hG : s1.heap.Ns mainGlobals X.mg := I1.ok.mod.glob.keeps I1.bk
    obtain ⟨mb, hb, hbs⟩ := I1.ok.mod.blt
    have hB : ∃ mb, s1.heap.Ns builtinsNs mb ∧ mb "super" = bootBuiltins "super" := ⟨mb, hb.keeps I1.bk, hbs _ (by decide)⟩
    obtain ⟨hp, g, dr, tk, os⟩ := s1
    refine wpAny_call (made_run T T2 I1.kIn hlim hG hB (by have := hr.dp; omega) fun h' tk' e d M => ?_)
    show MkP X pins σ Q (.ref e) ⟨h', g, dr, tk', os⟩
    obtain ⟨oe, fv, hoe, hc, hd, hdat, h1⟩ := M.obj
    have hns := M.ns
    obtain ⟨G', g1, g2⟩ := restrict h' fun b => decide (b ≠ e)
    have gk : ∀ b, b ≠ e → G'.get? b = h'.get? b := fun b hb => g1 b (decide_eq_true hb)
    have ge : G'.get? e = none := g2 e (by simp)
    have old : ∀ b o, hp.get? b = some o → G'.get? b = some o := fun b o q => (gk b (Nat.ne_of_lt (Nat.lt_of_lt_of_le (Heap.lt_size q) M.new))).trans (M.keep b o q)
    have ob : ObjOk X.prog X.w (upd H1 d (.xd [(("what" : Str), v)])) G' d (.xd [(("what" : Str), v)]) :=
      ⟨_, hns.at (fun o q => (gk d M.dne).trans q), fun f => relO_what rv f⟩
    have J : Inv X pins σ (upd H1 d (.xd [(("what" : Str), v)])) ⟨G', g, dr, tk', os⟩ := I1.laid (t' := tk') old M.dbig ob
    refine ⟨e, oe, fv, ⟨G', g, dr, tk', os⟩, _, .ref C, some d, rfl, J, fun b o q => ?_, ge, hoe, ⟨hc, hd⟩, hdat, h1, ?_, rfl, I1.bare, raises_own T2.exC T2.tyC, q1 d (I1.hok.fresh M.dbig)⟩
    · by_cases hb : b = e
      · have q' : G'.get? b = some o := q
        rw [hb, ge] at q'; cases q'
      · exact (gk b hb).symm.trans q
    · rw [upd_ne (Ne.symm M.dne)]
      exact I1.hok.fresh M.new
def sRaise (c : Str) (m : Ev → M D) : SM := fun s oh => (m s oh).st s fun d oh => .exc c d s oh
theorem rs_raise {a : Expr} {ma : Ev → M D} {p pos pos2 : Pos} {k : Nat} (hc : X.calm = true) (T : RefTxt X.prog X.K X.mg R fI cc cda) (T2 : ErrTxt X.K X.mg R fI c C) (hr : Room k X.A) (tk : Takes X W) (ha : RE X W a ma) (hg : Gl X c := by rfl) (hdb : (c == ("__debug__" : Str)) = false := by decide)
    (he : starEach (a :: []) X.env = (false, eval a X.env) :: starEach [] X.env := by rfl) (hpl : (backTo pos (starEach [] X.env)).any (·.1) = false := by rfl) :
    RSt X W (.Raise (some (.Call (.Name c p) [a] [] pos)) none pos2) (sRaise c ma) := by
  refine (ps_raise hc tk (pmk_err T T2 hr (ra_cons (W := W) ha ra_nil he) hg hdb he hpl)).imp fun D0 σ H ⟨ρ, oh, s, rh, rs, h⟩ => ?_
  refine ⟨ρ, oh, s, rh, rs, ?_⟩
  have h2 := Out.toS h rs
  unfold aCons aNil
  cases em : ma s oh with
  | ok d oh1 =>
    rw [em] at h2
    intro ρ1 H1 L1 rh1 vs rv
    obtain ⟨v, rfl, r1⟩ := rv.one
    refine ⟨v, rfl, fun dd hd => ?_⟩
    have L2 : Later X.K ρ1 H1 ρ1 (upd H1 dd (.xd [(("what" : Str), v)])) := .fresh hd
    exact h2 ρ1 H1 L1 rh1 ρ1 _ σ dd v C L2 (rh1.fresh hd) ((L1.trans L2).reps rs) (L2.rep r1) T2.gC upd_same
  | exc c w oh1 => rw [em] at h2; exact h2
  | bad => rw [em] at h2; exact h2
end
end SK
set_option maxHeartbeats 2000000
namespace SK
open PySem PySem.Spec PyProof.Rows L2 SKX
/-! ### what a suite asks of the error that it holds -/
structure Errs (X : Cx) (R fI : Addr) (errs : List Str) : Prop where
  of : ∀ c C, errs.contains c = true → X.mg c = some (.ref C) → ErrTxt X.K X.mg R fI c C
def tH (X : Cx) (errs : List Str) (i : Nat) (a : Addr) (cls : Value) (d : Option Addr) (f : Str → D → D) : TE := fun σ H Q => ∃ ρ oh c w C dd v, σ[i]? = some (some (.ref a)) ∧ errs.contains c = true ∧ X.mg c = some (.ref C) ∧ cls = .ref C ∧ d = some dd ∧
  H dd = some (.xd [(("what" : Str), v)]) ∧ RH X.K H ρ oh ∧ Rep X.K H ρ w v ∧ ∀ ρ' H' u, Later X.K ρ H ρ' H' → RH X.K H' ρ' oh → H' dd = some (.xd [(("what" : Str), v)]) → Rep X.K H' ρ' (f c w) u → Q u H'
def tHA (X : Cx) (errs : List Str) (i : Nat) (a : Addr) (cls : Value) (d : Option Addr) (f : Str → D → List D) : TA := fun σ H Q => ∃ ρ oh c w C dd v, σ[i]? = some (some (.ref a)) ∧ errs.contains c = true ∧ X.mg c = some (.ref C) ∧ cls = .ref C ∧ d = some dd ∧
  H dd = some (.xd [(("what" : Str), v)]) ∧ RH X.K H ρ oh ∧ Rep X.K H ρ w v ∧ ∀ ρ' H' us, Later X.K ρ H ρ' H' → RH X.K H' ρ' oh → H' dd = some (.xd [(("what" : Str), v)]) → RepL X.K H' ρ' (f c w) us → Q us H'
def tHT (X : Cx) (errs : List Str) (i : Nat) (a : Addr) (cls : Value) (d : Option Addr) (f : Str → D → Bool) : TT := fun σ H Q => ∃ ρ oh c w C dd v, σ[i]? = some (some (.ref a)) ∧ errs.contains c = true ∧ X.mg c = some (.ref C) ∧ cls = .ref C ∧ d = some dd ∧
  H dd = some (.xd [(("what" : Str), v)]) ∧ RH X.K H ρ oh ∧ Rep X.K H ρ w v ∧ Q (f c w) H
section
variable {X : Cx} {errs : List Str} {i : Nat} {a : Addr} {cls : Value} {d : Option Addr} {oe : Obj} {pn : List (Addr × Obj)} {R fI : Addr} {f f1 f2 : Str → D → D} {e e1 e2 : Expr} {es : List Expr} {pos : Pos}
abbrev HE (X : Cx) (errs : List Str) (i : Nat) (a : Addr) (cls : Value) (d : Option Addr) (oe : Obj) (pn : List (Addr × Obj)) (e : Expr) (f : Str → D → D) : Prop := PE (X.suite a ((a, oe) :: pn)) e (tH X errs i a cls d f)
abbrev HA (X : Cx) (errs : List Str) (i : Nat) (a : Addr) (cls : Value) (d : Option Addr) (oe : Obj) (pn : List (Addr × Obj)) (e : List Expr) (f : Str → D → List D) : Prop := PA (X.suite a ((a, oe) :: pn)) e (tHA X errs i a cls d f)
abbrev HT (X : Cx) (errs : List Str) (i : Nat) (a : Addr) (cls : Value) (d : Option Addr) (oe : Obj) (pn : List (Addr × Obj)) (e : Expr) (f : Str → D → Bool) : Prop := PT (X.suite a ((a, oe) :: pn)) e (tHT X errs i a cls d f)
theorem he_str {x j} : HE X errs i a cls d oe pn (.Constant (.str x) j pos) (fun _ _ => .str x) := pe_str.imp fun σ H Q ⟨ρ, oh, c, w, C, dd, v, h1, h2, h3, h4, h5, h6, rh, rw, q⟩ => q ρ H _ .refl rh h6 (by simp [Rep])
theorem he_int {x j} : HE X errs i a cls d oe pn (.Constant (.int x) j pos) (fun _ _ => .int x) := pe_int.imp fun σ H Q ⟨ρ, oh, c, w, C, dd, v, h1, h2, h3, h4, h5, h6, rh, rw, q⟩ => q ρ H _ .refl rh h6 (by simp [Rep])
theorem he_what {n : Str} {p : Pos} (ER : Errs X R fI errs) (hz : Zc cls d oe) (hf : ∃ vs, oe.data = .fields vs) (hN : X.N[i]? = some n) (hv : Vis X.env.scope n) (hd : (n == ("__debug__" : Str)) = false := by decide) (hcd : (n == ("__classdict__" : Str)) = false := by decide)
    (hb : attributeBase (.Name n p) "what" X.env (eval (.Name n p) X.env) = eval (.Name n p) X.env := by rfl) : HE X errs i a cls d oe pn (.Attribute (.Name n p) "what" pos) (fun _ w => w) := by
  refine ⟨fun pins s σ H Q I hh => ?_⟩
  obtain ⟨ρ, oh, c, w, C, dd, v, h1, h2, h3, h4, h5, h6, rh, rw', q⟩ := hh
  have he : PE (X.suite a ((a, oe) :: pn)) (.Name n p) (tVar i) := pe_var hN hv hd hcd
  refine attr_of hb (thn (he.run pins s σ H (fun x H1 => x = .ref a ∧ H1 = H) I ⟨_, h1, rfl, rfl⟩) fun u s1 hh => ?_)
  obtain ⟨x, H1, I1, rx, ex, eH⟩ := hh
  subst ex
  rw [eH] at I1
  obtain rfl : u = Value.ref a := rx
  subst h4; subst h5
  have T := ER.of c C h2 h3
  obtain ⟨ha, _⟩ := I1.pin (a, oe) (List.mem_append_left _ List.mem_cons_self)
  obtain ⟨vs, hd⟩ := hf
  have hx : ObjOk X.prog X.w H s1.heap dd (.xd [(("what" : Str), v)]) := I1.hok dd _ h6
  obtain ⟨mA, hns, hr⟩ := hx
  obtain ⟨od, ho, hl⟩ := lookIn_ns hns
  have l : List.lookup ("what" : Str) [(("what" : Str), v)] = some v := by simp [List.lookup]
  obtain ⟨u, hu, ru⟩ := RelO.some_of (v := v) (o := mA "what") (by rw [← l]; exact hr "what")
  have J : PySem.W.InstAt s1.heap a oe C (some od) := ⟨ha, hz.1, by unfold PySem.W.notCls; rw [hd] <;> rfl, by rw [hz.2]; exact ho⟩
  exact HandSPX.exc_get I1.kIn J T.ga T.gg T.exC (PySem.W.findObj_own T.hdC T.noN rfl (by rw [hl, hu])) (handed_of ru) ⟨v, H, I1.tok _, ru, q ρ H v .refl rh h6 rw'⟩
theorem he_if {t : Str → D → Bool} {c : Expr} (hc : HT X errs i a cls d oe pn c t) (ha : HE X errs i a cls d oe pn e1 f1) (hb : HE X errs i a cls d oe pn e2 f2) : HE X errs i a cls d oe pn (.IfExp c e1 e2 pos) (fun c w => if t c w then f1 c w else f2 c w) := (pe_ifExp hc ha hb).imp fun σ H Q ⟨ρ, oh, c, w, C, dd, v, h1, h2, h3, h4, h5, h6, rh, rw', q⟩ => by
  refine ⟨ρ, oh, c, w, C, dd, v, h1, h2, h3, h4, h5, h6, rh, rw', ?_⟩
  cases et : t c w with
  | true =>
    simp only [et, if_true] at q ⊢
    exact ⟨ρ, oh, c, w, C, dd, v, h1, h2, h3, h4, h5, h6, rh, rw', q⟩
  | false =>
    simp only [et] at q ⊢
    exact ⟨ρ, oh, c, w, C, dd, v, h1, h2, h3, h4, h5, h6, rh, rw', q⟩
theorem ha_nil : HA X errs i a cls d oe pn [] (fun _ _ => []) := pa_nil.imp fun σ H Q ⟨ρ, oh, c, w, C, dd, v, h1, h2, h3, h4, h5, h6, rh, rw', q⟩ => q ρ H _ .refl rh h6 (by simp [RepL])
theorem ha_cons {fs : Str → D → List D} (h1 : HE X errs i a cls d oe pn e f) (h2 : HA X errs i a cls d oe pn es fs) (hs : starEach (e :: es) X.env = (false, eval e X.env) :: starEach es X.env := by rfl) : HA X errs i a cls d oe pn (e :: es) (fun c w => f c w :: fs c w) := (pa_cons h1 h2 hs).imp fun σ H Q ⟨ρ, oh, c, w, C, dd, v, h1, h2, h3, h4, h5, h6, rh, rw', q⟩ => by
  refine ⟨ρ, oh, c, w, C, dd, v, h1, h2, h3, h4, h5, h6, rh, rw', fun ρ1 H1 u L1 rh1 e1 r1 => ?_⟩
  refine ⟨ρ1, oh, c, w, C, dd, v, h1, h2, h3, h4, h5, e1, rh1, L1.rep rw', fun ρ2 H2 us L2 rh2 e2 r2 => ?_⟩
  exact q ρ2 H2 _ (L1.trans L2) rh2 e2 (by simp only [RepL]; exact ⟨u, us, rfl, L2.rep r1, r2⟩)
theorem he_tup {x1} {fs : Str → D → List D} (h : HA X errs i a cls d oe pn es fs) (hl : es.length ≤ 16777216 := by decide) (hlen : ∀ c w, (fs c w).length = es.length := by intro _ _; rfl) : HE X errs i a cls d oe pn (.Tuple es x1 pos) (fun c w => .tup (fs c w)) := (pe_tup h).imp fun σ H Q ⟨ρ, oh, c, w, C, dd, v, h1, h2, h3, h4, h5, h6, rh, rw', q⟩ => by
  refine ⟨ρ, oh, c, w, C, dd, v, h1, h2, h3, h4, h5, h6, rh, rw', fun ρ1 H1 us L1 rh1 e1 r1 => ?_⟩
  refine ⟨by rw [← r1.length, hlen, sizeLine_eq]; exact hl, fun p hp => ?_⟩
  exact q ρ1 _ _ (L1.trans (.fresh hp)) (rh1.fresh hp) (by rw [upd_ne (ne_of_none e1 hp)]; exact e1) (by simp only [Rep]; exact ⟨p, us, rfl, upd_same, Later.repl (.fresh hp) r1⟩)
/-- isinstance(e, B) -/
theorem call_isErr {C : Addr} {c : Str} (T : ErrTxt X.K X.mg R fI c C) (hz : Zc (.ref C) d oe) (hf : ∃ vs, oe.data = .fields vs) {dd : Addr} {v : V} (ed : d = some dd) :
    CallR (X.suite a ((a, oe) :: pn)) (.builtin "isinstance") (fun xs H Q => H dd = some (.xd [(("what" : Str), v)]) ∧ ∃ (c : V) (cv : Value) (b : Bool), xs = [.ref a, c] ∧ (∀ u, RelV c u → u = cv) ∧ PySem.W.kitOne X.K (.ref C) cv = some b ∧ Q (.bl b) H) := by
  intro pins s σ H xs us Q I r hh
  obtain ⟨h6, c', cv, b, rfl, hcv, e, q⟩ := hh
  cases r with
  | cons rx rr =>
    cases rr with
    | cons rt rr =>
      cases rr
      cases rx
      have ec := hcv _ rt
      subst ec
      obtain ⟨hget, _⟩ := I.pin (a, oe) (List.mem_append.mpr (.inl List.mem_cons_self))
      obtain ⟨vs, hv⟩ := hf
      have hx : ObjOk X.prog X.w H s.heap dd (.xd [(("what" : Str), v)]) := I.hok dd _ h6
      obtain ⟨mA, hns, hr⟩ := hx
      obtain ⟨od, ho, hl⟩ := lookIn_ns hns
      have J : PySem.W.InstAt s.heap a oe C (some od) := ⟨hget, hz.1, by unfold PySem.W.notCls; rw [hv] <;> rfl, by rw [hz.2, ed]; exact ho⟩
      have hcl : (PySem.W.clsIn X.K C).isSome = true := by
        have z := T.hdC
        unfold PySem.W.hasDictIn at z
        cases q : PySem.W.clsIn X.K C with
        | none => rw [q] at z; cases z
        | some _ => rfl
      exact PySem.W.kia_one (PySem.W.kitx_exc hcl T.ga T.gg T.exC T.clC T.clN T.clT T.toO) I.kIn J e (fun z => nomatch z) fun tk => ⟨.bl b, H, I.kept (t' := tk) fun _ _ z => z, rfl, q⟩
theorem ht_is {n B : Str} {CB : Addr} {sub : Str → Bool} {p p0 p1 : Pos} (ER : Errs X R fI errs) (hz : Zc cls d oe) (hf : ∃ vs, oe.data = .fields vs) (hm : X.mg "isinstance" = none) (hB : X.mg B = some (.ref CB)) (hN : X.N[i]? = some n) (hv : Vis X.env.scope n)
    (hk : ∀ c C, errs.contains c = true → X.mg c = some (.ref C) → PySem.W.kitOne X.K (.ref C) (.ref CB) = some (sub c))
    (hg : Gl X "isinstance" := by rfl) (hgB : Gl X B := by rfl) (hdB : (B == ("__debug__" : Str)) = false := by decide) (hd : (n == ("__debug__" : Str)) = false := by decide) (hcd : (n == ("__classdict__" : Str)) = false := by decide)
    (he : starEach [.Name n p, .Name B p0] X.env = (false, eval (.Name n p) X.env) :: starEach [.Name B p0] X.env := by rfl) (he2 : starEach [.Name B p0] X.env = (false, eval (.Name B p0) X.env) :: starEach [] X.env := by rfl)
    (hpl : (backTo pos (starEach [.Name B p0] X.env)).any (·.1) = false := by rfl)
    (ht : ∀ whole, isTrue (.Call (.Name "isinstance" p1) [.Name n p, .Name B p0] [] pos) X.env whole = (do let v ← whole; standAt (Expr.Call (.Name "isinstance" p1) [.Name n p, .Name B p0] [] pos).pos; holding [v] (truthy v)) := by intro _; rfl) :
    HT X errs i a cls d oe pn (.Call (.Name "isinstance" p1) [.Name n p, .Name B p0] [] pos) (fun c _ => sub c) := by
  refine ⟨fun pins s σ H Q I hh => ?_⟩
  obtain ⟨ρ, oh, c, w, C, dd, v, h1, h2, h3, h4, h5, h6, rh, rw', q⟩ := hh
  subst h4
  have T := ER.of c C h2 h3
  have hp : PE (X.suite a ((a, oe) :: pn)) (.Call (.Name "isinstance" p1) [.Name n p, .Name B p0] [] pos) _ :=
    pe_callB (call_isErr (dd := dd) (v := v) T hz hf h5) hg hm (by decide +kernel) (pa_cons (pe_var hN hv hd hcd) (pa_cons (pe_glob (v := .ref CB) hgB hB rfl hdB) pa_nil he2) he) (by decide) (by decide) he hpl
  exact (pt_val hp ht).run pins s σ H Q I ⟨.ref a, h1, h6, .ref CB, .ref CB, sub c, rfl, fun u ru => ru, hk c C h2 h3, sub c, rfl, q⟩
end
theorem RepS.length {K : PySem.W.Frag} {H : Hp} {ρ : List Addr} : ∀ {s : Ev} {σ : L2.St}, RepS K H ρ s σ → s.length = σ.length
  | [], _, h => by
    simp only [RepS] at h
    subst h; rfl
  | none :: s, _, h => by
    obtain ⟨v, σ', rfl, t⟩ := h
    show s.length + 1 = σ'.length + 1
    rw [RepS.length t]
  | some d :: s, _, h => by
    obtain ⟨v, σ', rfl, _, t⟩ := h
    show s.length + 1 = σ'.length + 1
    rw [RepS.length t]
/-! ### try -/
def sTry (errs : List Str) (i : Nat) (sub : Str → Bool) (mb : SM) (hs : Str → D → Ev → OH → RS) : SM := fun s oh => match mb s oh with
  | .exc c w s' oh' => if errs.contains c && decide (i < s'.length) then (if sub c then hs c w s' oh' else .exc c w s' oh') else .bad
  | r => r
section
variable {X : Cx} {W : WX} {errs : List Str} {i : Nat} {R fI Ch : Addr} {x n : Str} {body : List Stmt} {mb : SM} {f : Str → D → D} {sub : Str → Bool} {e : Expr} {np pos pos' pos2 : Pos}
/-- try: .. except x as n: return e -/
theorem rs_try_ret (hst : X.stack = X.env :: X.outer) (hf : X.env.frame = some X.env.locals) (hN : X.N.Nodup) (hi : X.N[i]? = some n) (hln : X.env.kindOf n = some .local) (hx : X.mg x = some (.ref Ch)) (tk : Takes X W)
    (hsub : ∀ c C, errs.contains c = true → X.mg c = some (.ref C) → PySem.W.exmOne X.K (.ref C) (.ref Ch) = some (sub c))
    (hb : ∀ (W : WX) (pn : List (Addr × Obj)) (xe : Value → Shared → Prop), Takes (X.tr pn xe) W → PassesOwn (model X.prog X.w) X.A X.env xe → RSs (X.tr pn xe) W body mb)
    (he : ∀ (a : Addr) (oe : Obj) (cls : Value) (d : Option Addr) (pn : List (Addr × Obj)), Zc cls d oe → (∃ vs, oe.data = .fields vs) → HE X errs i a cls d oe pn e f)
    (hg : Gl X x := by rfl) (hd : (x == ("__debug__" : Str)) = false := by decide) :
    RSt X W (.Try body [.ExceptHandler (some (.Name x np)) (some n) [.Return (some e) pos2] pos'] [] [] pos) (sTry errs i sub mb fun c w _ oh => .rt (f c w) oh) := by
  refine (ps_try_as (tb := fun W => tS X W mb) (ts := fun a cls d => tRet (tH X errs i a cls d f)) hst hf hN hi hln ⟨hg, hd, .inl hx⟩ tk (fun W pn xe tk' hp => hb W pn xe tk' hp) (fun a oe cls d pn hz hv => pss_one (ps_ret (he a oe cls d pn hz hv)))).imp fun D0 σ H ⟨ρ, oh, s, rh, rs, h⟩ => ?_
  refine ⟨ρ, oh, s, rh, rs, ?_⟩
  unfold sTry at h
  cases eb : mb s oh with
  | exc c w s1 oh1 =>
    rw [eb] at h
    dsimp only at h
    split at h
    · rename_i hc
      rw [Bool.and_eq_true, decide_eq_true_eq] at hc
      intro ρ1 H1 σ1 dd v C L1 rh1 rs1 rv hm hdd
      refine ⟨sub c, hsub c C hc.1 hm, fun hb a ha => ?_, fun hb => ?_⟩
      · rw [hb] at h
        have h : OutS X.K X.mg W ρ H (.rt (f c w) oh1) D0 := h
        exact ⟨ρ1, oh1, c, w, C, dd, v, List.getElem?_set_self (by rw [← rs1.length]; exact hc.2), hc.1, hm, rfl, rfl, hdd, rh1, rv, fun ρ2 H2 u L2 rh2 _ ru => h ρ2 H2 u (L1.trans L2) rh2 ru⟩
      · rw [hb] at h
        exact h ρ1 H1 σ1 dd v C L1 rh1 rs1 rv hm hdd
    · exact h.elim
  | nx s1 oh1 => rw [eb] at h; exact h
  | rt s1 oh1 => rw [eb] at h; exact h
  | bk s1 oh1 => rw [eb] at h; exact h
  | ct s1 oh1 => rw [eb] at h; exact h
  | bad => rw [eb] at h; exact h
end
end SK
set_option maxHeartbeats 2000000
namespace SK
open PySem PySem.Spec PyProof.Rows L2 SKX LamX
/-! ### x(lambda: body), x a def that calls what it gets and tells its refusal -/
def toldM (errs : List Str) (sub : Str → Bool) (f : Str → D → D) (r : R D) : R D := match r with
  | .exc c w oh => if errs.contains c && sub c then .ok (f c w) oh else .bad
  | r => r
def eTold (T : List (Addr × Str)) (errs : List Str) (sub : Str → Bool) (f : Str → D → D) (m : Ev → M D) : Ev → M D := fun s oh => match (oh[1]? : Option Cell) with
  | some (Cell.tbls T') => if T' = T then toldM errs sub f (m s oh) else .bad
  | _ => .bad
def EH (K : PySem.W.Frag) (mg : Str → Option Value) (errs : List Str) (sub : Str → Bool) (f : Str → D → D) (Q : VK) : XK := fun cls d H => ∃ ρ oh c w C dd v, errs.contains c = true ∧ sub c = true ∧ mg c = some (.ref C) ∧ cls = .ref C ∧ d = some dd ∧ H dd = some (.xd [(("what" : Str), v)]) ∧ RH K H ρ oh ∧ Rep K H ρ w v ∧
  ∀ ρ' H' u, Later K ρ H ρ' H' → RH K H' ρ' oh → Rep K H' ρ' (f c w) u → Q u H'
def TT' (K : PySem.W.Frag) (mg : Str → Option Value) (errs : List Str) (sub : Str → Bool) (f : Str → D → D) : (XK → Hp → VK → Prop) → Hp → VK → Prop := fun tl H Q => tl (EH K mg errs sub f Q) H Q
theorem takes_len {X : Cx} {W : WX} (tk : Takes X W) : Takes X (fun c d σ H => σ.length = X.N.length → W c d σ H) := fun u s' xx => by
  obtain ⟨a, B, sI, pins, σ, H, cls, d, e, I, nb, up, sky, na, os, ag, w⟩ := xx
  exact tk u s' ⟨a, B, sI, pins, σ, H, cls, d, e, I, nb, up, sky, na, os, ag, w I.len⟩
/-- def x(a): try: return a() / except B as n: return e -/
theorem told_gives' {X : Cx} {Ng : List Str} {x a q B n : Str} {sg : Scope} {g CB R fI : Addr} {cdg : Value} {errs : List Str} {sub : Str → Bool} {f : Str → D → D} {e : Expr} {p1 p2 p3 p4 p5 p6 p7 : Pos}
    (hBg : sg.names.lookup B = some .globalImplicit) (hB : X.mg B = some (.ref CB)) (hdB : (B == ("__debug__" : Str)) = false) (hNg : Ng = [a, n]) (hnd : Ng.Nodup) (hln : sg.names.lookup n = some .local)
    (hsub : ∀ c C, errs.contains c = true → sub c = true → X.mg c = some (.ref C) → PySem.W.exmOne X.K (.ref C) (.ref CB) = some true)
    (he : ∀ (A : Around) (outer : List Env) (s : Shared) (H : Hp) (E : XK) (ae : Addr) (oe : Obj) (cls : Value) (d : Option Addr) (pn : List (Addr × Obj)), Zc cls d oe → (∃ vs, oe.data = .fields vs) → HE (cxOf C8.CX0 X.prog X.w X.K X.mg X.base Ng x sg g cdg A outer s H E).nox errs 1 ae cls d oe pn e f) :
    GivesTo X Ng x sg g cdg [.Try [.Return (some (.Call (.Name a p1) [] [] p2)) p3] [.ExceptHandler (some (.Name B p4)) (some n) [.Return (some e) p5] p6] [] [] p7] a q (TT' X.K X.mg errs sub f) := by
  intro fa c' s H Q tl act hc h
  subst hNg
  have hgl : Gl (cxOf C8.CX0 X.prog X.w X.K X.mg X.base [a, n] x sg g cdg X.A X.stack s H C8.E0).nox B := hBg
  refine ⟨_, pss_one (ps_try_as (X := (cxOf C8.CX0 X.prog X.w X.K X.mg X.base [a, n] x sg g cdg X.A X.stack s H C8.E0).nox) (c := .ref CB) (i := 1) (n := n)
      (tb := fun W D σ H => ∃ Ech : XK, (∀ cls d σ' H', σ'.length = 2 → Ech cls d H' → W cls d σ' H') ∧ σ[0]? = some (some (.ref fa)) ∧ H c' = some (CodeO c' q) ∧ tl Ech H D.rt)
      (ts := fun ae cls d => tRet (tH (cxOf C8.CX0 X.prog X.w X.K X.mg X.base [a, n] x sg g cdg X.A X.stack s H C8.E0).nox errs 1 ae cls d f))
      rfl rfl hnd rfl hln ⟨hgl, hdB, .inl hB⟩ L2.takes0 (fun W pn xe tk _ => ?_) (fun ae oe cls d pn hz hv => pss_one (ps_ret (he _ _ _ _ _ ae oe cls d pn hz hv)))), ?_⟩
  · refine ⟨fun pins s' σ H' D I h' => ?_⟩
    obtain ⟨Ech, hW, h1, h2, h3⟩ := h'
    have hp := act _ pn xe Ech p1 p2 (takes_len tk) fun cls d σ' H' hE hl => hW cls d σ' H' hl hE
    exact (pss_one (ps_ret (pos := p3) hp)).run pins s' σ H' D I ⟨h1, h2, h3⟩
  · refine ⟨EH X.K X.mg errs sub f Q, fun cls d σ' H' hl hE => ?_, rfl, hc, h⟩
    obtain ⟨ρ, oh, c, w, C, dd, v, k1, k2, k3, k4, k5, k6, rh, rw', q'⟩ := hE
    subst k4
    refine ⟨true, hsub c C k1 k2 k3, fun _ ae ha => ?_, fun z => by cases z⟩
    exact ⟨ρ, oh, c, w, C, dd, v, List.getElem?_set_self (by rw [hl]; decide), k1, k3, rfl, k5, k6, rh, rw', fun ρ2 H2 u L2 rh2 _ ru => q' ρ2 H2 u L2 rh2 ru⟩
section
variable {X : Cx} {W : WX} {errs : List Str} {sub : Str → Bool} {f : Str → D → D} {m : Ev → M D}
theorem later_extN {K : PySem.W.Frag} {ρ : List Addr} {H H1 : Hp} (e : ExtN H H1) : Later K ρ H ρ H1 := by
  exact ⟨List.prefix_rfl, fun a xs h => e a _ h (fun ps z => nomatch z), fun a o u h => e a _ h (fun ps z => nomatch z)⟩
theorem rh_extN {K : PySem.W.Frag} {ρ : List Addr} {H H1 : Hp} {oh : OH} {T : List (Addr × Str)} (h : RH K H ρ oh) (e : ExtN H H1) (eT : oh[1]? = some (.tbls T)) (t : Tabs T H1) : RH K H1 ρ oh := by
  refine ⟨h.len, h.nd, fun n c a e1 e2 => ?_, fun T' e' => ?_, h.tab1⟩
  · have q := h.cell n c a e1 e2
    cases c with
    | lst l =>
      obtain ⟨xs, ex, r⟩ := q
      exact ⟨xs, e a _ ex (fun ps z => nomatch z), Later.repl (later_extN e) r⟩
    | ro l =>
      obtain ⟨xs, ex, r⟩ := q
      refine ⟨xs, ?_, Later.repl (later_extN e) r⟩
      rcases ex with ⟨o, ex⟩ | ex
      · exact .inl ⟨o, e a _ ex (fun ps z => nomatch z)⟩
      · exact .inr ex
    | dct l =>
      obtain ⟨xs, ex, r⟩ := q
      exact ⟨xs, e a _ ex (fun ps z => nomatch z), Later.repk (later_extN e) r⟩
    | fdc l =>
      obtain ⟨xs, o, ex, r⟩ := q
      exact ⟨xs, o, e a _ ex (fun ps z => nomatch z), Later.repk (later_extN e) r⟩
    | tbls T' =>
      have hn := h.tab1 n T' e1
      subst hn
      rw [eT] at e1
      cases e1
      obtain ⟨_, p, hp, ep⟩ := q
      obtain ⟨ps, h1, _⟩ := t p hp
      exact ⟨⟨ps, by rw [← ep]; exact h1⟩, p, hp, ep⟩
  · rw [eT] at e'
    cases e'
    exact t
theorem lam_imp {T : List (Addr × Str)} : ∀ σ H Q, tE X W (eTold T errs sub f m) σ H Q → tLam T (TT' X.K X.mg errs sub f) (fun E => tE X (fun cls d _ H => E cls d H) m) σ H Q := fun σ H Q ⟨ρ, oh, s, rh, rs, h⟩ => by
  unfold eTold at h
  split at h
  · rename_i T' eT
    split at h
    · rename_i e
      subst e
      refine ⟨rh.tab _ eT, fun H1 eN t1 => ?_⟩
      have L1 := later_extN (K := X.K) (ρ := ρ) eN
      refine ⟨ρ, oh, s, rh_extN rh eN eT t1, L1.reps rs, ?_⟩
      cases em : m s oh with
      | ok d oh1 =>
        rw [em] at h
        exact fun ρ' H' L' rh' v rv => h ρ' H' (L1.trans L') rh' v rv
      | exc c w oh1 =>
        rw [em] at h
        simp only [toldM] at h
        split at h
        · rename_i hc
          rw [Bool.and_eq_true] at hc
          exact fun ρ' H' dd v C L' rh' rv hm hx => ⟨ρ', oh1, c, w, C, dd, v, hc.1, hc.2, hm, rfl, rfl, hx, rh', rv, fun ρ2 H2 u L2 rh2 ru => h ρ2 H2 (L1.trans (L'.trans L2)) rh2 u ru⟩
        · exact h.elim
      | bad => rw [em] at h; exact h
    · exact h.elim
  · exact h.elim
variable {T : List (Addr × Str)} {x a : Str} {g c P : Addr} {k : Nat} {pg : Arguments} {bg : List Stmt} {sg : Scope} {dV kV doc pm cdv ct oc : Value} {an od : Option Addr} {osl : Array (Option Value)} {Ng : List Str} {params : Arguments} {body : Expr} {scope : Scope} {p lpos pos : Pos}
theorem re_told (hg : Gl X x) (hm : X.mg x = some (.ref g)) (hk : PySem.W.keepIn X.K (.ref g) = true)
    (lk : X.K.lookup g = some ⟨oc, od, .func (PySem.W.fnOf x x pg bg sg dV kV doc pm an cdv ct), osl⟩) (hcg : PySem.W.codeIn X.K cdv x = true) (hb : L2.Binds X.K (PySem.W.fnOf x x pg bg sg dV kV doc pm an cdv ct) [a] []) (Sg : FnScope Ng [a] sg) (hNg : Ng[0]? = some a) (hva : Vis sg a)
    (hG : GivesTo X Ng x sg g cdv bg a (X.env.qual ++ "<lambda>") (TT' X.K X.mg errs sub f))
    (TB : TabB X.base X.mg c P) (hcode : X.env.code = .ref c) (hmT : (P, X.env.qual ++ "<lambda>") ∈ T) (hu : ∀ p ∈ T, p.1 = P → p.2 = X.env.qual ++ "<lambda>") (hr : Room (k + 2) X.A) (L : LamS X.env.scope scope) (hdef : defaultsOf params X.env = ([], []))
    (hbind : ∀ (q : Str) (cl : List (Str × Addr)) (pm cv ctv : Value), bindArgs (PySem.W.kla_fn "<lambda>" q params body scope cl pm cv ctv) ⟨[], []⟩ = pure [])
    (hbody : ∀ (A : Around) (outer : List Env) (s : Shared) (H : Hp) (E : XK) (f c' : Addr), Room k (A.deeper (lamEnv X scope s.heap.objs.size f c')) → Takes (lamCx X A outer s H E scope f c') (fun cls d _ H => E cls d H) → RE (lamCx X A outer s H E scope f c') (fun cls d _ H => E cls d H) body m)
    (hdb : (x == ("__debug__" : Str)) = false := by decide) (hd : (a == ("__debug__" : Str)) = false := by decide) (hcd : (a == ("__classdict__" : Str)) = false := by decide) :
    RE X W (.Call (.Name x p) [.Lambda params body scope lpos] [] pos) (eTold T errs sub f m) :=
  (pe_lamcall hg hm hk lk hcg hb Sg hNg hva hG TB hcode hmT hu hr L hdef hbind (fun A outer s H E f c' hr2 => hbody A outer s H E f c' hr2 (takes_of rfl rfl rfl rfl)) hdb hd hcd).imp lam_imp
end
end SK
set_option maxHeartbeats 2000000
namespace SK
open PySem PySem.Spec PyProof.Rows L2 SKX LamX
/-! ### a promise that holds where nothing is being written as a text -/
structure FnG (P : Program) (w : World) (K : PySem.W.Frag) (mg : Str → Option Value) (base : Heap) (k : Nat) (f : Addr) (fd : FuncData) (ps : List Str) (sp : Sp) : Prop where
  len : ∀ vs H Q E, sp vs H Q E → vs.length = ps.length
  go : ∀ (A : Around) (outer : List Env) (s : Shared) (H : Hp) (args : Args) (us : List Value) (vs : List V) (Q : VK) (E : XK), A.guards = some [] → Room k A → Env0 P w K mg base A outer s H → BindsTo s fd args (ps.zip us) → Vals vs us → sp vs H Q E →
    codeAny (model P w) A (.call (.ref f) args) (CR (L2.CX P w) outer P w H s Q E) s
section
variable {P : Program} {w : World} {K : PySem.W.Frag} {mg : Str → Option Value} {base : Heap}
theorem FnG.of {k : Nat} {f : Addr} {fd : FuncData} {ps : List Str} {sp : Sp} (F : FnOk P w K mg base (L2.CX P w) k f fd ps sp) : FnG P w K mg base k f fd ps sp :=
  ⟨F.len, fun A outer s H args us vs Q E _ => F.run A outer s H args us vs Q E⟩
theorem run_body {x qual : Str} {sd : Stmt} {f : Addr} {kV doc pm cdv ct oc : Value} {an od : Option Addr} {osl : Array (Option Value)} {N ps : List Str} {k : Nat} {body : SM} (lk : K.lookup f = some ⟨oc, od, .func (PySem.W.fnOf x qual (defArgs sd) (defBody sd) (defScope sd) .none kV doc pm an cdv ct), osl⟩) (hcd : PySem.W.codeIn K cdv qual = true) (S : FnScope N ps (defScope sd))
    {A : Around} {outer : List Env} {s : Shared} {H : Hp} {args : Args} {us : List Value} {vs : List V} {Q : VK} {E : XK} (hr : Room (k + 1) A) (e0 : Env0 P w K mg base A outer s H) (hb : BindsTo s (PySem.W.fnOf x qual (defArgs sd) (defBody sd) (defScope sd) .none kV doc pm an cdv ct) args (ps.zip us)) (r : Vals vs us)
    (hsp : spF K mg ps.length (mkFn N.length body) vs H Q E)
    (hbody : Room k (A.deeper (envOfC qual (defScope sd) s.heap.objs.size f cdv)) → RSs (cxOf (L2.CX P w) P w K mg base N qual (defScope sd) f cdv A outer s H E) (fun cls d _ H => E cls d H) (defBody sd) body) :
    codeAny (model P w) A (.call (.ref f) args) (CR (L2.CX P w) outer P w H s Q E) s := by
  obtain ⟨ρ, oh, ds, hl, rh, rl, h⟩ := hsp
  refine run_ofS lk hcd S hr e0 hb r hl fun hr' => ⟨_, hbody hr', ρ, oh, ds.map some ++ List.replicate (N.length - ds.length) none, rh, ?_, ?_⟩
  · unfold L2.start
    rw [rl.length]
    exact reps_args (reps_start _) rl
  · unfold mkFn at h
    cases eb : body (ds.map some ++ List.replicate (N.length - ds.length) none) oh with
    | nx s1 oh1 =>
      rw [eb] at h
      exact fun ρ' H' σ' L rh' _ => h ρ' H' L rh' _ (by simp [Rep])
    | rt d oh1 =>
      rw [eb] at h
      exact fun ρ' H' v L rh' rv => h ρ' H' L rh' v rv
    | exc c w s1 oh1 =>
      rw [eb] at h
      exact fun ρ' H' σ' dd v C L rh' _ => h ρ' H' dd v C L rh'
    | bk => rw [eb] at h; exact h.elim
    | ct => rw [eb] at h; exact h.elim
    | bad => rw [eb] at h; exact h.elim
/-- as fn_ok, the code object known, nothing being written as a text -/
theorem fn_okG {x qual : Str} {sd : Stmt} {f : Addr} {kV doc pm cdv ct oc : Value} {an od : Option Addr} {osl : Array (Option Value)} {N ps : List Str} {k : Nat} {body : SM} (lk : K.lookup f = some ⟨oc, od, .func (PySem.W.fnOf x qual (defArgs sd) (defBody sd) (defScope sd) .none kV doc pm an cdv ct), osl⟩) (hcd : PySem.W.codeIn K cdv qual = true) (S : FnScope N ps (defScope sd))
    (hb : ∀ (A : Around) (outer : List Env) (s : Shared) (H : Hp) (E : XK), A.guards = some [] → Room k (A.deeper (envOfC qual (defScope sd) s.heap.objs.size f cdv)) →
      RSs (cxOf (L2.CX P w) P w K mg base N qual (defScope sd) f cdv A outer s H E) (fun cls d _ H => E cls d H) (defBody sd) body) :
    FnG P w K mg base (k + 1) f (PySem.W.fnOf x qual (defArgs sd) (defBody sd) (defScope sd) .none kV doc pm an cdv ct) ps (spF K mg ps.length (mkFn N.length body)) :=
  ⟨fun vs H Q E h => by obtain ⟨_, _, _, h, _⟩ := h; exact h, fun A outer s H args us vs Q E hg hr e0 hbi r h => run_body lk hcd S hr e0 hbi r h fun hr' => hb A outer s H E hg hr'⟩
/-- as fn_ok, the code object known -/
theorem fn_okA {x qual : Str} {sd : Stmt} {f : Addr} {kV doc pm cdv ct oc : Value} {an od : Option Addr} {osl : Array (Option Value)} {N ps : List Str} {k : Nat} {body : SM} (lk : K.lookup f = some ⟨oc, od, .func (PySem.W.fnOf x qual (defArgs sd) (defBody sd) (defScope sd) .none kV doc pm an cdv ct), osl⟩) (hcd : PySem.W.codeIn K cdv qual = true) (S : FnScope N ps (defScope sd))
    (hb : ∀ (A : Around) (outer : List Env) (s : Shared) (H : Hp) (E : XK), Room k (A.deeper (envOfC qual (defScope sd) s.heap.objs.size f cdv)) →
      RSs (cxOf (L2.CX P w) P w K mg base N qual (defScope sd) f cdv A outer s H E) (fun cls d _ H => E cls d H) (defBody sd) body) :
    FnOk P w K mg base (L2.CX P w) (k + 1) f (PySem.W.fnOf x qual (defArgs sd) (defBody sd) (defScope sd) .none kV doc pm an cdv ct) ps (spF K mg ps.length (mkFn N.length body)) :=
  ⟨fun vs H Q E h => by obtain ⟨_, _, _, h, _⟩ := h; exact h, fun A outer s H args us vs Q E hr e0 hbi r h => run_body lk hcd S hr e0 hbi r h fun hr' => hb A outer s H E hr'⟩
end
section
variable {X : Cx} {W : WX} {e : Expr} {es : List Expr} {ms : Ev → M (List D)} {pos : Pos}
theorem re_callG {k : Nat} {f : Addr} {fd : FuncData} {ps : List Str} {x : Str} {p : Pos} {g : Fn} (F : FnG X.prog X.w X.K X.mg X.base k f fd ps (spF X.K X.mg ps.length g)) (hgu : X.A.guards = some []) (hr : Room k X.A) (hm : X.mg x = some (.ref f)) (hk : PySem.W.keepIn X.K (.ref f) = true) (hb : Binds X.K fd ps []) (tk : Takes X W)
    (ha : RA X W (e :: es) ms) (hlen : ∀ s oh ds oh', ms s oh = .ok ds oh' → ds.length = ps.length) (hg : Gl X x := by rfl) (hdb : (x == ("__debug__" : Str)) = false := by decide) (he : starEach (e :: es) X.env = (false, eval e X.env) :: starEach es X.env := by rfl) (hpl : (backTo pos (starEach es X.env)).any (·.1) = false := by rfl) :
    RE X W (.Call (.Name x p) (e :: es) [] pos) (eCall g ms) := by
  refine ⟨fun pins s σ H Q I hh => ?_⟩
  obtain ⟨ρ, oh, sv, rh, rs, h⟩ := hh
  have h2 := Out.bnd h
  refine wpAny_Call_Name_kw (ld_glob I hg hm ?_ hdb)
  refine PySem.W.callWith_K (h₀ := X.base) I.ok.mod.kin hk (thn (ha.run pos pins s σ H (fun vs H1 => ∃ ρ1 oh1 ds, vs.length = ps.length ∧ RH X.K H1 ρ1 oh1 ∧ RepL X.K H1 ρ1 ds vs ∧ Out X.K X.mg (WE W σ) ρ1 H1 (g ds oh1) fun d _ ρ' H' => ∀ v, Rep X.K H' ρ' d v → Q v H') I ⟨ρ, oh, sv, rh, rs, ?_⟩) fun us s1 hh => ?_) he hpl
  · cases em : ms sv oh with
    | ok ds oh1 =>
      rw [em] at h2
      intro ρ1 H1 L1 rh1 vs rvs
      exact ⟨ρ1, oh1, ds, by rw [← rvs.length, hlen _ _ _ _ em], rh1, rvs, (h2 ρ1 H1 L1 rh1).2.2⟩
    | exc c w oh1 => rw [em] at h2; exact h2
    | bad => rw [em] at h2; exact h2
  · obtain ⟨vs, H1, I1, r1, ρ1, oh1, ds, hl, rh1, rvs, q⟩ := hh
    refine ⟨I1.kIn, ?_⟩
    have bnd : BindsTo s1 fd ⟨us, []⟩ (ps.zip us) := by
      have z := hb s1 us I1.kIn (by rw [List.append_nil, ← r1.length, hl])
      rw [List.append_nil] at z
      exact z
    refine wpAny_call (codeAny_mono (F.go X.A X.stack s1 H1 ⟨us, []⟩ us vs Q (WE W σ) hgu hr I1.env0 bnd r1 ⟨ρ1, oh1, ds, hl, rh1, rvs, q⟩) fun r s' hq => ?_)
    cases r with
    | error ev => exact passAt tk σ pins H1 s1 ev s' I1 hq
    | ok fl =>
      cases fl with
      | ret u => exact I1.after hq
      | next => exact False.elim hq
      | brk => exact False.elim hq
      | cont => exact False.elim hq
/-! ### repr -/
def reprOk (p : PyData) : Bool := p.showable && decide (p.shown.length ≤ sizeLine) && SeqAt.shaped p
def reprD (oh : OH) : D → Option Str
  | .int i => if i.natAbs.log2 < 1920 then some ((PyData.int i).shown) else none
  | .tup l => match toPy oh 50 (.tup l) with
    | some p => if reprOk p then some p.shown else none
    | none => none
  | .ref n => match toPy oh 50 (.ref n) with
    | some p => if reprOk p then some p.shown else none
    | none => none
  | _ => none
def bRepr : PL := fun ds oh => match ds with
  | [d] => (reprD oh d).map fun t => (.str t, oh)
  | _ => none
theorem c_repr_ref (hgu : X.A.guards = some []) (hu : X.A.units + 80 < cLine) {pins : List (Addr × Obj)} {s : Shared} {σ : L2.St} {H : Hp} {a : Addr} {us : List Value} {Q : VK} {ρ : List Addr} {oh : OH} {d : D} {p : PyData} (I : Inv X pins σ H s) (rv : Vals [.ref a] us) (rh : RH X.K H ρ oh) (r : Rep X.K H ρ d (.ref a))
    (ep : toPy oh 50 d = some p) (hk : reprOk p = true) (q : Q (.str p.shown) H) : wpAny (model X.prog X.w) X.A (call (.builtin "repr") us) (EP X pins σ Q) X.xe s := by
  obtain ⟨u, rfl, ru⟩ := Vals.one rv
  cases ru
  unfold reprOk at hk
  simp only [Bool.and_eq_true, decide_eq_true_eq] at hk
  obtain ⟨as, rd⟩ := Dp.reads I p (.ref a) (.ref a) (toPy_dp rh 50 d p _ ep r) rfl
  have hc := SeqAt.canLay_of_shaped hk.2
  have hd := SeqAt.depth_of_shaped hk.2
  refine repr_of_reads' rd hk.1.1 (PyData.noDict_hsm (PyData.hasDict_of_canLay p hc)) hgu (by omega) (fun _ _ z => z) (fun h' tk0 tk k' => ?_) hk.1.2
  exact ⟨.str p.shown, H, I.kept (t' := tk) k', ⟨_, rfl⟩, q⟩
theorem c_repr (hgu : X.A.guards = some []) (hu : X.A.units + 80 < cLine) : CallR X (.builtin "repr") (rPL X bRepr) := by
  intro pins s σ H xs us Q I rv ⟨ρ, oh, ds, rh, r, h⟩
  cases ds with
  | nil => exact h.elim
  | cons d ds =>
    cases ds with
    | cons _ _ => exact h.elim
    | nil =>
      obtain ⟨v, rfl, r1⟩ := r.one
      simp only [bRepr] at h
      cases d with
      | int i =>
        simp only [Rep] at r1
        subst r1
        simp only [reprD] at h
        split at h
        · rename_i hz
          refine SkE.call_repr_int pins s σ H _ us Q I rv ⟨i, rfl, hz, ?_⟩
          have q := OutP.here h rh (v := .str (PyData.int i).shown) (by simp [Rep])
          rw [PyData.shown_int] at q
          exact q
        · exact h.elim
      | tup l =>
        simp only [reprD] at h
        cases ep : toPy oh 50 (.tup l) with
        | none => rw [ep] at h; exact h.elim
        | some p =>
          rw [ep] at h
          dsimp only at h
          split at h
          · rename_i hk
            have r1' := r1
            simp only [Rep] at r1'
            obtain ⟨a, xs, rfl, _⟩ := r1'
            exact c_repr_ref hgu hu I rv rh r1 ep hk (OutP.here h rh (by simp [Rep]))
          · exact h.elim
      | ref n =>
        simp only [reprD] at h
        cases ep : toPy oh 50 (.ref n) with
        | none => rw [ep] at h; exact h.elim
        | some p =>
          rw [ep] at h
          dsimp only at h
          split at h
          · rename_i hk
            have r1' := r1
            simp only [Rep] at r1'
            obtain ⟨a, rfl, _⟩ := r1'
            exact c_repr_ref hgu hu I rv rh r1 ep hk (OutP.here h rh (by simp [Rep]))
          · exact h.elim
      | _ => exact h.elim
/-! ### slices -/
def cutD (xs : List D) (lo hi : Option Int) : List D := (xs.drop (HT.sIx xs.length 0 lo)).take (HT.sIx xs.length xs.length hi - HT.sIx xs.length 0 lo)
def partD : D → Option (Option Int)
  | .int i => some (some i)
  | .non => some none
  | _ => none
def oNone : Ev → M (Option Int) := fun _ oh => .ok none oh
def oSome (m : Ev → M D) : Ev → M (Option Int) := fun s oh => (m s oh).bnd fun d oh => match d with
  | .int i => .ok (some i) oh
  | _ => .bad
def tOD (X : Cx) (W : WX) (m : Ev → M (Option Int)) : TO := fun σ H Q => ∃ ρ oh s, RH X.K H ρ oh ∧ RepS X.K H ρ s σ ∧ Out X.K X.mg (fun c d H' => W c d σ H') ρ H (m s oh) fun i _ _ H' => Q i H'
end
end SK
namespace L2
theorem PO.imp {X : Cx} {e : Option PySem.Expr} {t t' : TO} (h : PO X e t) (f : ∀ σ H Q, t' σ H Q → t σ H Q) : PO X e t' := ⟨fun pins s σ H Q I q => h.run pins s σ H Q I (f _ _ _ q)⟩
end L2
namespace SK
open PySem PySem.Spec PyProof.Rows L2 SKX LamX
section
variable {X : Cx} {W : WX} {e : Expr} {ma : Ev → M D} {ml mu : Ev → M (Option Int)} {lo hi : Option Expr} {pos p2 : Pos}
theorem ro_none : PO X none (tOD X W oNone) := po_none.imp fun σ H Q ⟨ρ, oh, s, rh, rs, h⟩ => h ρ H .refl rh
theorem ro_some (h : RE X W e ma) : PO X (some e) (tOD X W (oSome ma)) := (po_some h).imp fun σ H Q ⟨ρ, oh, s, rh, rs, h⟩ => by
  refine ⟨ρ, oh, s, rh, rs, (Out.bnd h).imp fun d oh1 ρ1 H1 L1 rh1 ⟨_, _, h1⟩ v rv => ?_⟩
  cases d with
  | int i =>
    simp only [Rep] at rv
    subst rv
    exact ⟨i, rfl, h1 ρ1 H1 .refl rh1⟩
  | _ => exact h1.elim
def pSl (d : D) (lo hi : Option Int) (oh : OH) : Option (D × OH) := match d with
  | .ref n => (itemsOf oh (.ref n)).map fun l => (.ref oh.length, oh ++ [.lst (cutD l lo hi)])
  | .tup l => some (.tup (cutD l lo hi), oh)
  | _ => none
def eSl (m : Ev → M D) (ml mu : Ev → M (Option Int)) : Ev → M D := fun s oh => (m s oh).bnd fun d oh => (ml s oh).bnd fun lo oh => (mu s oh).bnd fun hi oh => lf (pSl d lo hi oh)
theorem cut_rep {K : PySem.W.Frag} {H : Hp} {ρ : List Addr} {l : List D} {xs : List V} (r : RepL K H ρ l xs) (lo hi : Option Int) : RepL K H ρ (cutD l lo hi) (cutV xs lo hi) := by
  unfold cutD cutV
  rw [← r.length]
  exact (r.drop _).take _
theorem re_sl (he : RE X W e ma) (hl : PO X lo (tOD X W ml)) (hu : PO X hi (tOD X W mu)) : RE X W (.Subscript e (.Slice lo hi none p2) pos) (eSl ma ml mu) := (pe_slice (sl_list.or sl_tupA) he hl hu).imp fun σ H Q ⟨ρ, oh, s, rh, rs, h⟩ => by
  refine ⟨ρ, oh, s, rh, rs, (Out.bnd h).imp fun d oh1 ρ1 H1 L1 rh1 ⟨_, _, h1⟩ v rv => ?_⟩
  refine ⟨ρ1, oh1, s, rh1, L1.reps rs, (Out.bnd h1).imp fun lo oh2 ρ2 H2 L2 rh2 ⟨_, _, h2⟩ => ?_⟩
  refine ⟨ρ2, oh2, s, rh2, (L1.trans L2).reps rs, (Out.bnd h2).imp fun hi oh3 ρ3 H3 L3 rh3 ⟨_, _, h3⟩ => ?_⟩
  have rv3 := (L2.trans L3).rep rv
  have h4 := OutP.of h3
  cases d with
  | ref n =>
    simp only [pSl] at h4
    cases el : itemsOf oh3 (.ref n) with
    | none => rw [el] at h4; exact h4.elim
    | some l =>
      rw [el] at h4
      obtain ⟨p, xs, rfl, hs, r⟩ := items_ref rh3 rv3 el
      exact .inl ⟨p, xs, rfl, hs, OutP.pushL h4 rh3 (cut_rep r lo hi)⟩
  | tup l =>
    simp only [Rep] at rv3
    obtain ⟨p, xs, rfl, hs, r⟩ := rv3
    refine .inr ⟨p, xs, rfl, SqT.of hs, fun hw => ?_, fun hw q hq => ?_⟩
    · have e : cutV xs lo hi = xs := by
        unfold cutV
        rw [hw.1, hw.2, List.drop_zero, Nat.sub_zero, List.take_length]
      have c := cut_rep r lo hi
      rw [e] at c
      exact OutP.here h4 rh3 (by simp only [Rep]; exact ⟨p, xs, rfl, hs, c⟩)
    · exact OutP.tup h4 rh3 (cut_rep r lo hi) q hq
  | _ => exact h4.elim
end
end SK
set_option maxHeartbeats 2000000
namespace L2
open PySem PySem.Spec PyProof.Rows
theorem PK.imp {X : Cx} {e : List Keyword} {t t' : TA} (h : PK X e t) (f : ∀ σ H Q, t' σ H Q → t σ H Q) : PK X e t' := ⟨fun pos pins s σ H Q I q => h.run pos pins s σ H Q I (f _ _ _ q)⟩
end L2
namespace SK
open PySem PySem.Spec PyProof.Rows L2 SKX LamX
/-! ### calls, by what is known at the place -/
def RunAt (X : Cx) (f : Addr) (fd : FuncData) (ps : List Str) (g : Fn) : Prop := ∀ (s : Shared) (H : Hp) (args : Args) (us : List Value) (vs : List V) (Q : VK) (E : XK), Env0 X.prog X.w X.K X.mg X.base X.A X.stack s H → BindsTo s fd args (ps.zip us) → Vals vs us → spF X.K X.mg ps.length g vs H Q E →
  codeAny (model X.prog X.w) X.A (.call (.ref f) args) (CR (L2.CX X.prog X.w) X.stack X.prog X.w H s Q E) s
section
variable {X : Cx} {W : WX} {e : Expr} {es : List Expr} {ma : Ev → M D} {ms mk : Ev → M (List D)} {pos : Pos} {f : Addr} {fd : FuncData} {ps ks : List Str} {g : Fn} {x : Str} {p : Pos} {kws : List Keyword}
theorem RunAt.ok {k : Nat} (F : FnOk X.prog X.w X.K X.mg X.base (L2.CX X.prog X.w) k f fd ps (spF X.K X.mg ps.length g)) (hr : Room k X.A) : RunAt X f fd ps g := fun s H args us vs Q E e0 => F.run X.A X.stack s H args us vs Q E hr e0
theorem RunAt.gu {k : Nat} (F : FnG X.prog X.w X.K X.mg X.base k f fd ps (spF X.K X.mg ps.length g)) (hg : X.A.guards = some []) (hr : Room k X.A) : RunAt X f fd ps g := fun s H args us vs Q E e0 => F.go X.A X.stack s H args us vs Q E hg hr e0
def sel {α : Type} (ix : List Nat) (l : List α) : List α := ix.filterMap (l[·]?)
theorem sel_rep {K : PySem.W.Frag} {H : Hp} {ρ : List Addr} {ds : List D} {vs : List V} (r : RepL K H ρ ds vs) : ∀ ix : List Nat, RepL K H ρ (sel ix ds) (sel ix vs)
  | [] => by simp [sel, RepL]
  | i :: ix => by
    have ih := sel_rep r ix
    unfold sel at ih ⊢
    rw [List.filterMap_cons, List.filterMap_cons]
    cases e : ds[i]? with
    | some d =>
      obtain ⟨v, ev, rv⟩ := r.get e
      simp only [ev, RepL]
      exact ⟨v, _, rfl, rv, ih⟩
    | none =>
      have ev : vs[i]? = none := by
        rw [List.getElem?_eq_none_iff] at e ⊢
        rw [← r.length]; exact e
      simp only [ev]
      exact ih
theorem sel_vals {vs : List V} {us : List Value} (r : Vals vs us) : ∀ ix : List Nat, Vals (sel ix vs) (sel ix us)
  | [] => .nil
  | i :: ix => by
    have ih := sel_vals r ix
    unfold sel at ih ⊢
    rw [List.filterMap_cons, List.filterMap_cons]
    cases e : vs[i]? with
    | some d =>
      obtain ⟨v, ev, rv⟩ := r.get e
      simp only [ev]
      exact .cons rv ih
    | none => simp only [r.none_of e]; exact ih
theorem finish_call (R : RunAt X f fd ps g) (tk : Takes X W) {pins : List (Addr × Obj)} {s : Shared} {σ : L2.St} {H : Hp} {Q : VK} {args : List Value} {kw : List (Str × Value)} {us : List Value} {vs : List V} {ρ : List Addr} {oh : OH} {ds : List D} (I : Inv X pins σ H s) (bnd : BindsTo s fd ⟨args, kw⟩ (ps.zip us)) (r : Vals vs us)
    (hl : ds.length = ps.length) (rh : RH X.K H ρ oh) (rd : RepL X.K H ρ ds vs) (q : Out X.K X.mg (WE W σ) ρ H (g ds oh) fun d _ ρ' H' => ∀ v, Rep X.K H' ρ' d v → Q v H') :
    wpAny (model X.prog X.w) X.A (call (.ref f) args kw) (EP X pins σ Q) X.xe s := by
  refine wpAny_call (codeAny_mono (R s H ⟨args, kw⟩ us vs Q (WE W σ) I.env0 bnd r ⟨ρ, oh, ds, by rw [← rd.length, hl], rh, rd, q⟩) fun r s' hq => ?_)
  cases r with
  | error ev => exact passAt tk σ pins H s ev s' I hq
  | ok fl =>
    cases fl with
    | ret u => exact I.after hq
    | next => exact False.elim hq
    | brk => exact False.elim hq
    | cont => exact False.elim hq
def LenOk (m : Ev → M (List D)) (n : Nat) : Prop := ∀ (s : Ev) (oh : OH) (ds : List D) (oh' : OH), m s oh = .ok ds oh' → ds.length = n
theorem re_callR (R : RunAt X f fd ps g) (hm : X.mg x = some (.ref f)) (hk : PySem.W.keepIn X.K (.ref f) = true) (hb : Binds X.K fd ps []) (tk : Takes X W)
    (ha : RA X W (e :: es) ms) (hlen : LenOk ms ps.length) (hg : Gl X x := by rfl) (hdb : (x == ("__debug__" : Str)) = false := by decide) (he : starEach (e :: es) X.env = (false, eval e X.env) :: starEach es X.env := by rfl) (hpl : (backTo pos (starEach es X.env)).any (·.1) = false := by rfl) :
    RE X W (.Call (.Name x p) (e :: es) [] pos) (eCall g ms) := by
  refine ⟨fun pins s σ H Q I hh => ?_⟩
  obtain ⟨ρ, oh, sv, rh, rs, h⟩ := hh
  have h2 := Out.bnd h
  refine wpAny_Call_Name_kw (ld_glob I hg hm ?_ hdb)
  refine PySem.W.callWith_K (h₀ := X.base) I.ok.mod.kin hk (thn (ha.run pos pins s σ H (fun vs H1 => ∃ ρ1 oh1 ds, ds.length = ps.length ∧ RH X.K H1 ρ1 oh1 ∧ RepL X.K H1 ρ1 ds vs ∧ Out X.K X.mg (WE W σ) ρ1 H1 (g ds oh1) fun d _ ρ' H' => ∀ v, Rep X.K H' ρ' d v → Q v H') I ⟨ρ, oh, sv, rh, rs, ?_⟩) fun us s1 hh => ?_) he hpl
  · cases em : ms sv oh with
    | ok ds oh1 =>
      rw [em] at h2
      exact fun ρ1 H1 L1 rh1 vs rvs => ⟨ρ1, oh1, ds, hlen _ _ _ _ em, rh1, rvs, (h2 ρ1 H1 L1 rh1).2.2⟩
    | exc c w oh1 => rw [em] at h2; exact h2
    | bad => rw [em] at h2; exact h2
  · obtain ⟨vs, H1, I1, r1, ρ1, oh1, ds, hl, rh1, rvs, q⟩ := hh
    have z := hb s1 us I1.kIn (by rw [List.append_nil, ← r1.length, ← rvs.length, hl])
    rw [List.append_nil] at z
    exact ⟨I1.kIn, finish_call R tk I1 z r1 hl rh1 rvs q⟩
abbrev RK (X : Cx) (W : WX) (e : List Keyword) (m : Ev → M (List D)) : Prop := PK X e (tA X W m)
theorem rk_nil : RK X W [] aNil := pk_nil.imp fun σ H Q ⟨ρ, oh, s, rh, rs, h⟩ => h ρ H .refl rh [] (by simp [RepL])
theorem rk_cons {nm : Option Str} {kpos : Pos} (ha : RE X W e ma) (hr : RK X W kws ms) : RK X W (⟨nm, e, kpos⟩ :: kws) (aCons ma ms) := (pk_cons ha hr).imp fun σ H Q ⟨ρ, oh, s, rh, rs, h⟩ => by
  refine ⟨ρ, oh, s, rh, rs, (Out.bnd h).imp fun dx oh1 ρ1 H1 L1 rh1 ⟨_, _, h1⟩ v rv => ?_⟩
  refine ⟨ρ1, oh1, s, rh1, L1.reps rs, (Out.bnd h1).imp fun ds oh2 ρ2 H2 L2 rh2 ⟨_, _, h2⟩ vs rvs => ?_⟩
  exact h2 ρ2 H2 .refl rh2 (v :: vs) (by simp only [RepL]; exact ⟨v, vs, rfl, L2.rep rv, rvs⟩)
def eCallK0 (g : Fn) (ix : List Nat) (mk : Ev → M (List D)) : Ev → M D := fun s oh => (mk s oh).bnd fun zs oh => g (sel ix zs) oh
def eCallK (g : Fn) (ix : List Nat) (ms mk : Ev → M (List D)) : Ev → M D := fun s oh => (ms s oh).bnd fun ds oh => (mk s oh).bnd fun zs oh => g (sel ix (ds ++ zs)) oh
theorem sel_len {α : Type} {ix : List Nat} {l : List α} (h : ∀ i ∈ ix, i < l.length) : (sel ix l).length = ix.length := by
  induction ix with
  | nil => rfl
  | cons i ix ih =>
    have hi := h i List.mem_cons_self
    unfold sel at ih ⊢
    rw [List.filterMap_cons, List.getElem?_eq_getElem hi]
    simp only [List.length_cons]
    rw [ih fun j hj => h j (List.mem_cons_of_mem _ hj)]
/-- f(k = v, ..) -/
theorem re_callK0 {ix : List Nat} {n : Nat} (R : RunAt X f fd ps g) (hm : X.mg x = some (.ref f)) (hk : PySem.W.keepIn X.K (.ref f) = true) (tk : Takes X W) (hkw : RK X W kws mk) (hlen : LenOk mk n) (hix : ix.all (· < n) = true) (hip : ix.length = ps.length)
    (hb : ∀ (s : Shared) (ws : List Value), ws.length = n → BindsTo s fd ⟨[], ks.zip ws⟩ (ps.zip (sel ix ws)))
    (hall : (backToKw pos (keywordEach kws X.env)).all (·.1.isSome) = true := by rfl) (hks : (backToKw pos (keywordEach kws X.env)).filterMap (·.1) = ks := by rfl) (hg : Gl X x := by rfl) (hdb : (x == ("__debug__" : Str)) = false := by decide)
    (hpl : ((backTo pos (starEach [] X.env)).any (·.1) || (backToKw pos (keywordEach kws X.env)).any (·.1.isNone)) = false := by rfl) :
    RE X W (.Call (.Name x p) [] kws pos) (eCallK0 g ix mk) := by
  refine ⟨fun pins s σ H Q I hh => ?_⟩
  obtain ⟨ρ, oh, sv, rh, rs, h⟩ := hh
  have h2 := Out.bnd h
  refine wpAny_Call_Name_kw (ld_glob I hg hm ?_ hdb)
  refine PySem.W.callWith_KW0 (h₀ := X.base) I.ok.mod.kin hk hall (thn (hkw.run pos pins s σ H (fun vs H1 => ∃ ρ1 oh1 ds, ds.length = n ∧ RH X.K H1 ρ1 oh1 ∧ RepL X.K H1 ρ1 ds vs ∧ Out X.K X.mg (WE W σ) ρ1 H1 (g (sel ix ds) oh1) fun d _ ρ' H' => ∀ v, Rep X.K H' ρ' d v → Q v H') I ⟨ρ, oh, sv, rh, rs, ?_⟩) fun us s1 hh => ?_) hpl
  · cases em : mk sv oh with
    | ok ds oh1 =>
      rw [em] at h2
      exact fun ρ1 H1 L1 rh1 vs rvs => ⟨ρ1, oh1, ds, hlen _ _ _ _ em, rh1, rvs, (h2 ρ1 H1 L1 rh1).2.2⟩
    | exc c w oh1 => rw [em] at h2; exact h2
    | bad => rw [em] at h2; exact h2
  · obtain ⟨vs, H1, I1, r1, ρ1, oh1, ds, hl, rh1, rvs, q⟩ := hh
    refine ⟨I1.kIn, ?_⟩
    rw [hks]
    have hu : us.length = n := by rw [← r1.length, ← rvs.length, hl]
    have hlt : ∀ i ∈ ix, i < n := fun i hi => of_decide_eq_true (List.all_eq_true.mp hix i hi)
    exact finish_call R tk I1 (hb s1 us hu) (sel_vals r1 ix) (by rw [sel_len (by rw [hl]; exact hlt), hip]) rh1 (sel_rep rvs ix) q
/-- f(a, .., k = v, ..) -/
theorem re_callK {ix : List Nat} {n1 n : Nat} (R : RunAt X f fd ps g) (hm : X.mg x = some (.ref f)) (hk : PySem.W.keepIn X.K (.ref f) = true) (tk : Takes X W) (ha : RA X W (e :: es) ms) (hlen1 : LenOk ms n1) (hkw : RK X W kws mk) (hlen : LenOk mk n) (hix : ix.all (· < n1 + n) = true) (hip : ix.length = ps.length)
    (hb : ∀ (s : Shared) (us ws : List Value), us.length = n1 → ws.length = n → BindsTo s fd ⟨us, ks.zip ws⟩ (ps.zip (sel ix (us ++ ws))))
    (hall : (backToKw pos (keywordEach kws X.env)).all (·.1.isSome) = true := by rfl) (hks : (backToKw pos (keywordEach kws X.env)).filterMap (·.1) = ks := by rfl) (hg : Gl X x := by rfl) (hdb : (x == ("__debug__" : Str)) = false := by decide) (he : starEach (e :: es) X.env = (false, eval e X.env) :: starEach es X.env := by rfl)
    (hpl : ((backTo pos (starEach (e :: es) X.env)).any (·.1) || (backToKw pos (keywordEach kws X.env)).any (·.1.isNone)) = false := by rfl) :
    RE X W (.Call (.Name x p) (e :: es) kws pos) (eCallK g ix ms mk) := by
  refine ⟨fun pins s σ H Q I hh => ?_⟩
  obtain ⟨ρ, oh, sv, rh, rs, h⟩ := hh
  have h2 := Out.bnd h
  refine wpAny_Call_Name_kw (ld_glob I hg hm ?_ hdb)
  refine PySem.W.callWith_KW (h₀ := X.base) I.ok.mod.kin hk hall (thn (ha.run pos pins s σ H (fun vs H1 => ∃ ρ1 oh1 ds, ds.length = n1 ∧ RH X.K H1 ρ1 oh1 ∧ RepL X.K H1 ρ1 ds vs ∧ RepS X.K H1 ρ1 sv σ ∧ Out X.K X.mg (WE W σ) ρ1 H1 ((mk sv oh1).bnd fun zs oh => g (sel ix (ds ++ zs)) oh) fun d _ ρ' H' => ∀ v, Rep X.K H' ρ' d v → Q v H') I ⟨ρ, oh, sv, rh, rs, ?_⟩) fun us s1 hh => ?_) hpl he
  · cases em : ms sv oh with
    | ok ds oh1 =>
      rw [em] at h2
      exact fun ρ1 H1 L1 rh1 vs rvs => ⟨ρ1, oh1, ds, hlen1 _ _ _ _ em, rh1, rvs, L1.reps rs, (h2 ρ1 H1 L1 rh1).2.2⟩
    | exc c w oh1 => rw [em] at h2; exact h2
    | bad => rw [em] at h2; exact h2
  · obtain ⟨vs, H1, I1, r1, ρ1, oh1, ds, hl, rh1, rvs, rs1, q⟩ := hh
    have q2 := Out.bnd q
    refine thn (hkw.run pos pins s1 σ H1 (fun zs H2 => ∃ ρ2 oh2 es, es.length = n ∧ RH X.K H2 ρ2 oh2 ∧ RepL X.K H2 ρ2 ds vs ∧ RepL X.K H2 ρ2 es zs ∧ Out X.K X.mg (WE W σ) ρ2 H2 (g (sel ix (ds ++ es)) oh2) fun d _ ρ' H' => ∀ v, Rep X.K H' ρ' d v → Q v H') I1 ⟨ρ1, oh1, sv, rh1, rs1, ?_⟩) fun ws s2 hh => ?_
    · cases em : mk sv oh1 with
      | ok es oh2 =>
        rw [em] at q2
        exact fun ρ2 H2 L2 rh2 zs rz => ⟨ρ2, oh2, es, hlen _ _ _ _ em, rh2, L2.repl rvs, rz, (q2 ρ2 H2 L2 rh2).2.2⟩
      | exc c w oh2 => rw [em] at q2; exact q2
      | bad => rw [em] at q2; exact q2
    · obtain ⟨zs, H2, I2, r2, ρ2, oh2, es', hl2, rh2, rv2, rz, q3⟩ := hh
      refine ⟨I2.kIn, ?_⟩
      rw [hks]
      have hu : us.length = n1 := by rw [← r1.length, ← rvs.length, hl]
      have hw : ws.length = n := by rw [← r2.length, ← rz.length, hl2]
      have hlt : ∀ i ∈ ix, i < (ds ++ es').length := fun i hi => by rw [List.length_append, hl, hl2]; exact of_decide_eq_true (List.all_eq_true.mp hix i hi)
      exact finish_call R tk I2 (hb s2 us ws hu hw) (sel_vals (r1.append r2) ix) (by rw [sel_len hlt, hip]) rh2 (sel_rep (rv2.append rz) ix) q3
/-! ### xs.append(e) -/
def isLst (oh : OH) (n : Nat) : Bool := match oh[n]? with
  | some (.lst _) => true
  | _ => false
def pAppend (n : Nat) (ds : List D) (oh : OH) : Option (D × OH) := match ds with
  | [d] => match oh[n]? with
    | some (.lst l) => if l.length < sizeLine then some (.non, oh.set n (.lst (l ++ [d]))) else none
    | _ => none
  | _ => none
def eAppend (mo : Ev → M D) (ms : Ev → M (List D)) : Ev → M D := fun s oh => (mo s oh).bnd fun o oh => match o with
  | .ref n => if isLst oh n then (ms s oh).bnd fun ds oh => lf (pAppend n ds oh) else .bad
  | _ => .bad
end
end SK
set_option maxHeartbeats 2000000
namespace SK
open PySem PySem.Spec PyProof.Rows L2 SKX LamX
/-! ### the law at its call -/
/-- what is tracked at the law's entry: the script (where it is no object of the written part) and the tables -/
def entH (a : Addr) (on : Bool) (ob : Obj) (xs : List V) (ts : List Addr) : Hp := fun b => if b = a ∧ on = true then some (.frz ob (.lst xs)) else if b ∈ ts then some (.tbl #[]) else none
section
variable {a : Addr} {on : Bool} {ob : Obj} {xs : List V} {ts : List Addr}
theorem entH_a (h : on = true) : entH a on ob xs ts a = some (.frz ob (.lst xs)) := if_pos ⟨rfl, h⟩
theorem entH_t {b : Addr} (h : b ∈ ts) (n : b ≠ a) : entH a on ob xs ts b = some (.tbl #[]) := by
  unfold entH
  rw [if_neg (fun z => n z.1), if_pos h]
theorem entH_cases (b : Addr) : (b = a ∧ on = true ∧ entH a on ob xs ts b = some (.frz ob (.lst xs))) ∨ (b ∈ ts ∧ entH a on ob xs ts b = some (.tbl #[])) ∨ entH a on ob xs ts b = none := by
  unfold entH
  by_cases h : b = a ∧ on = true
  · exact .inl ⟨h.1, h.2, if_pos h⟩
  · by_cases h2 : b ∈ ts
    · exact .inr (.inl ⟨h2, by rw [if_neg h, if_pos h2]⟩)
    · exact .inr (.inr (by rw [if_neg h, if_neg h2]))
end
/-- the own heap behind the script at the law's entry -/
def entR (cs : List (Addr × Addr)) : List Addr := match cs with
  | [] => []
  | p :: _ => [p.2]
def entO (cs : List (Addr × Addr)) (qs : List Str) : OH := match cs with
  | [] => []
  | p :: r => [.tbls (((p :: r).map (·.2)).zip qs)]
theorem law_run {P : Program} {w : World} {K : PySem.W.Frag} {mg mb : Str → Option Value} {k : Nat} {fa a : Addr} {cs : List (Addr × Addr)} {fd : FuncData} {x : Str} {g : Fn} {s₁ : Shared} {vs : List Value} {ns : List Int}
    (KX : K.In s₁.heap) (hns : s₁.heap.Ns mainGlobals mg) (hb : s₁.heap.Ns builtinsNs mb) (hbb : ∀ x : Str, x ≠ "__name__" → mb x = bootBuiltins x) (hlim : s₁.heap.NoLimit) (hgen : s₁.gens = #[])
    (hT : ∀ p ∈ cs, s₁.heap.get? p.2 = some { cls := .none, data := .fields #[] }) (nT : ∀ p ∈ cs, K.lookup p.2 = none) (C : ∀ p ∈ cs, PySem.W.CodeHd s₁.heap p.1 p.2)
    (hbm : ∃ (bm : Addr) (ob : Obj), mg "__builtins__" = some (.ref bm) ∧ bm ≠ builtinsNs ∧ s₁.heap.get? bm = some ob ∧ ob.cls = .type "module" ∧ ob.dict = some builtinsNs ∧ ob.data = .plain)
    (ha : s₁.heap.get? a = some { cls := .type "list", data := .seq vs.toArray }) (hi : IntsAre vs ns) (hl : ns.length ≤ sizeLine) (hr : Room k callerA)
    (F : ∀ base : Heap, K.In base → base.Ns mainGlobals mg → (∀ p ∈ cs, TabB base mg p.1 p.2) → FnG P w K mg base k fa fd [x] (spF K mg 1 g)) (hbind : ∀ (s : Shared) (u : Value), BindsTo s fd ⟨[u], []⟩ [(x, u)])
    (qs : List Str) (hqs : qs.length = cs.length)
    (hg : ∃ oh', g [.ref 0] (.ro (ns.map D.int) :: entO cs qs) = .ok (.bl true) oh') :
    codeAny (model P w) callerA (.call (.ref fa) ⟨[.ref a], []⟩) (fun r s' => r = .ok (.ret (.bool true)) ∧ OldK s₁.heap s'.heap ∧ s'.os = s₁.os ∧ AllBare s'.gens) s₁ := by
  obtain ⟨on, hon⟩ : ∃ on : Bool, on = true ↔ K.lookup a = none := by
    cases K.lookup a with
    | none => exact ⟨true, by simp⟩
    | some o => exact ⟨false, by simp⟩
  have rv := vals_ints hi
  have ts_at : ∀ b, b ∈ cs.map (·.2) → ∃ p ∈ cs, p.2 = b := fun b h => by
    obtain ⟨p, h1, h2⟩ := List.mem_map.mp h
    exact ⟨p, h1, h2⟩
  have inTs : ∀ p ∈ cs, p.2 ∈ cs.map (·.2) := fun p h => List.mem_map.mpr ⟨p, h, rfl⟩
  have tObj : ∀ b, b ∈ cs.map (·.2) → s₁.heap.get? b = some { cls := .none, data := .fields #[] } := fun b h => by
    obtain ⟨p, h1, rfl⟩ := ts_at b h
    exact hT p h1
  have a_no : a ∉ cs.map (·.2) := fun h => by
    have z := (tObj a h).symm.trans ha
    have z2 : Data.fields #[] = Data.seq vs.toArray _ := congrArg Obj.data (Option.some.inj z)
    cases z2
  generalize hH : entH a on { cls := .type "list", data := .seq vs.toArray } (ns.map V.int) (cs.map (·.2)) = H
  have Hc : ∀ b, (b = a ∧ on = true ∧ H b = some (.frz { cls := .type "list", data := .seq vs.toArray } (.lst (ns.map V.int)))) ∨ (b ∈ cs.map (·.2) ∧ H b = some (.tbl #[])) ∨ H b = none := fun b => by
    rw [← hH]
    exact entH_cases b
  have Ht : ∀ p ∈ cs, H p.2 = some (.tbl #[]) := fun p h => by
    rw [← hH]
    exact entH_t (inTs p h) fun z => a_no (z ▸ inTs p h)
  have hok : HOk P w H s₁.heap := fun b u e => by
    rcases Hc b with ⟨rfl, _, q⟩ | ⟨h, q⟩ | q
    · rw [q] at e
      cases e
      exact ⟨ha, by rw [List.length_map]; exact hl, vs, _, rv, ha⟩
    · rw [q] at e
      cases e
      exact tObj b h
    · rw [q] at e
      cases e
  -- an object that is neither a list nor a table is not tracked
  have free : ∀ {b : Addr} {o : Obj}, s₁.heap.get? b = some o → (∀ us n, o.data ≠ .seq us n) → o.data ≠ .fields #[] → H b = none := fun {b o} e n1 n2 => by
    rcases Hc b with ⟨rfl, _, _⟩ | ⟨h, _⟩ | q
    · rw [ha] at e
      cases e
      exact absurd rfl (n1 _ _)
    · rw [tObj b h] at e
      cases e
      exact absurd rfl n2
    · exact q
  have below : ∀ {b : Addr} {o : Obj}, s₁.heap.get? b = some o → H b = none → (hidT s₁.heap H).get? b = some o := fun e n => hidT_get e n
  have belowNs : ∀ {b : Addr} {m : Str → Option Value}, s₁.heap.Ns b m → (hidT s₁.heap H).Ns b m := fun {b m} ⟨o, es, ep, e, d, r⟩ =>
    ⟨o, es, ep, below e (free e (fun us n z => by rw [d] at z; cases z) fun z => by rw [d] at z; cases z), d, r⟩
  have KB : K.In (hidT s₁.heap H) := fun b o e => below (KX b o e) (by
    rcases Hc b with ⟨rfl, ho, _⟩ | ⟨h, _⟩ | q
    · rw [hon.mp ho] at e
      cases e
    · obtain ⟨p, h1, rfl⟩ := ts_at b h
      rw [nT p h1] at e
      cases e
    · exact q)
  have MB : L2.Mod K mg (hidT s₁.heap H) := ⟨KB, belowNs hns, ⟨mb, belowNs hb, hbb⟩, let ⟨mc, h1, h2⟩ := hlim; ⟨mc, belowNs h1, h2⟩⟩
  have TBs : ∀ p ∈ cs, TabB (hidT s₁.heap H) mg p.1 p.2 := fun p hp => by
    have hTp := hT p hp
    constructor
    · obtain ⟨o, us, file, tf, flags, tg, inF, text, tt, e1, r1, r2, r3, r4, r5, r6, r7, r8, hne⟩ := C p hp
      exact ⟨o, us, file, tf, flags, tg, inF, text, tt, below e1 (free e1 (fun us n z => by rw [r2] at z; cases z) fun z => by
        rw [r2] at z
        cases z
        simp at r3), r1, r2, r3, r4, r5, r6, r7, r8, hne⟩
    · obtain ⟨bm, ob, b1, b2, b3, b4, b5, b6⟩ := hbm
      refine ⟨bm, ob, b1, b2, fun z => ?_, fun z => ?_, below b3 (free b3 (fun us n y => by rw [b6] at y; cases y) fun y => by rw [b6] at y; cases y), b4, b5, b6⟩
      · obtain ⟨o, es, ep, e, hd, _⟩ := hns
        rw [z, e] at b3
        cases b3
        rw [hd] at b6
        cases b6
      · rw [z, hTp] at b3
        cases b3
        cases b6
    · intro z
      obtain ⟨o, es, ep, e, hd, _⟩ := hns
      rw [z, hTp] at e
      cases e
      cases hd
  have e0 : Env0 P w K mg (hidT s₁.heap H) callerA [] s₁ H := ⟨rfl, MB, fun b o e => of_hidT e, Nat.le_of_eq (hidT_size _ _), trivial, fun b hb => absurd (show b ∈ ([] : List Addr) from hb) (by simp), hok, .of_eq hgen⟩
  -- the own cells: the script, the tables
  have rints : ∀ (ρ : List Addr) (ns : List Int), RepL K H ρ (ns.map D.int) (ns.map V.int) := fun ρ ns => by
    induction ns with
    | nil => simp [RepL]
    | cons n r ih =>
      show RepL K H ρ (.int n :: r.map D.int) (.int n :: r.map V.int)
      simp only [RepL, Rep]
      exact ⟨_, _, rfl, rfl, ih⟩
  have rsc : ∀ (ρ : List Addr) (c : Cell) (b : Addr), (.ro (ns.map D.int) : Cell) = c → a = b → RepC K H ρ c b := fun ρ c b e1 e2 => by
    subst e1; subst e2
    refine ⟨ns.map V.int, ?_, rints ρ ns⟩
    cases hk : K.lookup a with
    | none =>
      refine .inl ⟨{ cls := .type "list", data := .seq vs.toArray }, ?_⟩
      rw [← hH]
      exact entH_a (hon.mpr hk)
    | some o =>
      have e := KX a o hk
      rw [ha] at e
      cases e
      exact .inr ⟨_, vs.toArray, _, hk, rfl, rfl, rfl, by rw [List.size_toArray, hi.length]; exact hl, by simpa using rv⟩
  have rh : RH K H (a :: entR cs) (.ro (ns.map D.int) :: entO cs qs) := by
    cases hcs : cs with
    | nil =>
      refine ⟨rfl, fun m n b l l' e1 e2 o1 o2 e3 e4 => ?_, fun n c b e1 e2 => ?_, fun T e => ?_, fun n T e => ?_⟩
      · match m, e1 with
        | 0, e1 => cases e1; cases o1
        | m + 1, e1 => simp [entO] at e1
      · match n, e1, e2 with
        | 0, e1, e2 => exact rsc _ c b (Option.some.inj e1) (Option.some.inj e2)
        | n + 1, e1, _ => simp [entO] at e1
      · simp [entO] at e
      · match n, e with
        | 0, e => cases e
        | n + 1, e => simp [entO] at e
    | cons p0 cs' =>
      have hp0 : p0 ∈ cs := by rw [hcs]; exact List.mem_cons_self
      have hqs' : qs.length = (p0 :: cs').length := by rw [← hcs]; exact hqs
      show RH K H [a, p0.2] [.ro (ns.map D.int), .tbls (((p0 :: cs').map (·.2)).zip qs)]
      refine ⟨rfl, fun m n b l l' e1 e2 o1 o2 e3 e4 => ?_, fun n c b e1 e2 => ?_, fun T e => ?_, fun n T e => ?_⟩
      · match m, e1 with
        | 0, e1 => cases e1; cases o1
        | 1, e1 => cases e1; cases o1
        | m + 2, e1 => simp at e1
      · match n, e1, e2 with
        | 0, e1, e2 => exact rsc _ c b (Option.some.inj e1) (Option.some.inj e2)
        | 1, e1, e2 =>
          cases e1
          cases e2
          refine ⟨⟨_, Ht p0 hp0⟩, ?_⟩
          cases qs with
          | nil => simp at hqs'
          | cons q0 qs' => exact ⟨(p0.2, q0), List.mem_cons_self, rfl⟩
        | n + 2, e1, _ => simp at e1
      · have e : Cell.tbls (((p0 :: cs').map (·.2)).zip qs) = .tbls T := Option.some.inj e
        cases e
        intro q hq
        have hq1 := (List.of_mem_zip hq).1
        rw [← hcs] at hq1
        obtain ⟨p, h1, h2⟩ := ts_at _ hq1
        exact TabS.nil (by rw [← h2]; exact Ht p h1)
      · match n, e with
        | 0, e => cases e
        | 1, _ => rfl
        | n + 2, e => simp at e
  obtain ⟨oh', eg⟩ := hg
  refine codeAny_mono ((F _ KB (belowNs hns) TBs).go callerA [] s₁ H ⟨[.ref a], []⟩ [.ref a] [.ref a] (fun v _ => v = .bl true) (fun _ _ _ => False) rfl hr e0 (hbind s₁ (.ref a)) (.cons rfl .nil) ⟨a :: entR cs, _, [.ref 0], rfl, rh, ?_, ?_⟩) fun r s' h => ?_
  · simp only [RepL, Rep]
    exact ⟨.ref a, [], rfl, ⟨a, rfl, rfl⟩, rfl⟩
  · unfold OutF
    rw [eg]
    intro ρ' H' _ _ v rv
    simpa only [Rep] using rv
  cases r with
  | error e =>
    obtain ⟨_, _, _, _, _, _, _, _, _, _, _, _, z⟩ := (show L2.CX P w [] H s₁ (fun _ _ _ => False) e s' from h)
    exact z.elim
  | ok fl =>
    cases fl with
    | next => exact False.elim h
    | brk => exact False.elim h
    | cont => exact False.elim h
    | ret u =>
      obtain ⟨v, H', os, bare, un, hok', r', q⟩ := h
      have q : v = .bl true := q
      subst q
      obtain rfl : u = Value.bool true := r'
      have stands : ∀ b o, b ∉ cs.map (·.2) → s₁.heap.get? b = some o → s'.heap.get? b = some o := fun b o nb e => by
        rcases Hc b with ⟨rfl, _, z⟩ | ⟨z, _⟩ | z
        · obtain ⟨e2, _⟩ := hok' b _ (un.frzs b _ _ z)
          rw [ha] at e
          cases e
          exact e2
        · exact absurd z nb
        · exact un.keep b o e z (fun y => absurd (show b ∈ ([] : List Addr) from y) (by simp)) (by simp)
      have grew : ∀ p ∈ cs, ∃ more : Array Value, s'.heap.get? p.2 = some { cls := .none, data := .fields more } := fun p hp => by
        obtain ⟨more, z⟩ := un.tbls p.2 #[] (Ht p hp)
        exact ⟨_, hok' p.2 _ z⟩
      refine ⟨rfl, ⟨fun b o e => ?_, fun b o e => ?_⟩, os, bare⟩
      · by_cases hm : b ∈ cs.map (·.2)
        · obtain ⟨p, hp, rfl⟩ := ts_at b hm
          obtain ⟨more, z⟩ := grew p hp
          rw [hT p hp] at e
          cases e
          exact .inr (.inl ⟨((C p hp).tab (hT p hp)).isCodeTable, rfl, #[], more, rfl, by rw [Array.empty_append]; exact z⟩)
        · exact .inl (stands b o hm e)
      · by_cases hm : b ∈ cs.map (·.2)
        · obtain ⟨p, hp, rfl⟩ := ts_at b hm
          obtain ⟨more, z⟩ := grew p hp
          exact ⟨_, z⟩
        · exact ⟨o, stands b o hm e⟩
/-- what is known of the law at the head's heap -/
def LawG (l : PySem.W.OpenLaw) (w : World) (K : PySem.W.Frag) (k n : Nat) (x : Str) (mg : Str → Option Value) (fa : Addr) (h : Heap) : Prop :=
  ∃ (fd : FuncData) (cs : List (Addr × Addr)) (qs : List Str) (g : Fn), qs.length = cs.length ∧ (∀ p ∈ cs, h.get? p.2 = some { cls := .none, data := .fields #[] }) ∧ (∀ p ∈ cs, K.lookup p.2 = none) ∧ (∀ p ∈ cs, PySem.W.CodeHd h p.1 p.2) ∧ (∀ (s : Shared) (u : Value), BindsTo s fd ⟨[u], []⟩ [(x, u)]) ∧
    (∀ ns : List Int, ns.length ≤ n → (∀ z ∈ ns, Builtin.Int.intBits z ≤ 1048576) → ∃ oh', g [.ref 0] (.ro (ns.map D.int) :: entO cs qs) = .ok (.bl true) oh') ∧
    ∀ base : Heap, K.In base → base.Ns mainGlobals mg → (∀ p ∈ cs, TabB base mg p.1 p.2) → FnG l.prog w K mg base k fa fd [x] (spF K mg 1 g)
/-- the table of the def that stands at fa is empty, its code object is as it should be -/
def OwnT (K : PySem.W.Frag) (fa : Addr) (h : Heap) : Prop := ∀ (c P : Addr) (o : Obj) (fd : FuncData) (e : Value) (dd : Option Addr) (vs : Array Value) (sl : Array (Option Value)), K.lookup fa = some o → o.data = .func fd → fd.code = .ref c → K.lookup c = some ⟨e, dd, .fields vs, sl⟩ → vs[11]? = some (.ref P) →
  h.get? P = some { cls := .none, data := .fields #[] } ∧ PySem.W.CodeHd h c P
theorem walk_law {l : PySem.W.OpenLaw} {n k : Nat} {q : Program} {loose : List Str} {XP : (Str → Option Value) → Heap → Prop} {YP : World → Heap → Prop} {d : DefRec} {K : Params → PySem.W.Frag} {x : Str}
    (hn : l.most = some n) (hn2 : n ≤ sizeLine) (hdf : d.params.defaults = []) (hr : Room k callerA) (hY : ∀ (w : World) (h : Heap), YP w h → (K w.params).In h)
    (F : ∀ (w : World) (mg : Str → Option Value) (fa : Addr) (h : Heap), YP w h → (K w.params).In h → h.Ns mainGlobals mg → mg d.name = some (.ref fa) → (∀ nm fb, ((recsOf q).any fun e => e.name == nm) = true → mg nm = some (.ref fb) → OwnT (K w.params) fb h) → LawG l w (K w.params) k n x mg fa h) :
    PySem.W.WalkO q loose XP YP l.row.toRowW d [] (fun f vs => PySem.call f vs) := by
  refine Att.attach_callB hn hdf fun w s₀ s₁ mg mb fa o pm cd doc a vs ns G Y ho hd hcd hmg hobj hints hlen hbits hg => ?_
  have KX := hY w _ Y
  have own : ∀ nm fb, ((recsOf q).any fun e => e.name == nm) = true → mg nm = some (.ref fb) → OwnT (K w.params) fb s₁.heap := fun nm fb hrec hfb c P o1 fd1 e dd vs1 sl k1 k2 k3 k4 k5 => by
    obtain ⟨dR, hmem, hnm⟩ := List.any_eq_true.mp hrec
    have hnm : dR.name = nm := beq_iff_eq.mp hnm
    obtain ⟨x1, x2, x3, x4, x5, y1, y2, y3, y4, y5, y6⟩ := G.T.tab dR hmem
    rw [hnm, hfb] at y1
    cases y1
    rw [KX _ _ k1] at y2
    cases y2
    rw [k2] at y3
    cases y3
    rw [k3] at y4
    cases y4
    have hd5 := PySem.W.CodeHd.of y5 y6
    obtain ⟨⟨oc, vc, z1, _, z3, z4⟩, hP⟩ := y6
    rw [KX _ _ k4] at z1
    cases z1
    cases z3
    rw [k5] at z4
    cases z4
    exact ⟨hP, hd5⟩
  obtain ⟨fd, cs, qs, g, hqs, hT, nT, C, hbi, hsp, hF⟩ := F w mg fa _ Y KX G.T.g hmg own
  exact law_run KX G.T.g G.T.b G.T.builtins G.T.nolimit hg hT nT C G.T.bmain hobj hints (Nat.le_trans hlen hn2) hr hF hbi qs hqs (hsp ns hlen hbits)
end SK
set_option maxHeartbeats 2000000
namespace SK
open PySem PySem.Spec PyProof.Rows L2 SKX LamX
theorem boot_len_ : bootBuiltins "len" = some (.builtin "len") := by kernel_rfl
theorem boot_max_ : bootBuiltins "max" = some (.builtin "max") := by kernel_rfl
theorem boot_min_ : bootBuiltins "min" = some (.builtin "min") := by kernel_rfl
theorem boot_abs_ : bootBuiltins "abs" = some (.builtin "abs") := by kernel_rfl
theorem boot_sum_ : bootBuiltins "sum" = some (.builtin "sum") := by kernel_rfl
theorem boot_any_ : bootBuiltins "any" = some (.builtin "any") := by kernel_rfl
theorem boot_all_ : bootBuiltins "all" = some (.builtin "all") := by kernel_rfl
theorem boot_repr_ : bootBuiltins "repr" = some (.builtin "repr") := by kernel_rfl
theorem boot_int_ : bootBuiltins "int" = some (.type "int") := by kernel_rfl
theorem boot_tuple_ : bootBuiltins "tuple" = some (.type "tuple") := by kernel_rfl
theorem boot_list_ : bootBuiltins "list" = some (.type "list") := by kernel_rfl
theorem u80 {k : Nat} {A : Around} (hr : Room k A) : A.units + 80 < cLine := by have := hr.un; omega
section
variable {X : Cx} {W : WX} {e b c : Expr} {es : List Expr} {ma mb : Ev → M D} {ms : Ev → M (List D)} {pos : Pos}
theorem rv (i : Nat) {x : Str} {pos : Pos} (hN : X.N[i]? = some x := by rfl) (hv : Vis X.env.scope x := by first | exact .inl rfl | exact .inr (.inl rfl) | exact .inr (.inr rfl)) (hd : (x == ("__debug__" : Str)) = false := by decide) (hcd : (x == ("__classdict__" : Str)) = false := by decide) : RE X W (.Name x pos) (eVar i) := re_var hN hv hd hcd
/-- gcd, by its name -/
theorem re_gcd {x : Str} {p : Pos} (hm : X.mg x = some (.builtin "math.gcd")) (ha : RA X W (e :: es) ms) (hg : Gl X x := by rfl) (hdb : (x == ("__debug__" : Str)) = false := by decide)
    (he : starEach (e :: es) X.env = (false, eval e X.env) :: starEach es X.env := by rfl) (hpl : (backTo pos (starEach es X.env)).any (·.1) = false := by rfl) : RE X W (.Call (.Name x p) (e :: es) [] pos) (eCB bGcd ms) := by
  refine ⟨fun pins s σ H Q I hh => ?_⟩
  obtain ⟨ρ, oh, sv, rh, rs, h⟩ := hh
  refine wpAny_Call_Name_kw (ld_glob I hg hm ?_ hdb)
  refine PyProof.Rows.callWith_builtin1 (thn (ha.run pos pins s σ H (fun vs H1 => rPL X bGcd vs H1 Q) I ⟨ρ, oh, sv, rh, rs, (Out.bnd h).imp fun ds oh1 ρ1 H1 L1 rh1 ⟨_, _, h1⟩ vs rvs => ⟨ρ1, oh1, ds, rh1, rvs, .of h1⟩⟩) fun us s1 ⟨vs, H1, I1, r1, q1⟩ => c_gcd pins s1 σ H1 vs us Q I1 r1 q1) he hpl
theorem re_append {o : Expr} {mo : Ev → M D} {apos cpos : Pos} (ho : RE X W o mo) (ha : RA X W [e] ms)
    (hbase : attributeBase o "append" X.env (eval o X.env) = eval o X.env := by rfl)
    (hfew : ((backTo cpos (starEach [e] X.env)).all (fun x => !x.1) && (backToKw cpos (keywordEach [] X.env)).all (fun x => x.1.isSome)
      && decide ([e].length + ([] : List Keyword).length + (if ([] : List Keyword).isEmpty then 0 else 1) < 30)) = true := by rfl)
    (hline : (apos.endLine == cpos.line) = true := by rfl) (hs : starEach [e] X.env = (false, eval e X.env) :: starEach [] X.env := by rfl) (hplain : (backTo cpos (starEach [] X.env)).any (·.1) = false := by rfl) :
    RE X W (.Call (.Attribute o "append" apos) [e] [] cpos) (eAppend mo ms) := (pe_bm PySem.F.plainAttrs_list PySem.F.slot_list_append PySem.F.type_list_append mt_append ho ha hbase hfew hline hs hplain).imp fun σ H Q ⟨ρ, oh, s, rh, rs, h⟩ => by
  refine ⟨ρ, oh, s, rh, rs, (Out.bnd h).imp fun o' oh1 ρ1 H1 L1 rh1 ⟨_, _, h1⟩ v rv => ?_⟩
  cases o' with
  | ref n =>
    simp only [Rep] at rv
    obtain ⟨a, rfl, ga⟩ := rv
    dsimp only at h1
    split at h1
    · rename_i hl
      unfold isLst at hl
      split at hl
      · rename_i l el
        obtain ⟨xs, hx, q⟩ := rh1.cell _ _ a el ga
        refine ⟨.inl ⟨rfl, xs, SqL.of hx⟩, ρ1, oh1, s, rh1, L1.reps rs, (Out.bnd h1).imp fun ds oh2 ρ2 H2 L2 rh2 ⟨_, _, h2⟩ vs rvs => ?_⟩
        have h3 := OutP.of h2
        have ga2 := pre_get L2.pre ga
        unfold pAppend at h3
        split at h3
        · obtain ⟨y, rfl, ry⟩ := rvs.one
          split at h3
          · rename_i l2 el2
            obtain ⟨ys, hy, q2⟩ := rh2.cell _ _ a el2 ga2
            split at h3
            · rename_i hz
              obtain ⟨rh3, L3⟩ := rh2.write (l := l2 ++ [_]) (xs := ys ++ [y]) el2 ga2 hy (q2.append (by simp only [RepL]; exact ⟨y, [], rfl, ry, rfl⟩))
              exact ⟨a, ys, y, rfl, rfl, hy, by rw [← q2.length]; exact hz, h3 ρ2 _ .non L3 rh3 (by simp [Rep])⟩
            · exact h3.elim
          · exact h3.elim
        · exact h3.elim
      · cases hl
    · exact h1.elim
  | _ => exact h1.elim
end
end SK
set_option maxHeartbeats 2000000
namespace SK
open PySem PySem.Spec PyProof.Rows L2 SKX LamX
/-! ### isinstance with a built-in type -/
def tyD (oh : OH) : D → Option String
  | .non => some "NoneType"
  | .bl _ => some "bool"
  | .int _ => some "int"
  | .str _ => some "str"
  | .tup _ => some "tuple"
  | .ref n => match oh[n]? with
    | some (.lst _) => some "list"
    | some (.ro _) => some "list"
    | _ => none
  | .adr _ => none
def isD (oh : OH) (T : String) (d : D) : Option Bool := (tyD oh d).bind fun t => kitB t T
def eIsB (T : String) (m : Ev → M D) : Ev → M D := fun s oh => (m s oh).bnd fun d oh => match isD oh T d with
  | some b => .ok (.bl b) oh
  | none => .bad
theorem tyD_ty {K : PySem.W.Frag} {H : Hp} {ρ : List Addr} {oh : OH} {d : D} {v : V} {t : String} (rh : RH K H ρ oh) (r : Rep K H ρ d v) (e : tyD oh d = some t) : TyX K H v (.type t) := by
  cases d with
  | non => cases e; simp only [Rep] at r; subst r; exact .base .non
  | bl b => cases e; simp only [Rep] at r; subst r; exact .base (.bl b)
  | int b => cases e; simp only [Rep] at r; subst r; exact .base (.int b)
  | str b => cases e; simp only [Rep] at r; subst r; exact .base (.str b)
  | tup l =>
    cases e
    simp only [Rep] at r
    obtain ⟨a, xs, rfl, hs, _⟩ := r
    exact .base (.tup hs)
  | ref n =>
    simp only [Rep] at r
    obtain ⟨a, rfl, ga⟩ := r
    simp only [tyD] at e
    split at e
    · rename_i l el
      cases e
      obtain ⟨xs, hx, _⟩ := rh.cell _ _ a el ga
      exact .base (.lst hx)
    · rename_i l el
      cases e
      obtain ⟨xs, hx, _⟩ := rh.cell _ _ a el ga
      rcases hx with ⟨o, h⟩ | ⟨o, _, _, h1, h2, _⟩
      · exact .base (.frz h)
      · exact .kList h1 h2
    · cases e
  | adr a => cases e
section
variable {X : Cx} {W : WX} {e : Expr} {m : Ev → M D} {pos p pT : Pos}
theorem re_isB {T : String} {x : Str} (he : RE X W e m) (hm : X.mg "isinstance" = none) (hmT : X.mg x = none) (hvT : bootBuiltins x = some (.type T)) (hv : bootBuiltins "isinstance" = some (.builtin "isinstance")) (hg : Gl X "isinstance" := by rfl) (hgT : Gl X x := by rfl) (hn : x ≠ "__name__" := by decide) (hdb : (x == ("__debug__" : Str)) = false := by decide)
    (hs : starEach [e, .Name x pT] X.env = (false, eval e X.env) :: starEach [.Name x pT] X.env := by rfl) (hs2 : starEach [.Name x pT] X.env = (false, eval (.Name x pT) X.env) :: starEach [] X.env := by rfl) (hpl : (backTo pos (starEach [.Name x pT] X.env)).any (·.1) = false := by rfl) :
    RE X W (.Call (.Name "isinstance" p) [e, .Name x pT] [] pos) (eIsB T m) := (pe_callB call_isi hg hm hv (pa_cons he (pa_cons (pe_bltn (v := .ty T) hgT hmT hvT rfl hn hdb) pa_nil hs2) hs) (by decide) (by decide) hs hpl).imp fun σ H Q ⟨ρ, oh, s, rh, rs, h⟩ => by
  refine ⟨ρ, oh, s, rh, rs, (Out.bnd h).imp fun d oh1 ρ1 H1 L1 rh1 ⟨_, _, h1⟩ v rv => ?_⟩
  cases ei : isD oh1 T d with
  | none => rw [ei] at h1; exact h1.elim
  | some b =>
    rw [ei] at h1
    unfold isD at ei
    cases et : tyD oh1 d with
    | none => rw [et] at ei; cases ei
    | some t =>
      rw [et] at ei
      exact ⟨v, .ty T, .type t, .type T, b, rfl, .ty T, tyD_ty rh1 rv et, kit_ty ei, h1 ρ1 H1 .refl rh1 _ (by simp [Rep])⟩
end
theorem boot_isinstance_ : bootBuiltins "isinstance" = some (.builtin "isinstance") := by kernel_rfl
theorem boot_bool_ : bootBuiltins "bool" = some (.type "bool") := by kernel_rfl
theorem boot_str_ : bootBuiltins "str" = some (.type "str") := by kernel_rfl
end SK
set_option maxHeartbeats 2000000
namespace L2
open PySem PySem.Spec PyProof.Rows
/-! ### several except clauses, each with a name or without -/
/-- the ends of a suite whose clause bound slot i: the name is gone behind it -/
def goneE (i : Nat) (D : Ends) : Ends := { nx := fun τ G => D.nx (τ.set i none) G, rt := D.rt, bk := fun τ G => D.bk (τ.set i none) G, ct := fun τ G => D.ct (τ.set i none) G }
abbrev Clause := Value × Option Nat × (Addr → Value → Option Addr → TS)
def wish1 (q : Option Nat) (ts : Addr → Value → Option Addr → TS) (D : Ends) (cls : Value) (d : Option Addr) (τ : St) (G : Hp) (z : Addr) : Prop := match q with
  | none => ts z cls d D τ G
  | some i => ts z cls d (goneE i D) (τ.set i (some (.ref z))) G
def wNamed (K : PySem.W.Frag) (Wo : WX) (D : Ends) : List Clause → WX
  | [] => Wo
  | (c, q, ts) :: r => fun cls d τ G => ∃ y, PySem.W.exmOne K cls c = some y ∧ (y = true → ∀ z, G z = none → wish1 q ts D cls d τ G z) ∧ (y = false → wNamed K Wo D r cls d τ G)
inductive HdsN (X : Cx) : List ExceptHandler → List Clause → Prop
  | nil : HdsN X [] []
  | bare {x : Str} {c : Value} {ts : Addr → Value → Option Addr → TS} {b1 : Stmt} {su : List Stmt} {p1 p2 : Pos} {hr : List ExceptHandler} {cr : List Clause} (hc : Names X x c)
      (hsu : ∀ (z : Addr) (ob : Obj) (cls : Value) (d : Option Addr) (pn : List (Addr × Obj)), Zc cls d ob → (∃ us, ob.data = .fields us) → PSs (X.suite z ((z, ob) :: pn)) (b1 :: su) (ts z cls d)) (r : HdsN X hr cr) :
      HdsN X (.ExceptHandler (some (.Name x p1)) none (b1 :: su) p2 :: hr) ((c, none, ts) :: cr)
  | named {x n : Str} {i : Nat} {c : Value} {ts : Addr → Value → Option Addr → TS} {b1 : Stmt} {su : List Stmt} {p1 p2 : Pos} {hr : List ExceptHandler} {cr : List Clause} (hc : Names X x c) (hi : X.N[i]? = some n) (hln : X.env.kindOf n = some .local)
      (hsu : ∀ (z : Addr) (ob : Obj) (cls : Value) (d : Option Addr) (pn : List (Addr × Obj)), Zc cls d ob → (∃ us, ob.data = .fields us) → PSs (X.suite z ((z, ob) :: pn)) (b1 :: su) (ts z cls d)) (r : HdsN X hr cr) :
      HdsN X (.ExceptHandler (some (.Name x p1)) (some n) (b1 :: su) p2 :: hr) ((c, some i, ts) :: cr)
section
variable {X : Cx} {body : List Stmt} {hd1 : ExceptHandler} {hr : List ExceptHandler} {cl : List Clause} {pos : Pos} {tb : WX → TS} {Wo : WX}
theorem ps_try_named (hst : X.stack = X.env :: X.outer) (hfr : X.env.frame = some X.env.locals) (hN : X.N.Nodup) (tk : Takes X Wo)
    (hbody : ∀ (W : WX) (pn : List (Addr × Obj)) (xe : Value → Shared → Prop), Takes (X.tr pn xe) W → PassesOwn (model X.prog X.w) X.A X.env xe → PSs (X.tr pn xe) body (tb W))
    (hh : HdsN X (hd1 :: hr) cl) : PS X (.Try body (hd1 :: hr) [] [] pos) (fun D τ G => tb (wNamed X.K Wo D cl) D τ G) := by
  refine ⟨fun pins sh τ G D V hyp => ?_⟩
  have okX := V.ok
  have frs_ : X.A.frames = some (X.env :: X.outer) := by rw [okX.frames, hst]
  refine wpAny_Try_except ?_
  refine wpAny_mono ((hbody (wNamed X.K Wo D cl) (X.pn ++ pins) (fun er t1 => wpAny (model X.prog X.w) X.A (noteFrame er X.env) (fun _ t2 => wpAny (model X.prog X.w) X.A (setFlight er none) (fun _ t3 => wpAny (model X.prog X.w) X.A (handleBy er X.env (hd1 :: hr)) (SP X pins D) X.xe t3) X.xe t2) X.xe t1)
    (fun uu sh' caught => ?_) PassesOwn.looking).run [] sh τ G D (V.toTry _) hyp) (fun fl t1 fin => ?_) (fun er t1 out => out)
  · obtain ⟨z, BB, sI, pins', τ', G', cls, d, rfl, Vt, nb, upw, skz, fresh, os, ag, wsh⟩ := caught
    have V1 : Inv X pins τ' G' sI := Vt.ofTry okX
    have skz' : Sky BB (X.env :: X.outer) z (Zc cls d) X.env.locals sh'.heap := by rw [← hst]; exact skz
    show wpAny (model X.prog X.w) X.A (noteFrame (.ref z) X.env) _ _ _
    refine Sky.land Zc.steady frs_ hfr skz' fun g3 fly3 upw3 => ?_
    have V3 : Inv X pins τ' G' { sh' with heap := g3 } := V1.landed nb fly3.1 (upw.trans upw3) os ag
    obtain ⟨ob3, us3, got3, zc3, dat3⟩ := fly3.there
    have notF : z ∉ frs (X.env :: X.outer) := fun mem => by
      obtain ⟨_, ob', got', notFields⟩ := fly3.2.2.1.mem mem
      rw [got3] at got'
      cases got'
      exact notFields _ dat3
    have noLoc : z ≠ X.env.locals := fun eq => notF (List.mem_filterMap.mpr ⟨X.env, List.mem_cons_self, by rw [hfr, eq]⟩)
    have noFs : z ∉ X.fs := fun mem => by
      obtain ⟨en, hen, qq⟩ := List.mem_filterMap.mp mem
      exact notF (List.mem_filterMap.mpr ⟨en, List.mem_cons_of_mem _ hen, qq⟩)
    have U3 := V3.suite got3 dat3 fresh noLoc noFs
    have walk : ∀ {hs' : List ExceptHandler} {cl' : List Clause}, HdsN X hs' cl' → wNamed X.K Wo D cl' cls d τ' G' → wpAny (model X.prog X.w) X.A (handleBy (.ref z) X.env hs') (SP X pins D) X.xe { sh' with heap := g3 } := by
      have typ : PySem.W.Looks (model X.prog X.w) g3 (typeOf (.ref z)) cls := fun A Q E s k q => wpAny_typeOf_ref (k _ _ got3) (by rw [zc3.1]; exact q)
      have test : ∀ {x : Str} {c : Value} {np : Pos}, Names X x c → ∀ {Q : Value → Shared → Prop} {E : Value → Shared → Prop}, Q c { sh' with heap := g3 } → wpAny (model X.prog X.w) (X.A.mark (some (.ref z))) (eval (.Name x np) X.env) Q E { sh' with heap := g3 } := fun {x c np} nm {Q E} q => by
        obtain ⟨gl, dbg, inM | ⟨noM, boot, nn⟩⟩ := nm
        · exact ld_glob (X := X.suite z ((z, ob3) :: (X.pn ++ pins))) U3 gl inM q dbg
        · exact ld_blt (X := X.suite z ((z, ob3) :: (X.pn ++ pins))) U3 gl noM boot q nn dbg
      intro hs' cl' hk
      induction hk with
      | nil =>
        intro wsh
        refine wpAny_handleBy_nil ?_
        obtain ⟨k1, k2, k3, ob, us, T, oT, tr', got, zc, dat, at1, rest⟩ := id fly3
        unfold PySem.passOn
        refine wpAny_bind (wpAny_field got dat at1 ?_)
        rw [if_neg (show ¬ ((Value.ref T == Value.none) = true) from by simp)]
        have leave : wpAny (model X.prog X.w) X.A (setFlight (.ref z) X.env.frame) (fun _ t4 => wpAny (model X.prog X.w) X.A (throw (.ref z) : Sem Flow) (SP X pins D) X.xe t4) X.xe { sh' with heap := g3 } := by
          rw [hfr]
          refine HandSPX.setFlight_upZ fly3 fun g4 fly4 upw4 => wpAny_throw (tk _ _ ?_)
          exact ⟨z, BB, sI, pins, τ', G', cls, d, rfl, V1, nb, (upw.trans upw3).trans upw4, .inr (.inr (by rw [hst]; exact fly4)), fresh, os, ag, wsh⟩
        first
          | exact wpAny_bind (wpAny_pure (wpAny_bind leave))
          | exact wpAny_bind leave
      | @bare x c ts b1 su p1 p2 hs2 cl2 nm hsu r ih =>
        intro wsh
        obtain ⟨y, ye, yes, no⟩ := wsh
        refine wpAny_handleBy_cons (codeAny_handlers_test ?_) (by intro q; cases q)
        refine test nm ((PySem.W.exm_one (M := model X.prog X.w) (V3.kIn) typ ye).here ?_)
        cases y with
        | false =>
          show wpAny _ X.A (handleBy (.ref z) X.env hs2) _ _ _
          exact ih (no rfl)
        | true =>
          refine codeAny_handlers_suite ?_
          refine HandSPX.lands_againZ fly3 fun g4 fly4 upw4 => ?_
          have V4 : Inv X pins τ' G' { sh' with heap := g4 } := V1.landed nb fly4.1 ((upw.trans upw3).trans upw4) os ag
          obtain ⟨ob4, us4, got4, zc4, dat4⟩ := fly4.there
          have U4 := V4.suite got4 dat4 fresh noLoc noFs
          refine wpAny_mono ((hsu z ob4 cls d (X.pn ++ pins) zc4 ⟨_, dat4⟩).run [] _ _ G' _ U4 (yes rfl z fresh)) (fun fl t6 fin => ?_) (fun _ _ never => False.elim never)
          cases fl with
          | ret uu => obtain ⟨v6, τ6, G6, U6, r6, q6⟩ := fin; exact ⟨_, _, _, U6.unsuite okX, r6, q6⟩
          | next => obtain ⟨τ6, G6, U6, q6⟩ := fin; exact ⟨_, _, U6.unsuite okX, q6⟩
          | brk => obtain ⟨τ6, G6, U6, q6⟩ := fin; exact ⟨_, _, U6.unsuite okX, q6⟩
          | cont => obtain ⟨τ6, G6, U6, q6⟩ := fin; exact ⟨_, _, U6.unsuite okX, q6⟩
      | @named x n i c ts b1 su p1 p2 hs2 cl2 nm hi hln hsu r ih =>
        intro wsh
        obtain ⟨y, ye, yes, no⟩ := wsh
        refine wpAny_handleBy_cons (codeAny_handlers_test ?_) (by intro q; cases q)
        refine test nm ((PySem.W.exm_one (M := model X.prog X.w) (V3.kIn) typ ye).here ?_)
        cases y with
        | false =>
          show wpAny _ X.A (handleBy (.ref z) X.env hs2) _ _ _
          exact ih (no rfl)
        | true =>
          refine codeAny_handlers_suite_as ?_
          refine HandSPX.lands_againZ fly3 fun g4 fly4 upw4 => ?_
          have V4 : Inv X pins τ' G' { sh' with heap := g4 } := V1.landed nb fly4.1 ((upw.trans upw3).trans upw4) os ag
          obtain ⟨ob4, us4, got4, zc4, dat4⟩ := fly4.there
          have U4 := V4.suite got4 dat4 fresh noLoc noFs
          refine store_ok (X := X.suite z ((z, ob4) :: (X.pn ++ pins))) (v := .ref z) U4 hN hi (.inl hln) rfl (fun t5 U5 => ?_) (.inr hln)
          refine wpAny_mono ((hsu z ob4 cls d (X.pn ++ pins) zc4 ⟨_, dat4⟩).run [] t5 _ G' _ U5 (yes rfl z fresh)) (fun fl t6 fin => ?_) (fun _ _ never => False.elim never)
          have after : ∀ {τ6 : St} {G6 : Hp} {Q : Shared → Prop}, Inv (X.suite z ((z, ob4) :: (X.pn ++ pins))) [] τ6 G6 t6 → (∀ t7, Inv X pins (τ6.set i none) G6 t7 → Q t7) → wpAny (model X.prog X.w) X.A (do bindName X.env n .none; unbindBehindTheSuite X.env n p2) (fun _ t7 => Q t7) X.xe t6 := fun {τ6 G6 Q} U6 qq => gone_ok (U6.unsuite okX) hN hi hln qq
          cases fl with
          | ret uu => obtain ⟨v6, τ6, G6, U6, r6, q6⟩ := fin; exact after U6 fun t7 V7 => ⟨_, _, _, V7, r6, q6⟩
          | next => obtain ⟨τ6, G6, U6, q6⟩ := fin; exact after U6 fun t7 V7 => ⟨_, _, V7, q6⟩
          | brk => obtain ⟨τ6, G6, U6, q6⟩ := fin; exact after U6 fun t7 V7 => ⟨_, _, V7, q6⟩
          | cont => obtain ⟨τ6, G6, U6, q6⟩ := fin; exact after U6 fun t7 V7 => ⟨_, _, V7, q6⟩
    exact walk hh wsh
  · cases fl with
    | ret uu => obtain ⟨v, τ', G', Vt, r, q⟩ := fin; exact ⟨v, τ', G', Vt.ofTry okX, r, q⟩
    | next => obtain ⟨τ', G', Vt, q⟩ := fin; exact wpAny_execs_nil ⟨τ', G', Vt.ofTry okX, q⟩
    | brk => obtain ⟨τ', G', Vt, q⟩ := fin; exact ⟨τ', G', Vt.ofTry okX, q⟩
    | cont => obtain ⟨τ', G', Vt, q⟩ := fin; exact ⟨τ', G', Vt.ofTry okX, q⟩
end
end L2
namespace SK
open PySem PySem.Spec PyProof.Rows L2 SKX LamX
def noExc (r : RS) : RS := match r with
  | .exc _ _ _ _ => .bad
  | r => r
abbrev DCl := (Str → Bool) × (Str → D → Ev → OH → RS)
def pickC : List DCl → Str → D → Ev → OH → RS
  | [], c, w, s, oh => .exc c w s oh
  | (sub, h) :: r, c, w, s, oh => if sub c then noExc (h c w s oh) else pickC r c w s oh
def sTryN (errs : List Str) (mb : SM) (cl : List DCl) : SM := fun s oh => match mb s oh with
  | .exc c w s' oh' => if errs.contains c then pickC cl c w s' oh' else .bad
  | r => r
/-- what a clause's suite does, seen from the own layer -/
def CReads (X : Cx) (W : WX) (errs : List Str) (q : Option Nat) (ts : Addr → Value → Option Addr → TS) (h : Str → D → Ev → OH → RS) : Prop := ∀ (z : Addr) (D0 : Ends) (ρ : List Addr) (G : Hp) (oh : OH) (s : Ev) (τ : L2.St) (c : Str) (w : D) (C dd : Addr) (v : V), RH X.K G ρ oh → RepS X.K G ρ s τ → errs.contains c = true → X.mg c = some (.ref C) →
  G dd = some (.xd [(("what" : Str), v)]) → Rep X.K G ρ w v → OutS X.K X.mg W ρ G (noExc (h c w s oh)) D0 → wish1 q ts D0 (.ref C) (some dd) τ G z
inductive HD (X : Cx) (W : WX) (errs : List Str) : List ExceptHandler → List Clause → List DCl → Prop
  | nil : HD X W errs [] [] []
  | cons {x : Str} {no : Option Str} {q : Option Nat} {Ch : Addr} {sub : Str → Bool} {ts : Addr → Value → Option Addr → TS} {h : Str → D → Ev → OH → RS} {b1 : Stmt} {su : List Stmt} {p1 p2 : Pos} {hr : List ExceptHandler} {cr : List Clause} {dr : List DCl} (hg : Gl X x) (hd : (x == ("__debug__" : Str)) = false) (hx : X.mg x = some (.ref Ch))
      (hq : match no, q with | none, none => True | some n, some i => X.N[i]? = some n ∧ X.env.kindOf n = some .local | _, _ => False)
      (hsub : ∀ c C, errs.contains c = true → X.mg c = some (.ref C) → PySem.W.exmOne X.K (.ref C) (.ref Ch) = some (sub c))
      (hsu : ∀ (z : Addr) (ob : Obj) (cls : Value) (d : Option Addr) (pn : List (Addr × Obj)), Zc cls d ob → (∃ us, ob.data = .fields us) → PSs (X.suite z ((z, ob) :: pn)) (b1 :: su) (ts z cls d))
      (hc : CReads X W errs q ts h) (r : HD X W errs hr cr dr) :
      HD X W errs (.ExceptHandler (some (.Name x p1)) no (b1 :: su) p2 :: hr) ((.ref Ch, q, ts) :: cr) ((sub, h) :: dr)
theorem HD.n {X : Cx} {W : WX} {errs : List Str} {hs : List ExceptHandler} {cl : List Clause} {dl : List DCl} (k : HD X W errs hs cl dl) : HdsN X hs cl := by
  induction k with
  | nil => exact .nil
  | @cons x no q Ch sub ts h b1 su p1 p2 hr cr dr hg hd hx hq hsub hsu hc r ih =>
    cases no with
    | none =>
      cases q with
      | none => exact .bare ⟨hg, hd, .inl hx⟩ hsu ih
      | some i => exact hq.elim
    | some n =>
      cases q with
      | none => exact hq.elim
      | some i => exact .named ⟨hg, hd, .inl hx⟩ hq.1 hq.2 hsu ih
section
variable {X : Cx} {W : WX} {errs : List Str} {body : List Stmt} {hd1 : ExceptHandler} {hr : List ExceptHandler} {cl : List Clause} {dl : List DCl} {mb : SM} {pos : Pos}
theorem rs_tryN (hst : X.stack = X.env :: X.outer) (hf : X.env.frame = some X.env.locals) (hN : X.N.Nodup) (tk : Takes X W)
    (hb : ∀ (W : WX) (pn : List (Addr × Obj)) (xe : Value → Shared → Prop), Takes (X.tr pn xe) W → PassesOwn (model X.prog X.w) X.A X.env xe → RSs (X.tr pn xe) W body mb)
    (hh : HD X W errs (hd1 :: hr) cl dl) : RSt X W (.Try body (hd1 :: hr) [] [] pos) (sTryN errs mb dl) := by
  refine (ps_try_named (tb := fun W => tS X W mb) hst hf hN tk (fun W pn xe tk' hp => hb W pn xe tk' hp) hh.n).imp fun D0 τ G ⟨ρ, oh, s, rh, rs, h⟩ => ?_
  refine ⟨ρ, oh, s, rh, rs, ?_⟩
  unfold sTryN at h
  cases eb : mb s oh with
  | exc c w s1 oh1 =>
    rw [eb] at h
    dsimp only at h
    split at h
    · rename_i hc
      intro ρ1 H1 σ1 dd v C L1 rh1 rs1 rv hm hdd
      have key : ∀ {hs' : List ExceptHandler} {cl' : List Clause} {dl' : List DCl}, HD X W errs hs' cl' dl' → OutS X.K X.mg W ρ G (pickC dl' c w s1 oh1) D0 → wNamed X.K W D0 cl' (.ref C) (some dd) σ1 H1 := by
        intro hs' cl' dl' k
        induction k with
        | nil =>
          intro h
          exact h ρ1 H1 σ1 dd v C L1 rh1 rs1 rv hm hdd
        | @cons x no q Ch sub ts hh b1 su p1 p2 hr2 cr dr hg hd hx hq hsub hsu hcr r ih =>
          intro h
          refine ⟨sub c, hsub c C hc hm, fun hy z hz => ?_, fun hy => ?_⟩
          · rw [pickC, hy, if_pos rfl] at h
            exact hcr z D0 ρ1 H1 oh1 s1 σ1 c w C dd v rh1 rs1 hc hm hdd rv (h.later L1)
          · rw [pickC, hy] at h
            exact ih h
      exact key hh h
    · exact h.elim
  | nx s1 oh1 => rw [eb] at h; exact h
  | rt s1 oh1 => rw [eb] at h; exact h
  | bk s1 oh1 => rw [eb] at h; exact h
  | ct s1 oh1 => rw [eb] at h; exact h
  | bad => rw [eb] at h; exact h
/-- without a name: any statements that raise nothing -/
theorem cr_bare {m : SM} : CReads X W errs none (fun _ _ _ => tS X W0 m) (fun _ _ s oh => m s oh) := fun z D0 ρ G oh s τ c w C dd v rh rs hc hm hdd rv h => by
  dsimp only at h
  refine ⟨ρ, oh, s, rh, rs, ?_⟩
  cases em : m s oh with
  | exc => rw [em] at h; exact h.elim
  | nx s1 oh1 => rw [em] at h; exact h
  | rt s1 oh1 => rw [em] at h; exact h
  | bk s1 oh1 => rw [em] at h; exact h
  | ct s1 oh1 => rw [em] at h; exact h
  | bad => rw [em] at h; exact h
/-- return f(e) -/
theorem cr_ret {i : Nat} {f : Str → D → D} : CReads X W errs (some i) (fun z cls d => tRet (tH X errs i z cls d f)) (fun c w s oh => if i < s.length then .rt (f c w) oh else .bad) := fun z D0 ρ G oh s τ c w C dd v rh rs hc hm hdd rv h => by
  dsimp only at h
  split at h
  · rename_i hi
    exact ⟨ρ, oh, c, w, C, dd, v, List.getElem?_set_self (by rw [← rs.length]; exact hi), hc, hm, rfl, rfl, hdd, rh, rv, fun ρ2 H2 u L2 rh2 _ ru => h ρ2 H2 u L2 rh2 ru⟩
  · exact h.elim
/-- x = f(e) -/
theorem cr_set {i j : Nat} {f : Str → D → D} : CReads X W errs (some i) (fun z cls d => tAsg (tH X errs i z cls d f) (gName j)) (fun c w s oh => if i < s.length ∧ i ≠ j then .nx ((s.set j (some (f c w))).set i none) oh else .bad) := fun z D0 ρ G oh s τ c w C dd v rh rs hc hm hdd rv h => by
  dsimp only at h
  split at h
  · rename_i hi
    refine ⟨ρ, oh, c, w, C, dd, v, List.getElem?_set_self (by rw [← rs.length]; exact hi.1), hc, hm, rfl, rfl, hdd, rh, rv, fun ρ2 H2 u L2 rh2 _ ru => ?_⟩
    show D0.nx (((τ.set i (some (.ref z))).set j (some u)).set i none) H2
    have e : ((τ.set i (some (V.ref z))).set j (some u)).set i none = (τ.set j (some u)).set i none := by
      rw [List.set_comm _ _ hi.2, List.set_set]
    rw [e]
    exact h ρ2 H2 _ L2 rh2 (RepS.unset i (RepS.set ru j (L2.reps rs)))
  · exact h.elim
end
/-! ### a, b, c = e1, e2, e3: three locals -/
def sPar3 (i j l : Nat) (m : Ev → M (List D)) : SM := fun s oh => (m s oh).st s fun ds oh => match ds with
  | [d, d', d2] => .nx (((s.set i (some d)).set j (some d')).set l (some d2)) oh
  | _ => .bad
theorem rep_three {K : PySem.W.Frag} {H : Hp} {ρ : List Addr} {d d' d2 : D} {xs : List V} (r : RepL K H ρ [d, d', d2] xs) : ∃ v w u, xs = [v, w, u] ∧ Rep K H ρ d v ∧ Rep K H ρ d' w ∧ Rep K H ρ d2 u := by
  simp only [RepL] at r
  obtain ⟨v, vs, rfl, r, w, ws, rfl, r', u, us, rfl, r2, rfl⟩ := r
  exact ⟨v, w, u, rfl, r, r', r2⟩
theorem rs_par3 {X : Cx} {W : WX} {e b c : Expr} {ms : Ev → M (List D)} {pos : Pos} {i j l : Nat} {x y z : Str} {px py pz pt : Pos} {kt k2 : Nat} {pt2 : Pos} (hc : X.calm = true) (hN : X.N.Nodup) (hi : X.N[i]? = some x) (hj : X.N[j]? = some y) (hl : X.N[l]? = some z)
    (hx : X.env.scope.names.lookup x = some .local) (hy : X.env.scope.names.lookup y = some .local) (hz : X.env.scope.names.lookup z = some .local) (ha : RA X W [e, b, c] ms)
    (hw : swappedStores [.Tuple [.Name x px, .Name y py, .Name z pz] kt pt] (.Tuple [e, b, c] k2 pt2) X.env = pure (some [x, y, z]) := by rfl) (hij : i ≠ j := by decide) (hil : i ≠ l := by decide) (hjl : j ≠ l := by decide)
    (hs : swapsWithSole [.Tuple [.Name x px, .Name y py, .Name z pz] kt pt] (.Tuple [e, b, c] k2 pt2) pos.line X.env = pure false := by rfl) :
    RSt X W (.Assign [.Tuple [.Name x px, .Name y py, .Name z pz] kt pt] (.Tuple [e, b, c] k2 pt2) pos) (sPar3 i j l ms) := (ps_par3 hc hN hi hj hl hij hil hjl hx hy hz ha hw hs).imp fun D σ H ⟨ρ, oh, s, rh, rs, h⟩ => by
  refine ⟨ρ, oh, s, rh, rs, (Out.toS h rs).imp fun ds oh1 ρ1 H1 L1 rh1 h1 vs rv => ?_⟩
  split at h1
  · obtain ⟨v, w, u, rfl, r1, r2, r3⟩ := rep_three rv
    exact ⟨v, w, u, rfl, h1 ρ1 H1 _ .refl rh1 (RepS.set r3 l (RepS.set r2 j (RepS.set r1 i (L1.reps rs))))⟩
  · exact h1.elim
end SK
set_option maxHeartbeats 2000000
namespace TZ
open PySem PyProof.Rows TS
/-! ### sorted of tuples of whole numbers of any sign -/
/-- the rank of a tuple of d numbers in [-B, B) -/
def shf (B : Int) (ns : List Int) : List Int := ns.map (· + B)
def rankZ (B : Int) (ns : List Int) : Int := code (2 * B) (shf B ns)
def BdZ (B : Int) (ns : List Int) : Prop := ∀ m, m ∈ ns → -B ≤ m ∧ m < B
theorem BdZ.bd {B : Int} {ns : List Int} (h : BdZ B ns) : Bd (2 * B) (shf B ns) := fun m hm => by
  obtain ⟨k, hk, rfl⟩ := List.mem_map.mp hm
  have := h k hk
  omega
theorem BdZ.tail {B d : Int} {r : List Int} (h : BdZ B (d :: r)) : BdZ B r := fun m hm => h m (List.mem_cons_of_mem _ hm)
section
variable {prog : Program} {w : World} {A : Around} {E : Value → Shared → Prop} {s : Shared} {Q : Bool → Shared → Prop}
theorem lexZ {B : Int} {b : Bool} {xs ys : List Value} {ns ms : List Int} (i : Nat) (hx : IntsAre xs ns) (hy : IntsAre ys ms) (hl : ns.length = ms.length) (h1 : BdZ B ns) (h2 : BdZ B ms)
    (hq : Q (decide (rankZ B ns < rankZ B ms)) s) : PySem.W.KatLex prog w A b false Q (xs.zip ys) i s := by
  induction hx generalizing ys ms i with
  | nil =>
    cases hy with
    | cons => simp at hl
    | nil =>
      have none_less : decide (rankZ B [] < rankZ B []) = false := decide_eq_false (Int.lt_irrefl _)
      rw [none_less] at hq
      exact PySem.W.kat_nil hq
  | @cons p t xs ns hx ih =>
    cases hy with
    | nil => simp at hl
    | @cons q u ys ms hy =>
      have len : ns.length = ms.length := by simpa using hl
      have lenS : (shf B ns).length = (shf B ms).length := by simpa [shf] using len
      show PySem.W.KatLex prog w A b false Q ((Value.int p t, Value.int q u) :: xs.zip ys) i s
      refine PySem.W.kat_cons (wpAny_eqBool_int ?_)
      by_cases same : p = q
      · subst same
        rw [beq_self_eq_true]
        have less : decide (rankZ B (p :: ns) < rankZ B (p :: ms)) = decide (rankZ B ns < rankZ B ms) := decide_eq_decide.mpr (code_same lenS)
        rw [less] at hq
        refine PySem.W.kat_yes ?_
        first
          | exact ih (i + 1) hy len h1.tail h2.tail hq
          | exact ih _ _ (i + 1) hy len h1.tail h2.tail hq
      · rw [show (p == q) = false from beq_eq_false_iff_ne.mpr same]
        refine PySem.W.kat_no (oneLt_ints _ ?_)
        have less : decide (rankZ B (p :: ns) < rankZ B (q :: ms)) = decide (p < q) := by
          refine decide_eq_decide.mpr ⟨fun lt => ?_, fun lt => code_lt (B := 2 * B) (d := p + B) (e := q + B) lenS h1.tail.bd h2.tail.bd (by omega)⟩
          rcases Int.lt_trichotomy p q with c | c | c
          · exact c
          · exact absurd c same
          · have back := code_lt (B := 2 * B) (d := q + B) (e := p + B) lenS.symm h2.tail.bd h1.tail.bd (by omega)
            have lt : code (2 * B) ((p + B) :: shf B ns) < code (2 * B) ((q + B) :: shf B ms) := lt
            omega
        rw [less] at hq
        exact hq
end
def TupsZ (h : Heap) (d : Nat) (B : Int) (vs : List Value) : Prop := ∀ v, v ∈ vs → ∃ ns, TupInts h v ns ∧ ns.length = d ∧ BdZ B ns
theorem TupsZ.keeps {h h' : Heap} {d : Nat} {B : Int} {vs : List Value} (x : TupsZ h d B vs) (k : ∀ b o, h.get? b = some o → o.cls = .type "tuple" → h'.get? b = some o) : TupsZ h' d B vs := fun v hv =>
  let ⟨ns, t, r⟩ := x v hv; ⟨ns, t.keeps k, r⟩
theorem firstsZ {h : Heap} {d : Nat} {B : Int} (hd : 1 ≤ d) : ∀ vs : List Value, TupsZ h d B vs → ∃ fs, PySem.W.KatTups h vs fs ∧ fs.length = vs.length ∧ ∀ f, f ∈ fs → ∃ n t, f = Value.int n t
  | [], _ => ⟨[], PySem.W.KatTups.nil, rfl, fun f hf => by simp at hf⟩
  | v :: vs, x => by
    obtain ⟨fs, kt, len, allI⟩ := firstsZ hd vs fun u hu => x u (List.mem_cons_of_mem _ hu)
    obtain ⟨ns, ⟨a, xs, rfl, ⟨o, got, cls, n, dat⟩, iv⟩, ln, _⟩ := x v (List.mem_cons_self ..)
    cases q : xs.toList with
    | nil =>
      rw [q] at iv
      have l := iv.length
      rw [List.length_nil, ln] at l
      omega
    | cons y ys =>
      obtain ⟨m, t, hy⟩ := iv.all y (by rw [q]; exact List.mem_cons_self ..)
      have first : xs[0]? = some y := by
        have z := congrArg (fun l : List Value => l[0]?) q
        simpa using z
      refine ⟨y :: fs, PySem.W.KatTups.cons got cls dat first kt, by simp [len], fun f hf => ?_⟩
      rcases List.mem_cons.mp hf with rfl | hf
      · exact ⟨m, t, hy⟩
      · exact allI f hf
section
variable {prog : Program} {w : World} {A : Around} {E : Value → Shared → Prop} {s : Shared}
theorem kindZ {d : Nat} {B : Int} {vs : List Value} (hd : 1 ≤ d) (h2 : 2 ≤ vs.length) (x : TupsZ s.heap d B vs) (r : Value → Int) (hr : ∀ v, v ∈ vs → ∀ ns, TupInts s.heap v ns → r v = rankZ B ns) (Q : SortKind → Shared → Prop)
    (h : ∀ κ, Cmp prog w A s κ (pairsOf vs) r → Q κ s) : wpAny (model prog w) A (keyKind' vs.toArray) Q E s := by
  obtain ⟨fs, kt, len, allI⟩ := firstsZ hd vs x
  refine PySem.W.kat_kind (T := Value.type "int") kt (by omega) (fun f hf => ?_) rfl (h _ fun p q hp hq Q' E' hQ => ?_)
  · obtain ⟨n, t, rfl⟩ := allI f hf
    exact PySem.W.Looks.of_pure rfl
  · rw [pairsOf_toList] at hp hq
    obtain ⟨ns, tp, lp, bp⟩ := x _ (mem_zip_self hp).2
    obtain ⟨ms, tq, lq, bq⟩ := x _ (mem_zip_self hq).2
    rw [hr _ (mem_zip_self hp).2 _ tp, hr _ (mem_zip_self hq).2 _ tq] at hQ
    obtain ⟨a, xs, e1, ⟨o, got, cls, n, dat⟩, iv⟩ := tp
    obtain ⟨a', ys, e2, ⟨o', got', cls', n', dat'⟩, iv'⟩ := tq
    rw [e1, e2]
    refine PySem.W.kat_lt got dat got' dat' ?_
    have noLess : decide (xs.size < ys.size) = false := by
      have l1 := iv.length
      have l2 := iv'.length
      rw [Array.length_toList] at l1 l2
      exact decide_eq_false (by omega)
    rw [noLess]
    exact lexZ 0 iv iv' (by omega) bp bq hQ
theorem sortZ {a : Addr} {vs : List Value} {n d : Nat} {B : Int} {P : PySem.Fin → Shared → Prop} (ho : s.heap.get? a = some (seqObj "list" vs.toArray n)) (h64 : vs.length < 64) (hd : 1 ≤ d) (x : TupsZ s.heap d B vs)
    (r : Value → Int) (hr : ∀ v, v ∈ vs → ∀ ns, TupInts s.heap v ns → r v = rankZ B ns)
    (h : ∀ out : Array Value, out.toList.Perm vs → out.toList.Pairwise (fun u v => r u ≤ r v) → P (.done (.ret .none)) { s with heap := sortedHeap s.heap a vs out }) :
    wpAny (model prog w) A (Builtin.«list.sort» ⟨[.ref a], []⟩) P E s := by
  have stays : ∀ b o, s.heap.get? b = some o → o.cls = .type "tuple" → (midHeap s.heap a vs).get? b = some o := fun b o e hc => by
    refine midHeap_old (fun eq => ?_) e
    subst eq
    rw [ho] at e
    have e' := Option.some.inj e
    rw [← e'] at hc
    have names : "list" = "tuple" := Value.type.inj hc
    exact absurd names (by decide)
  refine SK.plain_sort (r := r) ho h64 (fun h2 Q hQ => kindZ (s := { s with heap := midHeap s.heap a vs }) hd h2 (x.keeps stays) r (fun v hv ns t => ?_) Q hQ) fun ps out h1 h2 h3 => ?_
  · obtain ⟨ns0, t0, _⟩ := x v hv
    rw [show ns = ns0 from t.ints.symm.trans (t0.keeps stays).ints]
    exact hr v hv ns0 t0
  · obtain ⟨pm, ord⟩ := out_rank h1 h2 h3
    exact h out pm ord
end
end TZ
set_option maxHeartbeats 2000000
namespace SK
open PySem PySem.Spec PyProof.Rows L2 SKX LamX
/-! ### list.pop(i) -/
section
variable {X : Cx} {W : WX} {e o i j : Expr} {mo mi mj ma : Ev → M D} {ms : Ev → M (List D)} {pos apos cpos : Pos}
def pPopAt (n : Nat) (ds : List D) (oh : OH) : Option (D × OH) := match ds with
  | [.int i] => match oh[n]? with
    | some (.lst l) => if -(2 ^ 63) ≤ i ∧ i < 2 ^ 63 then match ixN l.length i with
      | some k => match l[k]? with
        | some d => some (d, oh.set n (.lst (l.eraseIdx k)))
        | none => none
      | none => none else none
    | _ => none
  | _ => none
theorem pPopAt_of {n : Nat} {ds : List D} {oh : OH} {z : D × OH} (h : pPopAt n ds oh = some z) : ∃ (i : Int) (l : List D) (k : Nat) (d : D), ds = [.int i] ∧ oh[n]? = some (.lst l) ∧ -(2 ^ 63) ≤ i ∧ i < 2 ^ 63 ∧ ixN l.length i = some k ∧ l[k]? = some d ∧ z = (d, oh.set n (.lst (l.eraseIdx k))) := by
  unfold pPopAt at h
  split at h
  · rename_i i
    split at h
    · rename_i l el
      split at h
      · rename_i hz
        split at h
        · rename_i k ek
          split at h
          · rename_i d ed
            cases h
            exact ⟨i, l, k, d, rfl, el, hz.1, hz.2, ek, ed, rfl⟩
          · cases h
        · cases h
      · cases h
    · cases h
  · cases h
def ePopAt (mo : Ev → M D) (ms : Ev → M (List D)) : Ev → M D := fun s oh => (mo s oh).bnd fun o oh => match o with
  | .ref n => if isLst oh n then (ms s oh).bnd fun ds oh => lf (pPopAt n ds oh) else .bad
  | _ => .bad
theorem RepL.eraseIdx {K : PySem.W.Frag} {H : Hp} {ρ : List Addr} : ∀ {ds : List D} {vs : List V} (i : Nat), RepL K H ρ ds vs → RepL K H ρ (ds.eraseIdx i) (vs.eraseIdx i)
  | [], _, i, h => by
    simp only [RepL] at h
    subst h; simp [RepL]
  | x :: ds, _, 0, h => by
    simp only [RepL] at h
    obtain ⟨v', vs', rfl, _, t⟩ := h
    exact t
  | x :: ds, _, i + 1, h => by
    simp only [RepL] at h
    obtain ⟨v', vs', rfl, q, t⟩ := h
    show RepL K H ρ (x :: ds.eraseIdx i) _
    simp only [RepL]
    exact ⟨v', _, rfl, q, RepL.eraseIdx i t⟩
theorem re_popAt (ho : RE X W o mo) (ha : RA X W [e] ms)
    (hbase : attributeBase o "pop" X.env (eval o X.env) = eval o X.env := by rfl)
    (hfew : ((backTo cpos (starEach [e] X.env)).all (fun x => !x.1) && (backToKw cpos (keywordEach [] X.env)).all (fun x => x.1.isSome)
      && decide ([e].length + ([] : List Keyword).length + (if ([] : List Keyword).isEmpty then 0 else 1) < 30)) = true := by rfl)
    (hline : (apos.endLine == cpos.line) = true := by rfl) (hs : starEach [e] X.env = (false, eval e X.env) :: starEach [] X.env := by rfl) (hplain : (backTo cpos (starEach [] X.env)).any (·.1) = false := by rfl) :
    RE X W (.Call (.Attribute o "pop" apos) [e] [] cpos) (ePopAt mo ms) := (pe_bm PySem.F.plainAttrs_list PySem.F.slot_list_pop PySem.F.type_list_pop mt_popAt ho ha hbase hfew hline hs hplain).imp fun σ H Q ⟨ρ, oh, s, rh, rs, h⟩ => by
  refine ⟨ρ, oh, s, rh, rs, (Out.bnd h).imp fun o' oh1 ρ1 H1 L1 rh1 ⟨_, _, h1⟩ v rv => ?_⟩
  cases o' with
  | ref n =>
    simp only [Rep] at rv
    obtain ⟨a, rfl, ga⟩ := rv
    dsimp only at h1
    split at h1
    · rename_i hl
      unfold isLst at hl
      split at hl
      · rename_i l el
        obtain ⟨xs, hx, q⟩ := rh1.cell _ _ a el ga
        refine ⟨.inl ⟨rfl, xs, SqL.of hx⟩, ρ1, oh1, s, rh1, L1.reps rs, (Out.bnd h1).imp fun ds oh2 ρ2 H2 L2 rh2 ⟨_, _, h2⟩ vs rvs => ?_⟩
        have h3 := OutP.of h2
        have ga2 := pre_get L2.pre ga
        cases ep : pPopAt n ds oh2 with
        | none => rw [ep] at h3; exact h3.elim
        | some z =>
          rw [ep] at h3
          obtain ⟨i, l2, k, d, rfl, el2, z1, z2, ek, ed, rfl⟩ := pPopAt_of ep
          obtain ⟨y, rfl, ry⟩ := rvs.one
          simp only [Rep] at ry
          subst ry
          obtain ⟨ys, hy, q2⟩ := rh2.cell _ _ a el2 ga2
          obtain ⟨u, eu, ru⟩ := q2.get ed
          obtain ⟨h1', h2', h3', h4'⟩ := ixN_seq ek
          obtain ⟨rh3, L3⟩ := rh2.write (l := l2.eraseIdx k) (xs := ys.eraseIdx k) el2 ga2 hy (q2.eraseIdx k)
          exact ⟨a, ys, i, k, u, rfl, rfl, hy, z1, z2, by rw [← q2.length]; exact h1', eu, h3 ρ2 _ u L3 rh3 (L3.rep ru)⟩
      · cases hl
    · exact h1.elim
  | _ => exact h1.elim
/-! ### any(xs), all(xs) of bools -/
def toBls : List D → Option (List Bool)
  | [] => some []
  | .bl b :: ds => (toBls ds).map (b :: ·)
  | _ => none
theorem toBls_rep {K : PySem.W.Frag} {H : Hp} {ρ : List Addr} : ∀ {l : List D} {ns : List Bool} {xs : List V}, toBls l = some ns → RepL K H ρ l xs → xs = ns.map V.bl
  | [], ns, xs, e, r => by
    cases e
    simp only [RepL] at r
    rw [r]
    rfl
  | .bl i :: ds, ns, xs, e, r => by
    simp only [toBls, Option.map_eq_some_iff] at e
    obtain ⟨ms, e1, rfl⟩ := e
    simp only [RepL, Rep] at r
    obtain ⟨v, vs, rfl, rfl, r2⟩ := r
    rw [toBls_rep e1 r2]
    rfl
  | .non :: _, _, _, e, _ => by cases e
  | .int _ :: _, _, _, e, _ => by cases e
  | .str _ :: _, _, _, e, _ => by cases e
  | .tup _ :: _, _, _, e, _ => by cases e
  | .ref _ :: _, _, _, e, _ => by cases e
  | .adr _ :: _, _, _, e, _ => by cases e
def bAny : PL := fun ds oh => match ds with
  | [.ref n] => match itemsOf oh (.ref n) with
    | some l => (toBls l).map fun ns => (.bl (ns.any id), oh)
    | none => none
  | _ => none
def bAll : PL := fun ds oh => match ds with
  | [.ref n] => match itemsOf oh (.ref n) with
    | some l => (toBls l).map fun ns => (.bl (ns.all id), oh)
    | none => none
  | _ => none
theorem c_any (hc : X.calm = true) : CallR X (.builtin "any") (rPL X bAny) := by
  intro pins s σ H xs us Q I rv ⟨ρ, oh, ds, rh, r, h⟩
  unfold bAny at h
  split at h
  · obtain ⟨v, rfl, r1⟩ := r.one
    split at h
    · rename_i l el
      obtain ⟨p, ys, rfl, hs, q⟩ := items_ref rh r1 el
      cases e : toBls l with
      | none => rw [e] at h; exact h.elim
      | some ns =>
        rw [e] at h
        have ey := toBls_rep e q
        subst ey
        exact cr_any hc pins s σ H _ us Q I rv ⟨p, ns, rfl, hs, OutP.here h rh (by simp [Rep])⟩
    · exact h.elim
  · exact h.elim
theorem c_all (hc : X.calm = true) : CallR X (.builtin "all") (rPL X bAll) := by
  intro pins s σ H xs us Q I rv ⟨ρ, oh, ds, rh, r, h⟩
  unfold bAll at h
  split at h
  · obtain ⟨v, rfl, r1⟩ := r.one
    split at h
    · rename_i l el
      obtain ⟨p, ys, rfl, hs, q⟩ := items_ref rh r1 el
      cases e : toBls l with
      | none => rw [e] at h; exact h.elim
      | some ns =>
        rw [e] at h
        have ey := toBls_rep e q
        subst ey
        exact cr_all hc pins s σ H _ us Q I rv ⟨p, ns, rfl, hs, OutP.here h rh (by simp [Rep])⟩
    · exact h.elim
  · exact h.elim
/-! ### list(range(n)) -/
def eLRg1 (m : Ev → M D) : Ev → M D := fun s oh => (m s oh).bnd fun d oh => match d with
  | .int n => if -(2 ^ 62) ≤ n ∧ n ≤ 16777216 then .ok (.ref oh.length) (oh ++ [.lst ((List.range n.toNat).map fun (i : Nat) => D.int i)]) else .bad
  | _ => .bad
theorem repl_rg {K : PySem.W.Frag} {H : Hp} {ρ : List Addr} (f : Nat → D) (g : Nat → V) (h : ∀ i, Rep K H ρ (f i) (g i)) : ∀ l : List Nat, RepL K H ρ (l.map f) (l.map g)
  | [] => by simp [RepL]
  | i :: l => by
    simp only [List.map_cons, RepL]
    exact ⟨_, _, rfl, h i, repl_rg f g h l⟩
theorem re_lrg1 {p p2 pos2 : Pos} (hc : X.calm = true) (hml : X.mg "list" = none) (hmr : X.mg "range" = none) (ha : RE X W e ma) (hgl : Gl X "list" := by rfl) (hgr : Gl X "range" := by rfl) (na : starEach [.Call (.Name "range" p2) [e] [] pos2] X.env = (false, eval (.Call (.Name "range" p2) [e] [] pos2) X.env) :: starEach [] X.env := by rfl)
    (na2 : starEach [e] X.env = (false, eval e X.env) :: starEach [] X.env := by rfl) : RE X W (.Call (.Name "list" p) [.Call (.Name "range" p2) [e] [] pos2] [] pos) (eLRg1 ma) := (pe_listRg hc hgl hml (prg_1 hgr hmr ha na2) na).imp fun σ H Q ⟨ρ, oh, s, rh, rs, h⟩ => by
  refine ⟨ρ, oh, s, rh, rs, (Out.bnd h).imp fun d oh1 ρ1 H1 L1 rh1 ⟨_, _, h1⟩ v rv => ?_⟩
  cases d with
  | int n =>
    simp only [Rep] at rv
    subst rv
    dsimp only at h1
    split at h1
    · rename_i hz
      refine ⟨n, rfl, ⟨by omega, by omega, hz.1, by omega, by omega⟩, fun q hq => ?_⟩
      have en : rgV 0 n = (List.range n.toNat).map fun (i : Nat) => V.int i := by
        unfold rgV
        simp
      rw [en]
      obtain ⟨rh2, L2, g⟩ := rh1.push hq (repl_rg (K := X.K) (H := H1) (ρ := ρ1) (fun i => D.int i) (fun i => V.int i) (fun i => by simp [Rep]) (List.range n.toNat))
      exact h1 _ _ L2 rh2 _ (by simp only [Rep]; exact ⟨q, rfl, g⟩)
    · exact h1.elim
  | _ => exact h1.elim
/-! ### dicts: the plain side -/
def dGet (l : List (List Int × D)) (k : List Int) : Option D := match l with
  | [] => none
  | p :: r => if p.1 = k then some p.2 else dGet r k
def dPut (l : List (List Int × D)) (k : List Int) (d : D) : List (List Int × D) := match l with
  | [] => [(k, d)]
  | p :: r => if p.1 = k then (p.1, d) :: r else p :: dPut r k d
def keyD : D → Option (List Int)
  | .tup l => toInts l
  | _ => none
def tupI (k : List Int) : D := .tup (k.map D.int)
def keyV (k : List Int) : List Key := k.map Sum.inl
theorem keyV_kV (k : List Int) : (keyV k).map kV = k.map V.int := by
  unfold keyV
  rw [List.map_map]
  rfl
theorem keyV_inj {a b : List Int} (h : keyV a = keyV b) : a = b := by
  induction a generalizing b with
  | nil => cases b with
    | nil => rfl
    | cons => cases h
  | cons x a ih => cases b with
    | nil => cases h
    | cons y b =>
      simp only [keyV, List.map_cons, List.cons.injEq, Sum.inl.injEq] at h
      rw [h.1, ih h.2]
theorem keyD_rep {K : PySem.W.Frag} {H : Hp} {ρ : List Addr} {d : D} {v : V} {k : List Int} (e : keyD d = some k) (r : Rep K H ρ d v) : ∃ b, v = .ref b ∧ H b = some (.tup ((keyV k).map kV)) := by
  cases d with
  | tup l =>
    simp only [Rep] at r
    obtain ⟨a, xs, rfl, hs, q⟩ := r
    rw [keyV_kV, ← toInts_rep e q]
    exact ⟨a, rfl, hs⟩
  | _ => cases e
/-- one key, one place -/
def NdK (l : List (List Int × D)) : Prop := (l.map (·.1)).Nodup
section
variable {K : PySem.W.Frag} {H : Hp} {ρ : List Addr}
theorem RepK.get : ∀ {l : List (List Int × D)} {ws : List (List Key × V)} (k : List Int), RepK K H ρ l ws → (∀ d, dGet l k = some d → ∃ v, valV ws (keyV k) = some v ∧ Rep K H ρ d v) ∧ (dGet l k = none → valV ws (keyV k) = none)
  | [], ws, k, h => by
    simp only [RepK] at h
    subst h
    exact ⟨fun d e => (by cases e), fun _ => rfl⟩
  | p :: l, ws, k, h => by
    obtain ⟨v, ws', rfl, r, t⟩ := h
    have ih := RepK.get k t
    unfold dGet
    by_cases e : p.1 = k
    · rw [if_pos e]
      have e2 : (keyV p.1, v).1 = keyV k := by rw [e]
      refine ⟨fun d ed => ?_, fun z => by cases z⟩
      cases ed
      exact ⟨v, valV_pos (p := (keyV p.1, v)) e2, r⟩
    · rw [if_neg e]
      have e2 : ¬ (keyV p.1, v).1 = keyV k := fun z => e (keyV_inj z)
      have z : valV ((keyV p.1, v) :: ws') (keyV k) = valV ws' (keyV k) := valV_neg e2
      exact ⟨fun d ed => by
        obtain ⟨u, h1, h2⟩ := ih.1 d ed
        exact ⟨u, z.trans h1, h2⟩, fun ed => z.trans (ih.2 ed)⟩
theorem RepK.snoc {k : List Int} {d : D} {v : V} (rv : Rep K H ρ d v) : ∀ {l : List (List Int × D)} {ws : List (List Key × V)}, RepK K H ρ l ws → RepK K H ρ (l ++ [(k, d)]) (ws ++ [(keyV k, v)])
  | [], ws, h => by
    simp only [RepK] at h
    subst h
    exact ⟨v, [], rfl, rv, rfl⟩
  | p :: l, ws, h => by
    obtain ⟨u, ws', rfl, r, t⟩ := h
    exact ⟨u, _, rfl, r, RepK.snoc rv t⟩
theorem dPut_new {k : List Int} {d : D} : ∀ {l : List (List Int × D)}, dGet l k = none → dPut l k d = l ++ [(k, d)]
  | [], _ => rfl
  | p :: l, h => by
    unfold dGet at h
    unfold dPut
    by_cases e : p.1 = k
    · rw [if_pos e] at h; cases h
    · rw [if_neg e] at h ⊢
      rw [dPut_new h]
      rfl
theorem dGet_none {k : List Int} : ∀ {l : List (List Int × D)}, dGet l k = none ↔ k ∉ l.map (·.1)
  | [] => by simp [dGet]
  | p :: l => by
    unfold dGet
    by_cases e : p.1 = k
    · rw [if_pos e]
      simp [e]
    · rw [if_neg e, dGet_none (l := l)]
      simp [Ne.symm e]
theorem dPut_old {k : List Int} {d : D} : ∀ {l : List (List Int × D)}, NdK l → dGet l k ≠ none → dPut l k d = l.map fun p => if p.1 = k then (p.1, d) else p
  | [], _, h => absurd rfl h
  | p :: l, n, h => by
    unfold dGet at h
    unfold dPut
    unfold NdK at n
    rw [List.map_cons, List.nodup_cons] at n
    by_cases e : p.1 = k
    · rw [if_pos e, List.map_cons, if_pos e]
      congr 1
      have : ∀ q ∈ l, (if q.1 = k then (q.1, d) else q) = q := fun q hq => if_neg fun z => n.1 (by rw [e, ← z]; exact List.mem_map_of_mem hq)
      conv => lhs; rw [← List.map_id l]
      exact List.map_congr_left fun q hq => (this q hq).symm
    · rw [if_neg e] at h ⊢
      rw [List.map_cons, if_neg e, dPut_old n.2 h]
theorem RepK.repl {k : List Int} {d : D} {v : V} (rv : Rep K H ρ d v) : ∀ {l : List (List Int × D)} {ws : List (List Key × V)}, RepK K H ρ l ws → RepK K H ρ (l.map fun p => if p.1 = k then (p.1, d) else p) (ws.map fun kv => if kv.1 = keyV k then (kv.1, v) else kv)
  | [], ws, h => by
    simp only [RepK] at h
    subst h
    rfl
  | p :: l, ws, h => by
    obtain ⟨u, ws', rfl, r, t⟩ := h
    have ih := RepK.repl (k := k) rv t
    rw [List.map_cons, List.map_cons]
    by_cases e : p.1 = k
    · have e2 : (List.map Sum.inl p.1 : List Key) = keyV k := by rw [e]; rfl
      rw [if_pos e, if_pos e2]
      exact ⟨v, _, rfl, rv, ih⟩
    · have e2 : ¬ (List.map Sum.inl p.1 : List Key) = keyV k := fun z => e (keyV_inj z)
      rw [if_neg e, if_neg e2]
      exact ⟨u, _, rfl, r, ih⟩
end
theorem dPut_keys {l : List (List Int × D)} {k : List Int} {d : D} (n : NdK l) : NdK (dPut l k d) := by
  cases e : dGet l k with
  | none =>
    rw [dPut_new e]
    unfold NdK at n ⊢
    rw [List.map_append, List.nodup_append]
    refine ⟨n, by simp, fun a ha b hb => ?_⟩
    simp at hb
    subst hb
    intro z
    subst z
    exact dGet_none.mp e ha
  | some x =>
    rw [dPut_old n (by rw [e]; exact fun z => nomatch z)]
    unfold NdK at n ⊢
    rw [List.map_map]
    have : ((fun p : List Int × D => p.1) ∘ fun p => if p.1 = k then (p.1, d) else p) = fun p => p.1 := by
      funext p
      show (if p.1 = k then (p.1, d) else p).1 = p.1
      split <;> rfl
    rw [this]
    exact n
theorem dPut_len (l : List (List Int × D)) (k : List Int) (d : D) : (dPut l k d).length ≤ l.length + 1 := by
  induction l with
  | nil => exact Nat.le_refl _
  | cons p l ih =>
    unfold dPut
    split
    · simp
    · simp only [List.length_cons]; omega
/-- behind a store: the keys stand once (the kit's table keeps that) -/
def dPut' (l : List (List Int × D)) (k : List Int) (d : D) : List (List Int × D) := if (dGet l k).isSome then l.map (fun p => if p.1 = k then (p.1, d) else p) else l ++ [(k, d)]
theorem dPut'_eq {l : List (List Int × D)} {k : List Int} {d : D} (n : NdK l) : dPut' l k d = dPut l k d := by
  unfold dPut'
  cases e : dGet l k with
  | none => rw [dPut_new e]; rfl
  | some x => rw [dPut_old n (by rw [e]; exact fun z => nomatch z)]; rfl
theorem RepK.put {K : PySem.W.Frag} {H : Hp} {ρ : List Addr} {l : List (List Int × D)} {ws : List (List Key × V)} {k : List Int} {d : D} {v : V} (r : RepK K H ρ l ws) (rv : Rep K H ρ d v) : RepK K H ρ (dPut' l k d) (putK ws (keyV k) v) := by
  have g := RepK.get k r
  unfold dPut' putK
  rw [valV_any]
  cases e : dGet l k with
  | none =>
    rw [g.2 e]
    exact RepK.snoc rv r
  | some x =>
    obtain ⟨u, h1, _⟩ := g.1 x e
    rw [h1]
    exact RepK.repl rv r
end
end SK
set_option maxHeartbeats 2000000
namespace SK
open PySem PySem.Spec PyProof.Rows L2 SKX LamX
def dictOf (oh : OH) (n : Nat) : Option (List (List Int × D)) := match oh[n]? with
  | some (.dct l) => some l
  | some (.fdc l) => some l
  | _ => none
section
variable {X : Cx} {W : WX} {e o i j : Expr} {mo mi mj ma mb : Ev → M D} {ms : Ev → M (List D)} {pos apos cpos : Pos}
theorem dictOf_rd {K : PySem.W.Frag} {ρ : List Addr} {H : Hp} {oh : OH} {n : Nat} {a : Addr} {l : List (List Int × D)} (rh : RH K H ρ oh) (ga : ρ[n]? = some a) (e : dictOf oh n = some l) : ∃ ws, Rd H a (.dT ws) ∧ RepK K H ρ l ws := by
  unfold dictOf at e
  split at e
  · rename_i m el
    cases e
    obtain ⟨ws, h, r⟩ := rh.cell _ _ a el ga
    exact ⟨ws, .inl h, r⟩
  · rename_i m el
    cases e
    obtain ⟨ws, o, h, r⟩ := rh.cell _ _ a el ga
    exact ⟨ws, .inr ⟨o, h⟩, r⟩
  · cases e
/-! ### d[k] -/
def pDIx : P2 := fun x y oh => match x with
  | .ref n => match dictOf oh n, keyD y with
    | some l, some k => (dGet l k).map fun d => (d, oh)
    | _, _ => none
  | _ => none
theorem o_dix (hu : X.A.units + 64 < cLine) : IxR X (rP X pDIx) := by
  intro val sl pins s σ H x y v u Q I rx ry ⟨ρ, oh, dx, dy, rh, r1, r2, h⟩ hsub
  cases dx with
  | ref n =>
    simp only [Rep] at r1
    obtain ⟨a, rfl, ga⟩ := r1
    simp only [pDIx] at h
    split at h
    · rename_i l k el ek
      obtain ⟨ws, rd, rk⟩ := dictOf_rd rh ga el
      obtain ⟨b, rfl, hb⟩ := keyD_rep ek r2
      cases eg : dGet l k with
      | none => rw [eg] at h; exact h.elim
      | some d =>
        rw [eg] at h
        obtain ⟨w, ew, rw'⟩ := (RepK.get k rk).1 d eg
        have g : DGet H a (.ref b) (some w) := .inr ⟨ws, keyV k, b, rd, rfl, hb, ew.symm⟩
        cases (show v = Value.ref a from rx)
        exact tail_any (dict_typeIs I g) PySem.F.slot_dict_getitem.lookup (d_getItem (by omega) I g ry fun w' s' I' rw2 => ⟨w, H, I', rw2, OutP.here h rh rw'⟩) hsub
    · exact h.elim
  | _ => exact h.elim
/-! ### d[k] = v -/
def pSetD (o i v : D) (oh : OH) : Option OH := match o with
  | .ref n => match oh[n]?, keyD i with
    | some (.dct l), some k => if l.length < sizeLine then some (oh.set n (.dct (dPut' l k v))) else none
    | _, _ => none
  | _ => none
def gSubD (mo mi : Ev → M D) : GM := fun d s oh => match mo s oh with
  | .ok o oh => match mi s oh with
    | .ok i oh => (pSetD o i d oh).map fun oh => (s, oh)
    | _ => none
  | _ => none
theorem set_dct (hu : X.A.units + 64 < cLine) : PSet X (fun o i v H Q => ∃ a H', o = .ref a ∧ DPut H a i v H' ∧ Q H') := by
  intro pins s σ H o i v ov iv u Q I ro ri rv h
  obtain ⟨a, H', rfl, g, q⟩ := h
  cases (show ov = Value.ref a from ro)
  exact d_setItem (by omega) I g ri rv fun s' I' => ⟨H', I', q⟩
theorem rg_subD (hu : X.A.units + 64 < cLine) (ho : RE X W o mo) (hi : RE X W i mi)
    (ha : ∀ v, assign (.Subscript o i pos) X.env v = (do
      let ov ← holding [v] (eval o X.env)
      let iv ← holding [v, ov] (eval i X.env)
      standAt pos
      holding [v, ov, iv] (setItem ov iv v)
      release [v, ov, iv] []) := by intro _; rfl) : RG X (.Subscript o i pos) (gSubD mo mi) := (pg_sub ho hi (set_dct hu) ha).imp fun v σ H Q ⟨ρ, oh, s, d, rh, rs, r, h⟩ => by
  refine ⟨ρ, oh, s, rh, rs, ?_⟩
  unfold gSubD at h
  cases e1 : mo s oh with
  | ok o oh1 =>
    simp only [e1] at h
    intro ρ1 H1 L1 rh1 x rx
    refine ⟨ρ1, oh1, s, rh1, L1.reps rs, ?_⟩
    cases e2 : mi s oh1 with
    | ok j oh2 =>
      simp only [e2] at h
      intro ρ2 H2 L2 rh2 y ry
      have rx2 := L2.rep rx
      have rv2 := (L1.trans L2).rep r
      cases o with
      | ref n =>
        simp only [Rep] at rx2
        obtain ⟨a, rfl, ga⟩ := rx2
        simp only [pSetD] at h
        split at h
        · rename_i l k el ek
          obtain ⟨ws, hw, rk⟩ := rh2.cell _ _ a el ga
          obtain ⟨b, rfl, hb⟩ := keyD_rep ek ry
          split at h
          · rename_i hz
            obtain ⟨rh3, L3⟩ := rh2.writeD el ga hw (rk.put (k := k) rv2)
            exact ⟨a, _, rfl, DPut.t hw hb (by rw [rk.length]; exact hz), h ρ2 _ σ (L1.trans (L2.trans L3)) rh3 ((L1.trans (L2.trans L3)).reps rs)⟩
          · exact h.elim
        · exact h.elim
      | _ => exact h.elim
    | exc c w oh2 => simp only [e2] at h; exact h.elim
    | bad => simp only [e2] at h; exact h.elim
  | exc c w oh2 => simp only [e1] at h; exact h.elim
  | bad => simp only [e1] at h; exact h.elim
/-! ### d.get(k, x) -/
def eDGet2 (mo mk mx : Ev → M D) : Ev → M D := fun s oh => (mo s oh).bnd fun o oh => match o with
  | .ref n => if (dictOf oh n).isSome then (mk s oh).bnd fun y oh => (mx s oh).bnd fun z oh => match dictOf oh n, keyD y with
      | some l, some k => .ok ((dGet l k).getD z) oh
      | _, _ => .bad
    else .bad
  | _ => .bad
theorem re_dget2 {f : Expr} (hu : X.A.units + 64 < cLine) (ho : RE X W o mo) (he : RE X W e ma) (hf : RE X W f mb)
    (h1 : attributeBase o "get" X.env (eval o X.env) = eval o X.env := by rfl)
    (h2 : ((backTo cpos (starEach [e, f] X.env)).all (fun x => !x.1) && (backToKw cpos (keywordEach [] X.env)).all (fun x => x.1.isSome)
      && decide (([e, f] : List Expr).length + ([] : List Keyword).length + (if ([] : List Keyword).isEmpty then 0 else 1) < 30)) = true := by rfl)
    (h3 : (apos.endLine == cpos.line) = true := by rfl) (h4 : backTo cpos (starEach [e, f] X.env) = [(false, eval e X.env), (false, eval f X.env)] := by rfl) :
    RE X W (.Call (.Attribute o "get" apos) [e, f] [] cpos) (eDGet2 mo ma mb) := (pe_dget2 (by omega) ho he hf ⟨h1, h2, h3, h4⟩).imp fun σ H Q ⟨ρ, oh, s, rh, rs, h⟩ => by
  refine ⟨ρ, oh, s, rh, rs, (Out.bnd h).imp fun o' oh1 ρ1 H1 L1 rh1 ⟨_, _, h1⟩ v rv => ?_⟩
  cases o' with
  | ref n =>
    simp only [Rep] at rv
    obtain ⟨a, rfl, ga⟩ := rv
    dsimp only at h1
    split at h1
    · rename_i hs
      obtain ⟨l0, e0⟩ := Option.isSome_iff_exists.mp hs
      obtain ⟨ws0, rd0, _⟩ := dictOf_rd rh1 ga e0
      refine ⟨a, rfl, .inr ⟨ws0, rd0⟩, ρ1, oh1, s, rh1, L1.reps rs, (Out.bnd h1).imp fun y oh2 ρ2 H2 L2 rh2 ⟨_, _, h2⟩ yv ry => ?_⟩
      refine ⟨ρ2, oh2, s, rh2, (L1.trans L2).reps rs, (Out.bnd h2).imp fun z oh3 ρ3 H3 L3 rh3 ⟨_, _, h3⟩ zv rz => ?_⟩
      split at h3
      · rename_i l k el ek
        obtain ⟨ws, rd, rk⟩ := dictOf_rd rh3 (pre_get (L2.trans L3).pre ga) el
        obtain ⟨b, rfl, hb⟩ := keyD_rep ek (L3.rep ry)
        refine ⟨valV ws (keyV k), .inr ⟨ws, keyV k, b, rd, rfl, hb, rfl⟩, h3 ρ3 H3 .refl rh3 _ ?_⟩
        have g := RepK.get k rk
        cases eg : dGet l k with
        | none =>
          rw [g.2 eg]
          exact rz
        | some d =>
          obtain ⟨w, ew, rw'⟩ := g.1 d eg
          rw [ew]
          exact rw'
      · exact h3.elim
    · exact h1.elim
  | _ => exact h1.elim
/-! ### in, not in -/
def toStrs : List D → Option (List Str)
  | [] => some []
  | .str i :: ds => (toStrs ds).map (i :: ·)
  | _ => none
theorem toStrs_rep {K : PySem.W.Frag} {H : Hp} {ρ : List Addr} : ∀ {l : List D} {ns : List Str} {xs : List V}, toStrs l = some ns → RepL K H ρ l xs → xs = ns.map V.str
  | [], ns, xs, e, r => by
    cases e
    simp only [RepL] at r
    rw [r]
    rfl
  | .str i :: ds, ns, xs, e, r => by
    simp only [toStrs, Option.map_eq_some_iff] at e
    obtain ⟨ms, e1, rfl⟩ := e
    simp only [RepL, Rep] at r
    obtain ⟨v, vs, rfl, rfl, r2⟩ := r
    rw [toStrs_rep e1 r2]
    rfl
  | .non :: _, _, _, e, _ => by cases e
  | .bl _ :: _, _, _, e, _ => by cases e
  | .int _ :: _, _, _, e, _ => by cases e
  | .tup _ :: _, _, _, e, _ => by cases e
  | .ref _ :: _, _, _, e, _ => by cases e
  | .adr _ :: _, _, _, e, _ => by cases e
/-- x in a list or a tuple of whole numbers, or of texts -/
def inFlat (oh : OH) (x y : D) : Option Bool := match itemsOf oh y with
  | none => none
  | some l => match x with
    | .int k => (toInts l).map fun ns => decide (k ∈ ns)
    | .str k => (toStrs l).map fun ns => decide (k ∈ ns)
    | _ => none
/-- x in a list of data -/
def inData (oh : OH) (x y : D) : Option Bool := match toPy oh 60 x, toPy oh 60 y with
  | some d, some (.list ds) => if SeqAt.shaped d && SeqAt.shaped (.list ds) then some (ds.any fun z => PyData.eqv z d) else none
  | _, _ => none
def inDict (oh : OH) (x y : D) : Option Bool := match y with
  | .ref n => match dictOf oh n, keyD x with
    | some l, some k => some (dGet l k).isSome
    | _, _ => none
  | _ => none
def inAny (oh : OH) (x y : D) : Option Bool := match inFlat oh x y with
  | some b => some b
  | none => match inDict oh x y with
    | some b => some b
    | none => inData oh x y
def pIn : P2 := fun x y oh => (inAny oh x y).map fun b => (.bl b, oh)
def pNotIn : P2 := fun x y oh => (inAny oh x y).map fun b => (.bl (!b), oh)
theorem inV_ints (k : Int) : ∀ ns : List Int, inV (.int k) (ns.map V.int) = decide (k ∈ ns)
  | [] => by simp [inV]
  | n :: ns => by
    have ih := inV_ints k ns
    unfold inV at ih ⊢
    rw [List.map_cons, List.any_cons, ih]
    have : eqV (.int n) (.int k) = decide (n = k) := by
      unfold eqV
      first | rfl | (by_cases h : n = k <;> simp [h])
    rw [this, ← Bool.decide_or]
    simp [eq_comm]
theorem inV_strs (k : Str) : ∀ ns : List Str, inV (.str k) (ns.map V.str) = decide (k ∈ ns)
  | [] => by simp [inV]
  | n :: ns => by
    have ih := inV_strs k ns
    unfold inV at ih ⊢
    rw [List.map_cons, List.any_cons, ih]
    have : eqV (.str n) (.str k) = decide (n = k) := by
      unfold eqV
      first | rfl | (by_cases h : n = k <;> simp [h])
    rw [this, ← Bool.decide_or]
    simp [eq_comm]
theorem flat_ints (ns : List Int) : (ns.map V.int).all flatV = true := by
  rw [List.all_eq_true]
  intro x hx
  obtain ⟨n, _, rfl⟩ := List.mem_map.mp hx
  rfl
theorem flat_strs (ns : List Str) : (ns.map V.str).all flatV = true := by
  rw [List.all_eq_true]
  intro x hx
  obtain ⟨n, _, rfl⟩ := List.mem_map.mp hx
  rfl
theorem inAny_rule {ρ : List Addr} {H : Hp} {oh : OH} {dx dy : D} {x y : V} {b : Bool} (rh : RH X.K H ρ oh) (r1 : Rep X.K H ρ dx x) (r2 : Rep X.K H ρ dy y) (e : inAny oh dx dy = some b) :
    (∃ p xs, y = .ref p ∧ (SqL X.K H p xs ∨ SqT X.K H p xs) ∧ flatV x = true ∧ xs.all flatV = true ∧ inV x xs = b) ∨ (∃ a o, y = .ref a ∧ DGet H a x o ∧ o.isSome = b) ∨
    ∃ d ds, Dp X.K H x d ∧ Dp X.K H y (.list ds) ∧ SeqAt.shaped d = true ∧ SeqAt.shaped (.list ds) = true ∧ (ds.any fun z => PyData.eqv z d) = b := by
  unfold inAny at e
  split at e
  · rename_i b' e1
    cases e
    left
    unfold inFlat at e1
    split at e1
    · cases e1
    · rename_i l el
      obtain ⟨p, xs, rfl, hs, q⟩ := itemsOf_rep rh r2 el
      split at e1
      · simp only [Option.map_eq_some_iff] at e1
        obtain ⟨ns, e2, e3⟩ := e1
        simp only [Rep] at r1
        subst r1
        have ex := toInts_rep e2 q
        subst ex
        exact ⟨p, _, rfl, hs, rfl, flat_ints ns, by rw [inV_ints]; exact e3⟩
      · simp only [Option.map_eq_some_iff] at e1
        obtain ⟨ns, e2, e3⟩ := e1
        simp only [Rep] at r1
        subst r1
        have ex := toStrs_rep e2 q
        subst ex
        exact ⟨p, _, rfl, hs, rfl, flat_strs ns, by rw [inV_strs]; exact e3⟩
      · cases e1
  · split at e
    · rename_i b' e1
      cases e
      right; left
      unfold inDict at e1
      split at e1
      · split at e1
        · rename_i n l k el ek
          simp only [Rep] at r2
          obtain ⟨a, rfl, ga⟩ := r2
          obtain ⟨ws, rd, rk⟩ := dictOf_rd rh ga el
          obtain ⟨b, rfl, hb⟩ := keyD_rep ek r1
          cases e1
          refine ⟨a, valV ws (keyV k), rfl, .inr ⟨ws, keyV k, b, rd, rfl, hb, rfl⟩, ?_⟩
          have g := RepK.get k rk
          cases eg : dGet l k with
          | none => rw [g.2 eg]; rfl
          | some d =>
            obtain ⟨w, ew, _⟩ := g.1 d eg
            rw [ew]; rfl
        · cases e1
      · cases e1
    · right; right
      unfold inData at e
      split at e
      · rename_i d ds e1 e2
        split at e
        · rename_i hs
          rw [Bool.and_eq_true] at hs
          cases e
          exact ⟨d, ds, toPy_dp rh _ _ _ _ e1 r1, toPy_dp rh _ _ _ _ e2 r2, hs.1, hs.2, rfl⟩
        · cases e
      · cases e
theorem o_in (hu : X.A.units + 80 < cLine) : OpR X (compareOp .In) (rP X pIn) := by
  intro pins s σ H x y v u Q I rx ry ⟨ρ, oh, dx, dy, rh, r1, r2, h⟩
  unfold pIn at h
  cases e : inAny oh dx dy with
  | none => rw [e] at h; exact h.elim
  | some b =>
    rw [e] at h
    have hq : Q (.bl b) H := OutP.here h rh (by simp [Rep])
    rcases inAny_rule rh r1 r2 e with ⟨p, xs, rfl, hs, f1, f2, eb⟩ | ⟨a, o, rfl, g, eb⟩ | ⟨d, ds, h1, h2, s1, s2, eb⟩
    · exact op_in_seq pins s σ H _ _ v u Q I rx ry ⟨p, xs, rfl, hs, f1, f2, by rw [if_neg (by decide), eb]; exact hq⟩
    · cases (show u = Value.ref a from ry)
      refine d_in (by omega) I g rx fun s' I' => ⟨.bl o.isSome, H, I', rfl, ?_⟩
      rw [eb]; exact hq
    · exact op_inD (by omega) pins s σ H _ _ v u Q I rx ry ⟨d, ds, h1, h2, s1, s2, by rw [eb]; exact hq⟩
theorem o_notin (hu : X.A.units + 80 < cLine) : OpR X (compareOp .NotIn) (rP X pNotIn) := by
  intro pins s σ H x y v u Q I rx ry ⟨ρ, oh, dx, dy, rh, r1, r2, h⟩
  unfold pNotIn at h
  cases e : inAny oh dx dy with
  | none => rw [e] at h; exact h.elim
  | some b =>
    rw [e] at h
    have hq : Q (.bl (!b)) H := OutP.here h rh (by simp [Rep])
    rcases inAny_rule rh r1 r2 e with ⟨p, xs, rfl, hs, f1, f2, eb⟩ | ⟨a, o, rfl, g, eb⟩ | ⟨d, ds, h1, h2, s1, s2, eb⟩
    · exact op_notIn_seq pins s σ H _ _ v u Q I rx ry ⟨p, xs, rfl, hs, f1, f2, by rw [if_pos rfl, eb]; exact hq⟩
    · cases (show u = Value.ref a from ry)
      refine d_notIn (by omega) I g rx fun s' I' => ⟨.bl (!o.isSome), H, I', rfl, ?_⟩
      rw [eb]; exact hq
    · exact op_notInD (by omega) pins s σ H _ _ v u Q I rx ry ⟨d, ds, h1, h2, s1, s2, by rw [eb]; exact hq⟩
end
end SK
set_option maxHeartbeats 2000000
namespace SK
open PySem PySem.Spec PyProof.Rows L2 SKX LamX
/-! ### dict(list of pairs), tuple keys -/
def mergeT (ws : List (List Key × V)) : List (List Key × V) → List (List Key × V)
  | [] => ws
  | p :: r => mergeT (putK ws p.1 p.2) r
theorem mergeT_len : ∀ (l ws : List (List Key × V)), (mergeT ws l).length ≤ ws.length + l.length
  | [], ws => by simp [mergeT]
  | p :: l, ws => by
    have h1 := mergeT_len l (putK ws p.1 p.2)
    have h2 := length_putK ws p.1 p.2
    show (mergeT (putK ws p.1 p.2) l).length ≤ _
    simp only [List.length_cons]
    omega
section
variable {X : Cx}
theorem pairsT_of {pins : List (Addr × Obj)} {σ : L2.St} {H : Hp} {s : Shared} (I : Inv X pins σ H s) : ∀ {ps : List Addr} {kvs : List (List Key × V)}, Paired (fun p kv => ∃ b, H b = some (.tup (kv.1.map kV)) ∧ SqT X.K H p [.ref b, kv.2]) ps kvs →
    ∃ prs : List (List Key × Addr × Value), Paired (fun p q => p.1 = q.1 ∧ H q.2.1 = some (.tup (p.1.map kV)) ∧ RelV p.2 q.2.2) kvs prs ∧ prs.length = ps.length ∧ ∀ (j : Nat) (q : List Key × Addr × Value), prs[j]? = some q → ∃ b : Addr, ps[j]? = some b ∧ IsTup s.heap b #[.ref q.2.1, q.2.2]
  | _, _, .nil => ⟨[], .nil, rfl, fun j q e => by simp at e⟩
  | _, _, .cons (a := p) (b := kv) h t => by
    obtain ⟨prs, r, hl, hp⟩ := pairsT_of I t
    obtain ⟨b, hb, h⟩ := h
    obtain ⟨its, rv, ht, _⟩ := I.tuple h
    obtain ⟨u, y, ei, ru, ry⟩ := vals2 rv
    subst ei
    cases (show u = Value.ref b from ru)
    refine ⟨(kv.1, b, y) :: prs, .cons ⟨rfl, hb, ry⟩ r, by rw [List.length_cons, List.length_cons, hl], fun j q e => ?_⟩
    cases j with
    | zero =>
      have e' : (kv.1, b, y) = q := Option.some.inj e
      subst e'
      exact ⟨p, rfl, ht⟩
    | succ j =>
      obtain ⟨b', e1, e2⟩ := hp j q (by simpa using e)
      exact ⟨b', by simpa using e1, e2⟩
theorem kt_merge {H : Hp} : ∀ {kvs : List (List Key × V)} {prs acc : List (List Key × Addr × Value)} {ws : List (List Key × V)}, Paired (fun p q => p.1 = q.1 ∧ H q.2.1 = some (.tup (p.1.map kV)) ∧ RelV p.2 q.2.2) kvs prs → KT H ws acc → KT H (mergeT ws kvs) (storedAllH acc prs)
  | _, _, acc, ws, .nil, h => h
  | p :: kvs, q :: prs, acc, ws, .cons h t, h0 => by
    show KT H (mergeT (putK ws p.1 p.2) kvs) (storedAllH (storedH acc q.1 q.2.1 q.2.2) prs)
    obtain ⟨h1, h2, h3⟩ := h
    rw [← h1]
    exact kt_merge t (h0.put p.1 h2 h3)
theorem call_dictTP (hcalm : X.calm = true) (hu : X.A.units + 64 < cLine) : CallR X (.type "dict") (fun xs H Q => ∃ (a : Addr) (ps : List Addr) (kvs : List (List Key × V)), xs = [.ref a] ∧ SqL X.K H a (ps.map V.ref) ∧ Paired (fun p kv => ∃ b, H b = some (.tup (kv.1.map kV)) ∧ SqT X.K H p [.ref b, kv.2]) ps kvs ∧
    ∀ p, H p = none → Q (.ref p) (upd H p (.dT (mergeT [] kvs)))) := by
  intro pins s σ H xs us Q I r q
  obtain ⟨a, ps, kvs, ex, hq, hp, q⟩ := q
  subst ex
  obtain ⟨u, eu, rx⟩ := vals1 r
  subst eu
  cases rx
  obtain ⟨its, rv, pl, hz⟩ := I.list hq
  have ei := refs_at rv
  subst ei
  rw [List.length_map] at hz
  obtain ⟨prs, rel, hl, hpr⟩ := pairsT_of I hp
  have hlen : ∀ j, j < prs.length → ∃ q b, prs[j]? = some q ∧ ps[j]? = some b ∧ IsTup s.heap b #[.ref q.2.1, q.2.2] := fun j hj => by
    obtain ⟨b, e1, e2⟩ := hpr j prs[j] (List.getElem?_eq_getElem hj)
    exact ⟨_, b, List.getElem?_eq_getElem hj, e1, e2⟩
  have lp : prs.length = kvs.length := (Paired.length rel).symm
  let vps : List (Value × Value) := prs.map fun q => (.ref q.2.1, q.2.2)
  have P := PairArg.list (prog := X.prog) (w := X.w) a (ps.map Value.ref).toArray (fun j => ps.getD j 0) vps
  have vl : vps.length = prs.length := List.length_map ..
  rw [vl] at P
  have keys : ∀ p ∈ prs, ∀ {h' : Heap}, (∀ b o, s.heap.get? b = some o → h'.get? b = some o) → (tupleKind (mixKind X.prog X.w)).is h' p.1 p.2.1 := by
    have all : ∀ {l : List (List Key × V)} {m : List (List Key × Addr × Value)}, Paired (fun p q => p.1 = q.1 ∧ H q.2.1 = some (.tup (p.1.map kV)) ∧ RelV p.2 q.2.2) l m → ∀ x ∈ m, H x.2.1 = some (.tup (x.1.map kV)) := by
      intro l m q
      induction q with
      | nil => intro x hx; exact nomatch hx
      | @cons p q ps qs hq t ih =>
        intro x hx
        rcases List.mem_cons.mp hx with e | hx
        · subst e
          rw [← hq.1]; exact hq.2.1
        · exact ih x hx
    intro p hp h' hk
    obtain ⟨o, its, n, h1, h2, h3, h4⟩ := key_of I.hok (all rel p hp)
    exact ⟨o, its, n, hk _ _ h1, h2, h3, h4⟩
  refine call_dict_pairsH (knd := tupleKind (mixKind X.prog X.w)) (ps := prs) P (I.ok.hd hcalm) (show X.A.units + 2 < cLine by omega) ⟨?_, ?_, fun j k v e => ?_⟩ ⟨rfl, fun i key v e => ?_⟩ (fun h' hk x hx => keys x hx fun b o e => hk b o (Nat.ne_of_lt (Heap.lt_size e)) (by simp) e) (by rw [hl]; exact hz) fun h' tk hd' k => ?_
  · obtain ⟨o, n, ho, hc, hd, hdat⟩ := pl
    exact ⟨o, n, ho, hc, hd, hdat⟩
  · simp [vps, hl]
  · simp only [vps, List.getElem?_map, Option.map_eq_some_iff] at e
    obtain ⟨q', e1, e2⟩ := e
    cases e2
    obtain ⟨b, e3, e4⟩ := hpr j q' e1
    have eb : ps.getD j 0 = b := by rw [List.getD_eq_getElem?_getD, e3]; rfl
    refine ⟨by simp [e3, List.getD_eq_getElem?_getD], .inl ?_⟩
    show s.heap.IsTuple (ps.getD j 0) _
    rw [eb]
    exact e4
  · have e : vps[i]? = some (key, v) := e
    simp only [vps, List.getElem?_map, Option.map_eq_some_iff] at e
    obtain ⟨q', e1, e2⟩ := e
    cases e2
    exact ⟨q'.1, q'.2.1, e1, rfl⟩
  · have hm : (s.heap.objs.size == sysModules) = false := beq_eq_false_iff_ne.mpr (Nat.ne_of_gt I.big)
    have k0 : ∀ b o, s.heap.get? b = some o → h'.get? b = some o := fun b o e => k b o (by simp) e
    have hz2 : (mergeT [] kvs).length ≤ sizeLine := by
      have := mergeT_len kvs []
      rw [List.length_nil] at this
      omega
    have kt : KT H (mergeT [] kvs) (storedAllH [] prs) := kt_merge rel .nil
    have hnone : H s.heap.objs.size = none := I.hok.fresh (Nat.le_refl _)
    obtain ⟨o, es, ep, g1, g2, g3, g4, _, g6⟩ := hd'
    refine ⟨.ref s.heap.objs.size, upd H s.heap.objs.size (.dT (mergeT [] kvs)), I.laid (t' := tk) k0 (Nat.le_refl _) ⟨hz2, hm, storedAllH [] prs, kt.keeps fun b ys eb => ?_, o, es, ep, g1, g2, g3, g4, g6⟩, rfl, q _ hnone⟩
    rw [upd_ne (ne_of_none eb hnone)]
    exact eb
end
def pairsD : List D → Option (List (List Int × D))
  | [] => some []
  | .tup [k, d] :: r => match keyD k, pairsD r with
    | some k, some l => some ((k, d) :: l)
    | _, _ => none
  | _ => none
def mergeD (acc : List (List Int × D)) : List (List Int × D) → List (List Int × D)
  | [] => acc
  | p :: r => mergeD (dPut' acc p.1 p.2) r
def bDict : PL := fun ds oh => match ds with
  | [.ref n] => match itemsOf oh (.ref n) with
    | some l => (pairsD l).map fun ps => (.ref oh.length, oh ++ [.dct (mergeD [] ps)])
    | none => none
  | _ => none
section
variable {X : Cx}
theorem pairsD_rep {K : PySem.W.Frag} {H : Hp} {ρ : List Addr} : ∀ {l : List D} {xs : List V} {pl : List (List Int × D)}, pairsD l = some pl → RepL K H ρ l xs → ∃ (ps : List Addr) (kvs : List (List Key × V)), xs = ps.map V.ref ∧ Paired (fun p (kv : List Key × V) => ∃ b, H b = some (.tup (kv.1.map kV)) ∧ SqT K H p [.ref b, kv.2]) ps kvs ∧ RepK K H ρ pl kvs
  | [], xs, pl, e, r => by
    cases e
    simp only [RepL] at r
    subst r
    exact ⟨[], [], rfl, .nil, rfl⟩
  | d :: l, xs, pl, e, r => by
    unfold pairsD at e
    split at e
    · cases ‹_ :: _ = []›
    · rename_i k x r' heq
      cases heq
      split at e
      · rename_i k' l' ek el
        cases e
        simp only [RepL] at r
        obtain ⟨v, vs, rfl, r1, r2⟩ := r
        simp only [Rep] at r1
        obtain ⟨p, ys, rfl, hp, q⟩ := r1
        obtain ⟨y1, y2, rfl, q1, q2⟩ := q.two
        obtain ⟨b, rfl, hb⟩ := keyD_rep ek q1
        obtain ⟨ps, kvs, rfl, pr, rk⟩ := pairsD_rep el r2
        exact ⟨p :: ps, (keyV k', y2) :: kvs, rfl, .cons ⟨b, hb, SqT.of hp⟩ pr, y2, kvs, rfl, q2, rk⟩
      · cases e
    · cases e
theorem mergeD_rep {K : PySem.W.Frag} {H : Hp} {ρ : List Addr} : ∀ {pl acc : List (List Int × D)} {kvs ws : List (List Key × V)}, RepK K H ρ pl kvs → RepK K H ρ acc ws → RepK K H ρ (mergeD acc pl) (mergeT ws kvs)
  | [], acc, kvs, ws, h, h0 => by
    simp only [RepK] at h
    subst h
    exact h0
  | p :: pl, acc, kvs, ws, h, h0 => by
    obtain ⟨v, ws', rfl, r, t⟩ := h
    show RepK K H ρ (mergeD (dPut' acc p.1 p.2) pl) (mergeT (putK ws (keyV p.1) v) ws')
    exact mergeD_rep t (h0.put r)
theorem c_dict (hc : X.calm = true) (hu : X.A.units + 64 < cLine) : CallR X (.type "dict") (rPL X bDict) := by
  intro pins s σ H xs us Q I rv ⟨ρ, oh, ds, rh, r, h⟩
  unfold bDict at h
  split at h
  · rename_i n
    obtain ⟨v, rfl, r1⟩ := r.one
    split at h
    · rename_i l el
      obtain ⟨p, ys, rfl, hs, q⟩ := items_ref rh r1 el
      cases e : pairsD l with
      | none => rw [e] at h; exact h.elim
      | some pl =>
        rw [e] at h
        obtain ⟨ps, kvs, rfl, pr, rk⟩ := pairsD_rep e q
        refine call_dictTP hc hu pins s σ H _ us Q I rv ⟨p, ps, kvs, rfl, hs, pr, fun d hd => ?_⟩
        obtain ⟨rh', L, g⟩ := rh.pushD hd (mergeD_rep rk (show RepK X.K H ρ [] [] from rfl))
        exact h _ _ _ L rh' (by simp only [Rep]; exact ⟨d, rfl, g⟩)
    · exact h.elim
  · exact h.elim
/-! ### [.. for k in d if ..] -/
mutual
theorem Rep.keep {K : PySem.W.Frag} {H H1 : Hp} {ρ : List Addr} (ht : ∀ a xs, H a = some (.tup xs) → H1 a = some (.tup xs)) : ∀ (d : D) {v : V}, Rep K H ρ d v → Rep K H1 ρ d v
  | .non, _, h => by simpa only [Rep] using h
  | .bl _, _, h => by simpa only [Rep] using h
  | .int _, _, h => by simpa only [Rep] using h
  | .str _, _, h => by simpa only [Rep] using h
  | .tup l, _, h => by
    simp only [Rep] at h ⊢
    obtain ⟨a, xs, e, s, r⟩ := h
    exact ⟨a, xs, e, ht _ _ s, RepL.keep ht l r⟩
  | .ref n, _, h => by simpa only [Rep] using h
  | .adr _, _, h => by simpa only [Rep] using h
theorem RepL.keep {K : PySem.W.Frag} {H H1 : Hp} {ρ : List Addr} (ht : ∀ a xs, H a = some (.tup xs) → H1 a = some (.tup xs)) : ∀ (ds : List D) {vs : List V}, RepL K H ρ ds vs → RepL K H1 ρ ds vs
  | [], _, h => by simpa only [RepL] using h
  | d :: ds, _, h => by
    simp only [RepL] at h ⊢
    obtain ⟨v, vs', e, r, t⟩ := h
    exact ⟨v, vs', e, Rep.keep ht d r, RepL.keep ht ds t⟩
end
theorem RepK.keep {K : PySem.W.Frag} {H H1 : Hp} {ρ : List Addr} (ht : ∀ a xs, H a = some (.tup xs) → H1 a = some (.tup xs)) : ∀ (l : List (List Int × D)) {ws : List (List Key × V)}, RepK K H ρ l ws → RepK K H1 ρ l ws
  | [], _, h => h
  | p :: l, _, h => by
    obtain ⟨v, ws', e, r, t⟩ := h
    exact ⟨v, ws', e, Rep.keep ht p.2 r, RepK.keep ht l t⟩
def unlk (k : Nat) (oh : OH) : Option OH := match oh[k]? with
  | some (.fdc l) => some (oh.set k (.dct l))
  | _ => none
def eLcD (i : Nat) (g : GM) (t : Ev → M Bool) (el : Ev → M D) (vs : List Nat) : Ev → M D := fun s oh => match s[i]? with
  | some (some (.ref k)) => match oh[k]? with
    | some (.dct l) => asRef oh.length ((compT oh.length g t el (wipeE s vs) (l.map fun p => tupI p.1) (oh.set k (.fdc l) ++ [.lst []])).bind (unlk k))
    | _ => .bad
  | _ => .bad
theorem RepK.at {K : PySem.W.Frag} {H : Hp} {ρ : List Addr} : ∀ {l : List (List Int × D)} {ws : List (List Key × V)} {i : Nat} {k : List Key} {v : V}, RepK K H ρ l ws → ws[i]? = some (k, v) → ∃ p, l[i]? = some p ∧ k = keyV p.1 ∧ Rep K H ρ p.2 v
  | [], ws, i, k, v, h, e => by
    simp only [RepK] at h
    subst h
    simp at e
  | p :: l, ws, 0, k, v, h, e => by
    obtain ⟨u, ws', rfl, r, t⟩ := h
    simp at e
    obtain ⟨rfl, rfl⟩ := e
    exact ⟨p, rfl, rfl, r⟩
  | p :: l, ws, i + 1, k, v, h, e => by
    obtain ⟨u, ws', rfl, r, t⟩ := h
    exact RepK.at (i := i) t e
theorem tabs_unfrz {T : List (Addr × Str)} {H : Hp} {p : Addr} {o : Obj} {ws : List (List Key × V)} {v : HO} (hp : H p = some (.frz o (.dT ws))) (t : LamX.Tabs T H) : LamX.Tabs T (upd H p v) := fun q hq => by
  obtain ⟨ps, h1, h2, h3⟩ := t q hq
  refine ⟨ps, by rw [upd_ne (ne_of h1 hp (fun z => nomatch z))]; exact h1, h2, fun pos cv hc => ?_⟩
  obtain ⟨c, e1, e2⟩ := h3 pos cv hc
  refine ⟨c, e1, ?_⟩
  rw [upd_ne (ne_of e2 hp (fun z => by unfold LamX.CodeO at z; cases z))]
  exact e2
variable {mt : Ev → M Bool} {me : Ev → M D}
theorem repl_ints {K : PySem.W.Frag} {H : Hp} {ρ : List Addr} : ∀ ns : List Int, RepL K H ρ (ns.map D.int) (ns.map V.int)
  | [] => by simp [RepL]
  | n :: ns => by simp only [List.map_cons, RepL]; exact ⟨_, _, rfl, by simp [Rep], repl_ints ns⟩
theorem lcD_imp {W : WX} {i : Nat} {c : CT} {vs : List Nat} (hv : ∀ i ∈ c.ix, i ∈ vs) : ∀ σ H Q, tE X W (eLcD i c.g mt me vs) σ H Q → tLockE (tLc (iKeys (tE X W (eVar i))) (c.v X.K) (tT X W0 mt) (tE X W0 me) vs) σ H Q := fun σ H Q ⟨ρ, oh, s, rh, rs, h⟩ => by
  unfold eLcD at h
  split at h
  · rename_i k es
    split at h
    · rename_i l el
      obtain ⟨va, ea, ra⟩ := rs.get es
      simp only [Rep] at ra
      obtain ⟨a, rfl, ga⟩ := ra
      obtain ⟨ws, hw, rk⟩ := rh.cell _ _ a el ga
      refine ⟨a, .dT ws, hw, True.intro, fun od => ?_⟩
      obtain ⟨rh1, L1⟩ := rh.writeW (c1 := .fdc l) (v := .frz od (.dT ws)) el rfl rfl ga hw True.intro fun L => ⟨ws, od, upd_same, L.repk rk⟩
      refine ⟨ρ, oh.set k (.fdc l), s, rh1, L1.reps rs, ?_⟩
      have ev : eVar i s (oh.set k (.fdc l)) = .ok (.ref k) (oh.set k (.fdc l)) := by
        unfold eVar
        rw [es]
      rw [ev]
      intro ρ2 H2 L2 rh2 v rv
      simp only [Rep] at rv
      obtain ⟨a', rfl, ga'⟩ := rv
      have ga2 := pre_get L2.pre ga
      rw [ga2] at ga'
      cases ga'
      have h2 : H2 a = some (.frz od (.dT ws)) := L2.frz _ _ _ upd_same
      refine ⟨a, od, rfl, .inr ⟨ws, h2, fun dA hD => ?_⟩⟩
      obtain ⟨rh3, L3, g3⟩ := rh2.push (l := []) (xs := []) hD (by simp [RepL])
      rw [List.length_set] at g3
      have h3 := L3.frz _ _ _ h2
      cases er : compT oh.length c.g mt me (wipeE s vs) (l.map fun p => tupI p.1) (oh.set k (.fdc l) ++ [.lst []]) with
      | none => rw [er] at h; exact h.elim
      | some r' =>
        rw [er] at h
        have rk3 : RepK X.K (upd H2 dA (.lst [])) (ρ2 ++ [dA]) l ws := L3.repk (L2.repk (L1.repk rk))
        refine comp_items (J := Itkt a od ws) (Q := fun v H' => H' a = some (.frz od (.dT ws)) ∧ Q v (upd H' a (.dT ws))) hv rh3 ((L1.trans (L2.trans L3)).reps rs |>.wipe vs) g3 (fun j d ρ' H' L' ed => ?_) (fun j ρ' H' L' hj => ⟨L'.frz _ _ _ h3, by rw [rk.length]; simpa using hj⟩) er fun ρ' H' L' rh' => ?_
        · have hj := (List.getElem?_eq_some_iff.mp ed).1
          rw [List.length_map] at hj
          refine ⟨⟨L'.frz _ _ _ h3, by rw [rk.length]; exact hj⟩, fun x H'' y => ?_⟩
          obtain ⟨rfl, kk, vv, q, ew, rfl, hq⟩ := y
          obtain ⟨p, ep, rfl, _⟩ := (L'.repk rk3).at ew
          refine ⟨rfl, ?_⟩
          rw [List.getElem?_map, ep] at ed
          cases ed
          rw [keyV_kV] at hq
          unfold tupI
          simp only [Rep]
          refine ⟨q, _, rfl, hq, ?_⟩
          exact repl_ints _
        · have h4 := L'.frz _ _ _ h3
          refine ⟨h4, ?_⟩
          have LL := L1.trans (L2.trans (L3.trans L'))
          simp only [Option.bind] at h
          unfold unlk at h
          split at h
          · rename_i l' el2
            have ga' := pre_get (L2.trans (L3.trans L')).pre ga
            obtain ⟨ws', o', h5, rk'⟩ := rh'.cell _ _ a el2 ga'
            rw [h4] at h5
            cases h5
            have ht : ∀ b xs, H' b = some (.tup xs) → upd H' a (.dT ws) b = some (.tup xs) := fun b xs e => by rw [upd_ne (ne_of e h4 (fun z => nomatch z))]; exact e
            have rhf : RH X.K (upd H' a (.dT ws)) ρ' (r'.set k (.dct l')) := rh'.writeC (ρ0 := ρ') (H0 := H') el2 rfl rfl ga' h4 (fun ps z => nomatch z) (fun T t => tabs_unfrz h4 t) (fun d w r => Rep.keep ht d r) (fun b o x ne e => by rw [upd_ne ne]; exact e) (fun o x z => by cases z) ⟨ws, upd_same, RepK.keep ht _ rk'⟩
            have Lf : Later X.K ρ H ρ' (upd H' a (.dT ws)) := ⟨LL.pre, fun b xs e => ht _ _ (LL.tup _ _ e), fun b o u e => by
              have hb : b ≠ a := ne_of e hw (fun z => nomatch z)
              rw [upd_ne hb]
              exact LL.frz _ _ _ e⟩
            exact h ρ' _ Lf rhf _ (by simp only [Rep]; exact ⟨dA, rfl, pre_get L'.pre g3⟩)
          · exact h.elim
    · exact h.elim
  · exact h.elim
variable {W : WX} {elt tg iter : Expr} {ifs : List Expr} {scope : Scope} {own : List (Str × Nat)} {pos : Pos} {c : CT}
theorem re_lcD {i : Nat} (hc : X.calm = true) (hN : X.N.Nodup) (hi : RE X W iter (eVar i)) (ok : BlkOk X.N X.env.scope scope own) (hv : ∀ i ∈ c.ix, i ∈ own.map (·.2))
    (hg : ∀ (s : Shared) (H : Hp) (C : Addr) (cl : List (Str × Addr)) (fp : List Addr), PG (X.blk s H scope (compEnvC scope cl C X.env) fp) tg (c.v X.K)) (ht : ∀ (s : Shared) (H : Hp) (C : Addr) (cl : List (Str × Addr)) (fp : List Addr), PTs (X.blk s H scope (compEnvC scope cl C X.env) fp) ifs (tT X W0 mt))
    (he : ∀ (s : Shared) (H : Hp) (C : Addr) (cl : List (Str × Addr)) (fp : List Addr), PE (X.blk s H scope (compEnvC scope cl C X.env) fp) elt (tE X W0 me)) (hs : ∀ x, foldedSetIterable iter X.env x = pure x := by intro _; rfl) :
    RE X W (.ListComp elt [⟨tg, iter, ifs, 0⟩] scope pos) (eLcD i c.g mt me (own.map (·.2))) := (pe_lock (pe_lc hc hN (pi_keys hi) ok hg ht he hs)).imp (lcD_imp hv)
end
end SK
set_option maxHeartbeats 2000000
namespace TZ
open PySem PyProof.Rows TS
def lexLe : List Int → List Int → Bool
  | [], _ => true
  | _ :: _, [] => false
  | x :: xs, y :: ys => decide (x < y) || (decide (x = y) && lexLe xs ys)
theorem lexLe_refl : ∀ xs, lexLe xs xs = true
  | [] => rfl
  | x :: xs => by simp [lexLe, lexLe_refl xs]
theorem lexLe_total : ∀ xs ys, (lexLe xs ys || lexLe ys xs) = true
  | [], _ => rfl
  | x :: xs, [] => by simp [lexLe]
  | x :: xs, y :: ys => by
    have ih := lexLe_total xs ys
    simp only [lexLe, Bool.or_eq_true, Bool.and_eq_true, decide_eq_true_eq] at ih ⊢
    rcases Int.lt_trichotomy x y with c | c | c
    · exact .inl (.inl c)
    · rcases ih with ih | ih
      · exact .inl (.inr ⟨c, ih⟩)
      · exact .inr (.inr ⟨c.symm, ih⟩)
    · exact .inr (.inl c)
theorem lexLe_trans : ∀ xs ys zs, lexLe xs ys = true → lexLe ys zs = true → lexLe xs zs = true
  | [], _, _, _, _ => rfl
  | x :: xs, [], _, h, _ => by cases h
  | x :: xs, y :: ys, [], _, h => by cases h
  | x :: xs, y :: ys, z :: zs, h1, h2 => by
    have ih := lexLe_trans xs ys zs
    simp only [lexLe, Bool.or_eq_true, Bool.and_eq_true, decide_eq_true_eq] at h1 h2 ⊢
    rcases h1 with h1 | ⟨h1, h3⟩ <;> rcases h2 with h2 | ⟨h2, h4⟩
    · left; omega
    · left; omega
    · left; omega
    · exact .inr ⟨h1.trans h2, ih h3 h4⟩
theorem lexLe_anti : ∀ xs ys, lexLe xs ys = true → lexLe ys xs = true → xs = ys
  | [], [], _, _ => rfl
  | [], y :: ys, _, h => by cases h
  | x :: xs, [], h, _ => by cases h
  | x :: xs, y :: ys, h1, h2 => by
    simp only [lexLe, Bool.or_eq_true, Bool.and_eq_true, decide_eq_true_eq] at h1 h2
    rcases h1 with h1 | ⟨h1, h3⟩ <;> rcases h2 with h2 | ⟨h2, h4⟩
    · omega
    · omega
    · omega
    · rw [h1, lexLe_anti xs ys h3 h4]
theorem rankZ_le {B : Int} : ∀ {xs ys : List Int}, xs.length = ys.length → BdZ B xs → BdZ B ys → rankZ B xs ≤ rankZ B ys → lexLe xs ys = true
  | [], _, _, _, _, _ => rfl
  | x :: xs, [], h, _, _, _ => by simp at h
  | x :: xs, y :: ys, h, b1, b2, hr => by
    have len : xs.length = ys.length := by simpa using h
    have lenS : (shf B xs).length = (shf B ys).length := by simpa [shf] using len
    simp only [lexLe, Bool.or_eq_true, Bool.and_eq_true, decide_eq_true_eq]
    rcases Int.lt_trichotomy x y with c | c | c
    · exact .inl c
    · subst c
      refine .inr ⟨rfl, rankZ_le len b1.tail b2.tail ?_⟩
      have z : rankZ B (x :: ys) < rankZ B (x :: xs) ↔ rankZ B ys < rankZ B xs := code_same lenS.symm
      omega
    · have back := code_lt (B := 2 * B) (d := y + B) (e := x + B) lenS.symm b2.tail.bd b1.tail.bd (by omega)
      have hr : code (2 * B) ((x + B) :: shf B xs) ≤ code (2 * B) ((y + B) :: shf B ys) := hr
      omega
/-- a bound of all -/
def bndZ : List (List Int) → Int
  | [] => 1
  | k :: r => max (k.foldr (fun x b => max (x.natAbs + 1 : Int) b) 1) (bndZ r)
theorem fold_bd : ∀ (k : List Int) (m : Int), m ∈ k → (m.natAbs : Int) + 1 ≤ k.foldr (fun x b => max (x.natAbs + 1 : Int) b) 1
  | x :: k, m, h => by
    simp only [List.foldr_cons]
    rcases List.mem_cons.mp h with rfl | h
    · exact Int.le_max_left ..
    · exact Int.le_trans (fold_bd k m h) (Int.le_max_right ..)
theorem bndZ_bd : ∀ (ks : List (List Int)) (k : List Int), k ∈ ks → BdZ (bndZ ks) k
  | c :: ks, k, h => fun m hm => by
    have : (m.natAbs : Int) + 1 ≤ bndZ (c :: ks) := by
      unfold bndZ
      rcases List.mem_cons.mp h with rfl | h
      · exact Int.le_trans (fold_bd _ m hm) (Int.le_max_left ..)
      · have h2 : ∀ B : Int, BdZ B k → (m.natAbs : Int) + 1 ≤ B + 1 := fun B hb => by have := hb m hm; omega
        have h3 : (m.natAbs : Int) + 1 ≤ bndZ ks := by
          clear h2
          induction ks with
          | nil => cases h
          | cons d ks ih =>
            unfold bndZ
            rcases List.mem_cons.mp h with rfl | h
            · exact Int.le_trans (fold_bd _ m hm) (Int.le_max_left ..)
            · exact Int.le_trans (ih (List.mem_cons_of_mem _ h) h) (Int.le_max_right ..)
        exact Int.le_trans h3 (Int.le_max_right ..)
    omega
def sortK (ks : List (List Int)) : List (List Int) := ks.mergeSort lexLe
theorem sortK_perm (ks : List (List Int)) : (sortK ks).Perm ks := List.mergeSort_perm ..
theorem sortK_sorted (ks : List (List Int)) : (sortK ks).Pairwise fun a b => lexLe a b = true := List.pairwise_mergeSort lexLe_trans lexLe_total ks
theorem sortK_unique {ks l : List (List Int)} (p : l.Perm ks) (h : l.Pairwise fun a b => lexLe a b = true) : l = sortK ks :=
  List.Perm.eq_of_pairwise (fun a b _ _ h1 h2 => lexLe_anti a b h1 h2) h (sortK_sorted ks) (p.trans (sortK_perm ks).symm)
theorem perm_map_inv {α β : Type} {f : α → β} {l m : List β} (h : l.Perm m) : ∀ L : List α, m = L.map f → ∃ L' : List α, l = L'.map f ∧ L'.Perm L := by
  induction h with
  | nil =>
    intro L e
    cases L with
    | nil => exact ⟨[], rfl, .nil⟩
    | cons => cases e
  | @cons x l m h ih =>
    intro L e
    cases L with
    | nil => cases e
    | cons a L =>
      rw [List.map_cons] at e
      injection e with e1 e2
      obtain ⟨L', e3, p⟩ := ih L e2
      exact ⟨a :: L', by rw [List.map_cons, e1, e3], p.cons a⟩
  | swap x y l =>
    intro L e
    match L, e with
    | a :: b :: L, e =>
      rw [List.map_cons, List.map_cons] at e
      injection e with e1 e2
      injection e2 with e2 e3
      exact ⟨b :: a :: L, by rw [List.map_cons, List.map_cons, e1, e2, e3], .swap ..⟩
  | trans _ _ ih1 ih2 =>
    intro L e
    obtain ⟨L2, e2, p2⟩ := ih2 L e
    obtain ⟨L1, e1, p1⟩ := ih1 L2 e2
    exact ⟨L1, e1, p1.trans p2⟩
end TZ
namespace SK
open PySem PySem.Spec PyProof.Rows L2 SKX LamX TZ TS
theorem tup_ints {w : World} {P : Program} {H : Hp} {h : Heap} (ok : HOk P w H h) {b : Addr} {k : List Int} (e : H b = some (.tup (k.map V.int))) : TupInts h (.ref b) k := by
  obtain ⟨_, its, r, o, h1, h2, n, h3⟩ := (show ObjOk P w H h b (.tup (k.map V.int)) from ok b _ e)
  refine ⟨b, its.toArray, rfl, ⟨o, h1, h2, n, h3⟩, ?_⟩
  have := Vals.ints r
  simpa using this
section
variable {X : Cx}
/-- sorted behind the collecting -/
theorem sorted_of {pins : List (Addr × Obj)} {σ : L2.St} {H : Hp} {s : Shared} (I : Inv X pins σ H s) {L : List (Addr × List Int)} {n : Nat} {Q : VK} {h' : Heap} {tk : Nat} {A : Around} {E : Value → Shared → Prop} (h64 : L.length < 64) (hn : 1 ≤ n) (hL : ∀ p ∈ L, H p.1 = some (.tup (p.2.map V.int)) ∧ p.2.length = n)
    (kp : ∀ b o, s.heap.get? b = some o → h'.get? b = some o)
    (q : ∀ (L' : List (Addr × List Int)) p, H p = none → L'.Perm L → (L'.map (·.2)) = sortK (L.map (·.2)) → Q (.ref p) (upd H p (.lst (L'.map fun q => V.ref q.1)))) :
    wpAny (model X.prog X.w) A (call (.builtin "list.sort") [.ref h'.objs.size]) (fun _ s' => EP X pins σ Q (.ref h'.objs.size) s') E { s with heap := h'.push { cls := .type "list", data := .seq (L.map fun q => Value.ref q.1).toArray }, toks := tk } := by
  have hnone : H h'.objs.size = none := (I.hok.kept kp).fresh (Nat.le_refl _)
  have hnone2 : s.heap.get? h'.objs.size = none := by
    cases e : s.heap.get? h'.objs.size with
    | none => rfl
    | some o => exact absurd (Heap.lt_size (kp _ _ e)) (Nat.lt_irrefl _)
  have hb : ∀ p ∈ L, BdZ (bndZ (L.map (·.2))) p.2 := fun p hp => bndZ_bd _ _ (List.mem_map_of_mem hp)
  have k2 : ∀ b o, s.heap.get? b = some o → (h'.push { cls := .type "list", data := .seq (L.map fun q => Value.ref q.1).toArray }).get? b = some o := fun b o e => Heap.get?_push_of_some _ (kp _ _ e)
  have hat : (h'.push { cls := .type "list", data := .seq (L.map fun q => Value.ref q.1).toArray }).get? h'.objs.size = some (seqObj "list" (L.map fun q => Value.ref q.1).toArray 0) := Heap.get?_push_size _ rfl
  generalize hh : h'.push { cls := .type "list", data := .seq (L.map fun q => Value.ref q.1).toArray } = g at k2 hat
  have ti : ∀ p ∈ L, TupInts g (.ref p.1) p.2 := fun p hp => (tup_ints I.hok (hL p hp).1).keeps fun b o e _ => k2 b o e
  refine wpAny_call_entry PyProof.Rows.slot_list_sort ⟨_, hat, rfl⟩ PyProof.Rows.entry_list_sort (sortZ (d := n) (B := bndZ (L.map (·.2))) hat (by rw [List.length_map]; exact h64) hn (fun v hv => ?_) (fun v => rankZ (bndZ (L.map (·.2))) (intsOf g v)) (fun v hv ns t => by rw [t.ints]) fun out h1 h2 => ?_) (PyProof.Rows.args_list_sort _)
  · obtain ⟨p, hp, rfl⟩ := List.mem_map.mp hv
    exact ⟨p.2, ti p hp, (hL p hp).2, hb p hp⟩
  · refine ⟨_, rfl, ?_⟩
    obtain ⟨L', eo, pm⟩ := perm_map_inv h1 L rfl
    have hmem : ∀ p ∈ L', p ∈ L := fun p hp => pm.mem_iff.mp hp
    have es : L'.map (·.2) = sortK (L.map (·.2)) := by
      refine sortK_unique (pm.map _) ?_
      rw [eo, List.pairwise_map] at h2
      rw [List.pairwise_map]
      refine List.Pairwise.imp_of_mem (fun {a b} ha hb' hab => ?_) h2
      rw [(ti a (hmem a ha)).ints, (ti b (hmem b hb')).ints] at hab
      exact rankZ_le ((hL a (hmem a ha)).2.trans (hL b (hmem b hb')).2.symm) (hb a (hmem a ha)) (hb b (hmem b hb')) hab
    have hne : ∀ b o, s.heap.get? b = some o → b ≠ h'.objs.size := fun b o e => Nat.ne_of_lt (Heap.lt_size (kp _ _ e))
    have keep : ∀ b o, s.heap.get? b = some o → (sortedHeap g h'.objs.size (L.map fun q => Value.ref q.1) out).get? b = some o := fun b o e => by
      unfold sortedHeap
      rw [Heap.get?_update_other _ _ (Ne.symm (hne b o e))]
      refine Heap.get?_push_of_some _ (Heap.get?_push_of_some _ ?_)
      rw [Heap.get?_update_other _ _ (Ne.symm (hne b o e))]
      exact k2 _ _ e
    obtain ⟨ep, hat2⟩ : ∃ ep, (sortedHeap g h'.objs.size (L.map fun q => Value.ref q.1) out).get? h'.objs.size = some { cls := .type "list", data := .seq out ep } := PyProof.Rows.sortedHeap_at hat
    have hlen : (L'.map fun q => V.ref q.1).length ≤ sizeLine := by rw [List.length_map, pm.length_eq, sizeLine_eq]; omega
    have hv : Vals (L'.map fun q => V.ref q.1) out.toList := by
      rw [eo]
      have : ∀ l : List (Addr × List Int), Vals (l.map fun q => V.ref q.1) (l.map fun q => Value.ref q.1) := by
        intro l
        induction l with
        | nil => exact .nil
        | cons a l ih => exact .cons rfl ih
      exact this _
    have J : L2.Inv X pins σ (upd H h'.objs.size (.lst (L'.map fun q => V.ref q.1))) { s with heap := sortedHeap g h'.objs.size (L.map fun q => Value.ref q.1) out, toks := tk } :=
      L2.Inv.laidN I keep hnone2 hnone ⟨hlen, out.toList, ep, hv, by simpa using hat2⟩
    exact ⟨.ref h'.objs.size, _, J, rfl, q L' _ hnone pm es⟩
/-- sorted(d) of a dict with tuple keys -/
theorem call_sortedDT (hc : X.calm = true) : CallR X (.builtin "sorted") (fun xs H Q => ∃ (d : Addr) (kvs : List (List Key × V)) (ks : List (List Int)) (n : Nat), xs = [V.ref d] ∧ Rd H d (.dT kvs) ∧ kvs.map (·.1) = ks.map keyV ∧ ks.length < 64 ∧ 1 ≤ n ∧ (∀ k ∈ ks, k.length = n) ∧
    ∀ (L' : List (Addr × List Int)) p, H p = none → (∀ p ∈ L', H p.1 = some (.tup (p.2.map V.int))) → L'.map (·.2) = sortK ks → Q (.ref p) (upd H p (.lst (L'.map fun q => V.ref q.1)))) := by
  intro pins s σ H xs us Q I r h
  obtain ⟨d, kvs, kz, n, rfl, hd, hks, h64, hn, hlen, q⟩ := h
  obtain ⟨u, rfl, rx⟩ := r.one
  cases rx
  obtain ⟨z, hs, ks, pr, o, es, ep, ho, hx, hdt, he, hnd⟩ := (show ObjOk X.prog X.w H s.heap d (.dT kvs) from hd.ok I.hok)
  have l1 : es.size = ks.length := size_of_entries he
  have l2 : kvs.length = ks.length := Paired.length pr
  -- the keys, with their addresses
  have hL : ∃ L : List (Addr × List Int), L.map (·.1) = ks.map (·.2.1) ∧ L.map (·.2) = kz ∧ ∀ p ∈ L, H p.1 = some (.tup (p.2.map V.int)) := by
    clear l1 l2 he h64 hlen q hnd hd z
    induction pr generalizing kz with
    | nil =>
      cases kz with
      | nil => exact ⟨[], rfl, rfl, fun p hp => nomatch hp⟩
      | cons => cases hks
    | @cons a b as bs hab t ih =>
      cases kz with
      | nil => cases hks
      | cons k kz =>
        rw [List.map_cons, List.map_cons] at hks
        injection hks with e1 e2
        obtain ⟨L, i1, i2, i3⟩ := ih kz e2
        refine ⟨(b.2.1, k) :: L, by rw [List.map_cons, List.map_cons, i1], by rw [List.map_cons, i2], fun p hp => ?_⟩
        rcases List.mem_cons.mp hp with rfl | hp
        · have := hab.2.1
          rw [e1, keyV_kV] at this
          exact this
        · exact i3 p hp
  obtain ⟨L, L1, L2, L3⟩ := hL
  have lL : L.length = ks.length := by
    have := congrArg List.length L1
    simpa using this
  have lz : kz.length = ks.length := by
    have := congrArg List.length L2
    simp only [List.length_map] at this
    omega
  refine Calls.call_function_entry kind_sorted plain_sorted entry_sorted (args_sorted1 _) ?_
  unfold Builtin.«sorted»
  refine wpAny_bind (m := checkCount "sorted" 1 1 _) (wpAny_pure ?_)
  refine wpAny_bind (PySem.W.kdu_collect (A := X.A.in1) (kdl_raw hs hx hdt) (I.ok.hd hc) ho (by rw [sizeLine_eq]; omega) fun h' tk acc kp it => ?_)
  have ea : acc.toList = L.map fun q => Value.ref q.1 := by
    have ea1 : acc.toList = ks.map fun x => Value.ref x.2.1 := by
      have hl : acc.toList.length = ks.length := by rw [Array.length_toList, it.1]; exact l1
      apply List.ext_getElem?
      intro j
      rw [List.getElem?_map]
      cases hj : acc.toList[j]? with
      | none =>
        have h1 := List.getElem?_eq_none_iff.mp hj
        rw [List.getElem?_eq_none (by omega)]
        all_goals rfl
      | some v =>
        obtain ⟨en, hen, hv⟩ := it.2 j v (by rw [← Array.getElem?_toList]; exact hj)
        have qe := entry_at he j
        rw [hen] at qe
        cases hb : ks[j]? with
        | none =>
          rw [hb] at qe
          exact nomatch (show some en = none from qe)
        | some b =>
          rw [hb] at qe
          have e2 : en = entryOfKey (tupleKind (mixKind X.prog X.w)) b := Option.some.inj qe
          rw [hv, e2]
          all_goals rfl
    rw [ea1]
    have z1 : ks.map (fun x => Value.ref x.2.1) = (ks.map (·.2.1)).map Value.ref := by rw [List.map_map]; rfl
    rw [z1, ← L1, List.map_map]
    rfl
  rw [ea]
  refine wpAny_bind (wpAny_newList ?_ (by rw [List.length_map, sizeLine_eq]; omega))
  have hg := sorted_of (X := X) (Q := Q) (A := X.A.in1) (E := X.xe) I (L := L) (tk := tk) (by omega) hn (fun p hp => ⟨L3 p hp, hlen _ (by rw [← L2]; exact List.mem_map_of_mem hp)⟩) kp fun L' p hp pm e => q L' p hp (fun p hp => L3 p (pm.mem_iff.mp hp)) (by rw [e, L2])
  refine wpAny_bind (wpAny_holding (wpAny_mono hg (fun _ s' x => ?_) fun _ _ e => e))
  exact wpAny_pure ⟨_, rfl, x⟩
def sameLen : List (List Int) → Bool
  | [] => true
  | k :: r => decide (1 ≤ k.length) && r.all fun j => decide (j.length = k.length)
def bSorted : PL := fun ds oh => match ds with
  | [.ref n] => match dictOf oh n with
    | some l => if l.length < 64 ∧ sameLen (l.map (·.1)) = true then some (.ref oh.length, oh ++ [.lst ((sortK (l.map (·.1))).map tupI)]) else none
    | none => none
  | _ => none
theorem RepK.keys {K : PySem.W.Frag} {H : Hp} {ρ : List Addr} : ∀ {l : List (List Int × D)} {ws : List (List Key × V)}, RepK K H ρ l ws → ws.map (·.1) = (l.map (·.1)).map keyV
  | [], ws, h => by
    simp only [RepK] at h
    subst h
    rfl
  | p :: l, ws, h => by
    obtain ⟨u, ws', rfl, r, t⟩ := h
    rw [List.map_cons, List.map_cons, List.map_cons, RepK.keys t]
    rfl
theorem sameLen_all {ks : List (List Int)} (h : sameLen ks = true) : ∃ n, 1 ≤ n ∧ ∀ k ∈ ks, k.length = n := by
  cases ks with
  | nil => exact ⟨1, Nat.le_refl _, fun k hk => nomatch hk⟩
  | cons k r =>
    simp only [sameLen, Bool.and_eq_true, decide_eq_true_eq, List.all_eq_true] at h
    exact ⟨k.length, h.1, fun j hj => by
      rcases List.mem_cons.mp hj with rfl | hj
      · rfl
      · exact h.2 j hj⟩
theorem c_sorted (hc : X.calm = true) : CallR X (.builtin "sorted") (rPL X bSorted) := by
  intro pins s σ H xs us Q I rv ⟨ρ, oh, ds, rh, r, h⟩
  unfold bSorted at h
  split at h
  · rename_i n
    obtain ⟨v, rfl, r1⟩ := r.one
    simp only [Rep] at r1
    obtain ⟨a, rfl, ga⟩ := r1
    split at h
    · rename_i l el
      split at h
      · rename_i hz
        obtain ⟨ws, rd, rk⟩ := dictOf_rd rh ga el
        obtain ⟨m, hm, hall⟩ := sameLen_all hz.2
        refine call_sortedDT hc pins s σ H _ us Q I rv ⟨a, ws, l.map (·.1), m, rfl, rd, rk.keys, by rw [List.length_map]; exact hz.1, hm, hall, fun L' p hp hL es => ?_⟩
        have rr : RepL X.K H ρ ((sortK (l.map (·.1))).map tupI) (L'.map fun q => V.ref q.1) := by
          rw [← es, List.map_map]
          clear es
          induction L' with
          | nil => simp [RepL]
          | cons q L' ih =>
            simp only [List.map_cons, RepL]
            refine ⟨_, _, rfl, ?_, ih fun p hp => hL p (List.mem_cons_of_mem _ hp)⟩
            show Rep X.K H ρ (tupI q.2) (.ref q.1)
            unfold tupI
            simp only [Rep]
            exact ⟨q.1, _, rfl, hL q List.mem_cons_self, repl_ints _⟩
        obtain ⟨rh', L, g⟩ := rh.push hp rr
        exact h _ _ _ L rh' (by simp only [Rep]; exact ⟨p, rfl, g⟩)
      · exact h.elim
    · exact h.elim
  · exact h.elim
end
theorem boot_sorted_ : bootBuiltins "sorted" = some (.builtin "sorted") := by kernel_rfl
theorem boot_dict_ : bootBuiltins "dict" = some (.type "dict") := by kernel_rfl
end SK
set_option maxHeartbeats 2000000
namespace SK
open PySem PySem.Spec PyProof.Rows L2 SKX LamX
/-! ### calls that leave keyword-only parameters to their defaults -/
section
variable {X : Cx} {W : WX} {e : Expr} {es : List Expr} {ma : Ev → M D} {ms mk : Ev → M (List D)} {pos : Pos} {f : Addr} {fd : FuncData} {ps ks : List Str} {g : Fn} {x : Str} {p : Pos} {kws : List Keyword} {dl : List D} {dv : List V}
def eCallD (g : Fn) (dl : List D) (ms : Ev → M (List D)) : Ev → M D := fun s oh => (ms s oh).bnd fun ds oh => g (ds ++ dl) oh
def eCallK0D (g : Fn) (ix : List Nat) (dl : List D) (mk : Ev → M (List D)) : Ev → M D := fun s oh => (mk s oh).bnd fun zs oh => g (sel ix zs ++ dl) oh
theorem re_callRD {n : Nat} (R : RunAt X f fd ps g) (hm : X.mg x = some (.ref f)) (hk : PySem.W.keepIn X.K (.ref f) = true) (hb : ∃ d0, Vals dv d0 ∧ Binds X.K fd ps d0) (hdl : ∀ H ρ, RepL X.K H ρ dl dv) (tk : Takes X W)
    (ha : RA X W (e :: es) ms) (hlen : LenOk ms n) (hn : n + dl.length = ps.length) (hg : Gl X x := by rfl) (hdb : (x == ("__debug__" : Str)) = false := by decide) (he : starEach (e :: es) X.env = (false, eval e X.env) :: starEach es X.env := by rfl) (hpl : (backTo pos (starEach es X.env)).any (·.1) = false := by rfl) :
    RE X W (.Call (.Name x p) (e :: es) [] pos) (eCallD g dl ms) := by
  refine ⟨fun pins s σ H Q I hh => ?_⟩
  obtain ⟨ρ, oh, sv, rh, rs, h⟩ := hh
  obtain ⟨d0, rd0, hb⟩ := hb
  have h2 := Out.bnd h
  refine wpAny_Call_Name_kw (ld_glob I hg hm ?_ hdb)
  refine PySem.W.callWith_K (h₀ := X.base) I.ok.mod.kin hk (thn (ha.run pos pins s σ H (fun vs H1 => ∃ ρ1 oh1 ds, ds.length = n ∧ RH X.K H1 ρ1 oh1 ∧ RepL X.K H1 ρ1 ds vs ∧ Out X.K X.mg (WE W σ) ρ1 H1 (g (ds ++ dl) oh1) fun d _ ρ' H' => ∀ v, Rep X.K H' ρ' d v → Q v H') I ⟨ρ, oh, sv, rh, rs, ?_⟩) fun us s1 hh => ?_) he hpl
  · cases em : ms sv oh with
    | ok ds oh1 =>
      rw [em] at h2
      exact fun ρ1 H1 L1 rh1 vs rvs => ⟨ρ1, oh1, ds, hlen _ _ _ _ em, rh1, rvs, (h2 ρ1 H1 L1 rh1).2.2⟩
    | exc c w oh1 => rw [em] at h2; exact h2
    | bad => rw [em] at h2; exact h2
  · obtain ⟨vs, H1, I1, r1, ρ1, oh1, ds, hl, rh1, rvs, q⟩ := hh
    have ld : dl.length = dv.length := (hdl H1 ρ1).length
    have z := hb s1 us I1.kIn (by rw [List.length_append, ← r1.length, ← rvs.length, hl, ← rd0.length, ← ld, hn])
    exact ⟨I1.kIn, finish_call R tk I1 z (r1.append rd0) (by rw [List.length_append, hl, hn]) rh1 (rvs.append (hdl H1 ρ1)) q⟩
/-- f(k = v, ..), the rest by default -/
theorem re_callK0D {ix : List Nat} {n : Nat} (R : RunAt X f fd ps g) (hm : X.mg x = some (.ref f)) (hk : PySem.W.keepIn X.K (.ref f) = true) (tk : Takes X W) (hkw : RK X W kws mk) (hlen : LenOk mk n) (hix : ix.all (· < n) = true) (hdl : ∀ H ρ, RepL X.K H ρ dl dv) (hip : ix.length + dl.length = ps.length)
    (hb : ∃ d0, Vals dv d0 ∧ ∀ (s : Shared) (ws : List Value), X.K.In s.heap → ws.length = n → BindsTo s fd ⟨[], ks.zip ws⟩ (ps.zip (sel ix ws ++ d0)))
    (hall : (backToKw pos (keywordEach kws X.env)).all (·.1.isSome) = true := by rfl) (hks : (backToKw pos (keywordEach kws X.env)).filterMap (·.1) = ks := by rfl) (hg : Gl X x := by rfl) (hdb : (x == ("__debug__" : Str)) = false := by decide)
    (hpl : ((backTo pos (starEach [] X.env)).any (·.1) || (backToKw pos (keywordEach kws X.env)).any (·.1.isNone)) = false := by rfl) :
    RE X W (.Call (.Name x p) [] kws pos) (eCallK0D g ix dl mk) := by
  refine ⟨fun pins s σ H Q I hh => ?_⟩
  obtain ⟨ρ, oh, sv, rh, rs, h⟩ := hh
  obtain ⟨d0, rd0, hb⟩ := hb
  have h2 := Out.bnd h
  refine wpAny_Call_Name_kw (ld_glob I hg hm ?_ hdb)
  refine PySem.W.callWith_KW0 (h₀ := X.base) I.ok.mod.kin hk hall (thn (hkw.run pos pins s σ H (fun vs H1 => ∃ ρ1 oh1 ds, ds.length = n ∧ RH X.K H1 ρ1 oh1 ∧ RepL X.K H1 ρ1 ds vs ∧ Out X.K X.mg (WE W σ) ρ1 H1 (g (sel ix ds ++ dl) oh1) fun d _ ρ' H' => ∀ v, Rep X.K H' ρ' d v → Q v H') I ⟨ρ, oh, sv, rh, rs, ?_⟩) fun us s1 hh => ?_) hpl
  · cases em : mk sv oh with
    | ok ds oh1 =>
      rw [em] at h2
      exact fun ρ1 H1 L1 rh1 vs rvs => ⟨ρ1, oh1, ds, hlen _ _ _ _ em, rh1, rvs, (h2 ρ1 H1 L1 rh1).2.2⟩
    | exc c w oh1 => rw [em] at h2; exact h2
    | bad => rw [em] at h2; exact h2
  · obtain ⟨vs, H1, I1, r1, ρ1, oh1, ds, hl, rh1, rvs, q⟩ := hh
    refine ⟨I1.kIn, ?_⟩
    rw [hks]
    have hu : us.length = n := by rw [← r1.length, ← rvs.length, hl]
    have hlt : ∀ i ∈ ix, i < n := fun i hi => of_decide_eq_true (List.all_eq_true.mp hix i hi)
    exact finish_call R tk I1 (hb s1 us I1.kIn hu) ((sel_vals r1 ix).append rd0) (by rw [List.length_append, sel_len (by rw [hl]; exact hlt), hip]) rh1 ((sel_rep rvs ix).append (hdl H1 ρ1)) q
theorem rep_i1 (i : Int) : ∀ (K : PySem.W.Frag) (H : Hp) (ρ : List Addr), RepL K H ρ [D.int i] [V.int i] := fun _ _ _ => by
  simp only [RepL, Rep]
  exact ⟨_, _, rfl, rfl, rfl⟩
/-- a def's keyword-only default, a whole number -/
structure Kw1 (K : PySem.W.Frag) (x qual : Str) (sd : Stmt) (q : Str) (i : Int) (fd : FuncData) : Prop where
  ex : ∃ (Dk : Addr) (doc pm : Value) (an : Option Addr) (cdv ct : Value) (tk : Tok), fd = PySem.W.fnOf x qual (defArgs sd) (defBody sd) (defScope sd) .none (.ref Dk) doc pm an cdv ct ∧ PySem.W.nsIn K Dk q = some (some (.int i tk))
end
/-! ### return e.what == k -/
section
variable {X : Cx} {W : WX} {errs : List Str} {i : Nat} {a : Addr} {cls : Value} {d : Option Addr} {oe : Obj} {pn : List (Addr × Obj)} {R fI : Addr} {e : Expr} {pos : Pos}
def tHO (X : Cx) (errs : List Str) (i : Nat) (a : Addr) (cls : Value) (d : Option Addr) (f : Str → D → Option D) : TE := fun σ H Q => ∃ ρ oh c w C dd v, σ[i]? = some (some (.ref a)) ∧ errs.contains c = true ∧ X.mg c = some (.ref C) ∧ cls = .ref C ∧ d = some dd ∧
  H dd = some (.xd [(("what" : Str), v)]) ∧ RH X.K H ρ oh ∧ Rep X.K H ρ w v ∧ match f c w with
    | some y => ∀ ρ' H' u, Later X.K ρ H ρ' H' → RH X.K H' ρ' oh → H' dd = some (.xd [(("what" : Str), v)]) → Rep X.K H' ρ' y u → Q u H'
    | none => False
def wEq (k : Int) : Str → D → Option D := fun _ w => match w with
  | .int z => some (.bl (decide (z = k)))
  | _ => none
theorem heo_eq {n : Str} {p p2 p3 : Pos} {k : Int} {j : Nat} (ER : Errs X R fI errs) (hz : Zc cls d oe) (hf : ∃ vs, oe.data = .fields vs) (hN : X.N[i]? = some n) (hv : Vis X.env.scope n) (hd : (n == ("__debug__" : Str)) = false := by decide) (hcd : (n == ("__classdict__" : Str)) = false := by decide)
    (hb : attributeBase (.Name n p) "what" X.env (eval (.Name n p) X.env) = eval (.Name n p) X.env := by rfl) : PE (X.suite a ((a, oe) :: pn)) (.Compare (.Attribute (.Name n p) "what" p2) [.Eq] [.Constant (.int k) j p3] pos) (tHO X errs i a cls d (wEq k)) :=
  (pe_cmpR op_eq (he_what (pos := p2) ER hz hf hN hv hd hcd hb) pe_int (nomark _)).imp fun σ H Q ⟨ρ, oh, c, w, C, dd, v, h1, h2, h3, h4, h5, h6, rh, rw', q⟩ => by
    cases w with
    | int z =>
      refine ⟨ρ, oh, c, .int z, C, dd, v, h1, h2, h3, h4, h5, h6, rh, rw', fun ρ1 H1 u L1 rh1 e1 r1 => ?_⟩
      simp only [Rep] at r1
      subst r1
      refine ⟨rfl, ?_⟩
      have : decide (V.int z = V.int k) = decide (z = k) := decide_eq_decide.mpr ⟨fun h => by injection h, fun h => by rw [h]⟩
      rw [this]
      exact q ρ1 H1 _ L1 rh1 e1 (by simp [Rep])
    | _ => exact q.elim
theorem cr_retO {f : Str → D → Option D} : CReads X W errs (some i) (fun z cls d => tRet (tHO X errs i z cls d f)) (fun c w s oh => if i < s.length then (match f c w with | some y => .rt y oh | none => .bad) else .bad) := fun z D0 ρ G oh s τ c w C dd v rh rs hc hm hdd rv h => by
  dsimp only at h
  split at h
  · rename_i hi
    refine ⟨ρ, oh, c, w, C, dd, v, List.getElem?_set_self (by rw [← rs.length]; exact hi), hc, hm, rfl, rfl, hdd, rh, rv, ?_⟩
    cases ef : f c w with
    | none => rw [ef] at h; exact h.elim
    | some y =>
      rw [ef] at h
      exact fun ρ2 H2 u L2 rh2 _ ru => h ρ2 H2 u L2 rh2 ru
  · exact h.elim
end
end SK
namespace SK
open PySem PySem.Spec PyProof.Rows L2 SKX LamX
/-! ### the mirrors, turn by turn -/
/-- kept from the simplifier's own steps: a step is proved once and named afterwards -/
theorem nrfl {α : Sort _} {a : α} : a = a := Eq.trans rfl rfl
section
variable {α β : Type} {a : α} {oh oh' : OH} {s s' : Ev} {d d' x y : D} {c : Str} {w : D} {i j : Int} {k n : Nat} {ma mb mc : Ev → M D} {ms : Ev → M (List D)} {ta tb : Ev → M Bool} {p q : P2} {l : List D}
@[simp] theorem z_bok {f : α → OH → R β} : (R.ok a oh).bnd f = f a oh := nrfl
@[simp] theorem z_bex {f : α → OH → R β} : (R.exc c w oh : R α).bnd f = .exc c w oh := nrfl
@[simp] theorem z_bbad {f : α → OH → R β} : (R.bad : R α).bnd f = .bad := nrfl
@[simp] theorem z_sok {f : α → OH → RS} : (R.ok a oh).st s f = f a oh := nrfl
@[simp] theorem z_sex {f : α → OH → RS} : (R.exc c w oh : R α).st s f = .exc c w s oh := nrfl
@[simp] theorem z_sbad {f : α → OH → RS} : (R.bad : R α).st s f = .bad := nrfl
@[simp] theorem z_nx {f : Ev → OH → RS} : (RS.nx s oh).bnd f = f s oh := nrfl
@[simp] theorem z_rt {f : Ev → OH → RS} : (RS.rt d oh).bnd f = .rt d oh := nrfl
@[simp] theorem z_ex {f : Ev → OH → RS} : (RS.exc c w s oh).bnd f = .exc c w s oh := nrfl
@[simp] theorem z_var : eVar k s oh = (match s[k]? with | some (some d) => .ok d oh | _ => .bad) := nrfl
@[simp] theorem z_c : eC d s oh = .ok d oh := nrfl
@[simp] theorem z_e1 {p : P1} : e1 p ma s oh = (ma s oh).bnd fun x oh => lf (p x oh) := nrfl
@[simp] theorem z_e2 : e2 p ma mb s oh = (ma s oh).bnd fun x oh => (mb s oh).bnd fun y oh => lf (p x y oh) := nrfl
@[simp] theorem z_lf : lf (some (d, oh)) = .ok d oh := nrfl
@[simp] theorem z_tb : tB1 ma s oh = (ma s oh).bnd fun d oh => match d with | .bl b => .ok b oh | _ => .bad := nrfl
@[simp] theorem z_tru : tTru ma s oh = (ma s oh).bnd fun d oh => match truD oh d with | some b => .ok b oh | none => .bad := nrfl
@[simp] theorem z_and : tAndD ta tb s oh = (ta s oh).bnd fun c oh => if c then tb s oh else .ok false oh := nrfl
@[simp] theorem z_or : tOrD ta tb s oh = (ta s oh).bnd fun c oh => if c then .ok true oh else tb s oh := nrfl
@[simp] theorem z_not : tNotD ta s oh = (ta s oh).bnd fun c oh => .ok (!c) oh := nrfl
@[simp] theorem z_eif : eIf ta ma mb s oh = (ta s oh).bnd fun c oh => if c then ma s oh else mb s oh := nrfl
@[simp] theorem z_ch : eCh p q ma mb mc s oh = (ma s oh).bnd fun x oh => (mb s oh).bnd fun y oh => (lf (p x y oh)).bnd fun k oh => match k with
  | .bl true => (mc s oh).bnd fun z oh => lf (q y z oh)
  | .bl false => .ok (.bl false) oh
  | _ => .bad := nrfl
@[simp] theorem z_sub : pSub (.int i) (.int j) oh = some (.int (i - j), oh) := nrfl
@[simp] theorem z_lt : pLt (.int i) (.int j) oh = some (.bl (decide (i < j)), oh) := nrfl
@[simp] theorem z_le : pLe (.int i) (.int j) oh = some (.bl (decide (i ≤ j)), oh) := nrfl
@[simp] theorem z_gt : pGt (.int i) (.int j) oh = some (.bl (decide (j < i)), oh) := nrfl
@[simp] theorem z_ge : pGe (.int i) (.int j) oh = some (.bl (decide (j ≤ i)), oh) := nrfl
@[simp] theorem z_add : pAdd (.int i) (.int j) oh = some (.int (i + j), oh) := nrfl
theorem z_addl {a b : Nat} {l m : List D} (h1 : oh[a]? = some (.lst l)) (h2 : oh[b]? = some (.lst m)) (hl : l.length + m.length ≤ sizeLine) : pAdd (.ref a) (.ref b) oh = some (.ref oh.length, oh ++ [.lst (l ++ m)]) := by
  simp only [pAdd, h1, h2, if_pos hl]
theorem z_mull0 {a : Nat} {l : List D} {k : Int} (h1 : oh[a]? = some (.lst l)) (h2 : 0 ≤ k ∧ k < 2 ^ 20) (hl : l.length * k.toNat ≤ sizeLine) : pMul (.ref a) (.int k) oh = some (.ref oh.length, oh ++ [.lst (List.replicate k.toNat l).flatten]) := by
  simp only [pMul, h1]
  rw [if_pos ⟨by omega, by omega, hl⟩]
@[simp] theorem z_neg : pNeg (.int i) oh = some (.int (-i), oh) := nrfl
theorem z_mod (h : 0 < j) : pMod (.int i) (.int j) oh = some (.int (i % j), oh) := by
  show Option.map _ (if 0 < j then some (D.int (i % j)) else none) = _
  rw [if_pos h]; rfl
theorem log_lt {j : Int} (h : 0 < j) (h2 : j < 2 ^ 64) : j.natAbs.log2 < 9000 := by
  have : j.natAbs.log2 < 64 := (Nat.log2_lt (by omega)).mpr (by omega)
  omega
theorem z_div (h : 0 < j) (h2 : j < 2 ^ 64) : pDiv (.int i) (.int j) oh = some (.int (i / j), oh) := by
  show Option.map _ (if 0 < j ∧ j.natAbs.log2 < 9000 then some (D.int (i / j)) else none) = _
  rw [if_pos ⟨h, log_lt h h2⟩]; rfl
theorem z_mul (h : mulOk i j = true) : pMul (.int i) (.int j) oh = some (.int (i * j), oh) := by
  show (if mulOk i j = true then some (D.int (i * j), oh) else none) = _
  rw [if_pos h]
theorem mul_l (h : -(2 ^ 64) < i) (h' : i < 2 ^ 64) : mulOk i j = true := by
  unfold mulOk
  simp only [decide_eq_true h, decide_eq_true h', Bool.and_true, Bool.or_true, Bool.true_or]
theorem mul_r (h : -(2 ^ 64) < j) (h' : j < 2 ^ 64) : mulOk i j = true := by
  unfold mulOk
  simp only [decide_eq_true h, decide_eq_true h', Bool.and_true, Bool.or_true, Bool.true_or]
theorem z_mull (h : -(2 ^ 64) < i) (h' : i < 2 ^ 64) : pMul (.int i) (.int j) oh = some (.int (i * j), oh) := z_mul (mul_l h h')
theorem z_mulr (h : -(2 ^ 64) < j) (h' : j < 2 ^ 64) : pMul (.int i) (.int j) oh = some (.int (i * j), oh) := z_mul (mul_r h h')
@[simp] theorem z_eqi : pEq (.int i) (.int j) oh = some (.bl (decide (i = j)), oh) := nrfl
@[simp] theorem z_nei : pNe (.int i) (.int j) oh = some (.bl (!decide (i = j)), oh) := nrfl
@[simp] theorem z_eqs {t u : Str} : pEq (.str t) (.str u) oh = some (.bl (decide (t = u)), oh) := nrfl
@[simp] theorem z_nes {t u : Str} : pNe (.str t) (.str u) oh = some (.bl (!decide (t = u)), oh) := nrfl
@[simp] theorem z_nil : aNil s oh = .ok [] oh := nrfl
@[simp] theorem z_cons : aCons ma ms s oh = (ma s oh).bnd fun x oh => (ms s oh).bnd fun xs oh => .ok (x :: xs) oh := nrfl
theorem z_eandT {b : Bool} (h : ma s oh = .ok (.bl b) oh') : eAndD ma mb s oh = if b then mb s oh' else .ok (.bl b) oh' := by
  unfold eAndD
  rw [h]
  cases b <;> rfl
theorem z_eorT {b : Bool} (h : ma s oh = .ok (.bl b) oh') : eOrD ma mb s oh = if b then .ok (.bl b) oh' else mb s oh' := by
  unfold eOrD
  rw [h]
  cases b <;> rfl
theorem z_isB {T : String} {b : Bool} (h : ma s oh = .ok d oh') (h2 : isD oh' T d = some b) : eIsB T ma s oh = .ok (.bl b) oh' := by
  unfold eIsB
  rw [h]
  show (match isD oh' T d with | some b => R.ok (D.bl b) oh' | none => .bad) = _
  rw [h2]
@[simp] theorem z_notv {b : Bool} : pNot (.bl b) oh = some (.bl (!b), oh) := nrfl
theorem is_int (oh : OH) (i : Int) : isD oh "int" (.int i) = some true := by
  show kitB "int" "int" = some true
  decide +kernel
theorem is_intb (oh : OH) (i : Int) : isD oh "bool" (.int i) = some false := by
  show kitB "int" "bool" = some false
  decide +kernel
@[simp] theorem z_tup : eTup ms s oh = (ms s oh).bnd fun ds oh => if ds.length ≤ sizeLine then .ok (.tup ds) oh else .bad := nrfl
@[simp] theorem z_lst : eLst ms s oh = (ms s oh).bnd fun ds oh => if ds.length ≤ sizeLine then .ok (.ref oh.length) (oh ++ [.lst ds]) else .bad := nrfl
@[simp] theorem z_cb {p : PL} : eCB p ms s oh = (ms s oh).bnd fun ds oh => lf (p ds oh) := nrfl
@[simp] theorem z_int : bInt [.int i] oh = some (.int i, oh) := nrfl
@[simp] theorem z_intb {b : Bool} : bInt [.bl b] oh = some (.int (if b then 1 else 0), oh) := nrfl
@[simp] theorem z_max : bMax2 [.int i, .int j] oh = some (.int (if j > i then j else i), oh) := nrfl
@[simp] theorem z_min : bMin2 [.int i, .int j] oh = some (.int (if j < i then j else i), oh) := nrfl
@[simp] theorem z_abs : bAbs [.int i] oh = some (.int (if i < 0 then -i else i), oh) := nrfl
theorem z_len (h : itemsOf oh d = some l) : bLen [d] oh = some (.int l.length, oh) := by
  unfold bLen
  split
  · rename_i e
    cases e
    cases h
  · rename_i d' _ e
    cases e
    rw [h]; rfl
  · rename_i h1 h2
    exact absurd rfl (h2 d)
@[simp] theorem z_itt : itemsOf oh (.tup l) = some l := nrfl
theorem z_itl (h : oh[n]? = some (.lst l)) : itemsOf oh (.ref n) = some l := by simp only [itemsOf, h]
theorem z_itr (h : oh[n]? = some (.ro l)) : itemsOf oh (.ref n) = some l := by simp only [itemsOf, h]
theorem z_ix (h : itemsOf oh x = some l) (h0 : 0 ≤ i) (h1 : i < l.length) : ∃ d, l[i.toNat]? = some d ∧ pIx x (.int i) oh = some (d, oh) := by
  have hlt : i.toNat < l.length := by omega
  refine ⟨l[i.toNat], List.getElem?_eq_getElem hlt, ?_⟩
  cases x with
  | str z => cases h
  | _ => simp only [pIx, h, atI, ixN, if_pos h0, if_pos h1, Option.bind_some, List.getElem?_eq_getElem hlt, Option.map_some]
theorem z_ixd (h : itemsOf oh x = some l) (h0 : 0 ≤ i) (h1 : l[i.toNat]? = some d) : pIx x (.int i) oh = some (d, oh) := by
  have hlt := (List.getElem?_eq_some_iff.mp h1).1
  obtain ⟨e, h2, h3⟩ := z_ix (oh := oh) (i := i) h h0 (by omega)
  rw [h1] at h2
  cases h2
  exact h3
@[simp] theorem z_call {f : Fn} : eCall f ms s oh = (ms s oh).bnd fun ds oh => f ds oh := nrfl
@[simp] theorem z_skip : sSkip s oh = .nx s oh := nrfl
@[simp] theorem z_seq {a b : SM} : sSeq a b s oh = (a s oh).bnd b := nrfl
@[simp] theorem z_expr : sExpr ma s oh = (ma s oh).st s fun _ oh => .nx s oh := nrfl
@[simp] theorem z_ret : sRet ma s oh = (ma s oh).st s fun d oh => .rt d oh := nrfl
@[simp] theorem z_retn : sRetN s oh = .rt .non oh := nrfl
@[simp] theorem z_set : sSet k ma s oh = (ma s oh).st s fun d oh => .nx (s.set k (some d)) oh := nrfl
@[simp] theorem z_if {a b : SM} : sIf ta a b s oh = (ta s oh).st s fun c oh => if c then a s oh else b s oh := nrfl
@[simp] theorem z_raise : sRaise c ma s oh = (ma s oh).st s fun d oh => .exc c d s oh := nrfl
@[simp] theorem z_gn : SK.gN k d s oh = some (s.set k (some d), oh) := nrfl
@[simp] theorem z_gnil : SK.gNil [] s oh = some (s, oh) := nrfl
@[simp] theorem z_gcons {g : GM} {gs : GMs} {ds : List D} : SK.gCons g gs (d :: ds) s oh = (match g d s oh with | some (s, oh) => gs ds s oh | none => none) := nrfl
@[simp] theorem z_gttt {gs : GMs} : gTt k gs (.tup l) s oh = if l.length = k then gs l s oh else none := nrfl
@[simp] theorem z_gtt {gs : GMs} : gT k gs (.tup l) s oh = if l.length = k then gs l s oh else none := nrfl
@[simp] theorem z_asg {g : GM} : sAsg ma g s oh = (ma s oh).st s fun d oh => match g d s oh with | some (s, oh) => .nx s oh | none => .bad := nrfl
@[simp] theorem z_par {i j : Nat} : sPar2 i j ms s oh = (ms s oh).st s fun ds oh => match ds with
  | [d, d'] => .nx ((s.set i (some d)).set j (some d')) oh
  | _ => .bad := nrfl
@[simp] theorem z_gsub : gSub ma mb d s oh = (match ma s oh with
  | .ok o oh => match mb s oh with
    | .ok i oh => (pSetI o i d oh).map fun oh => (s, oh)
    | _ => none
  | _ => none) := nrfl
theorem z_seti (h : oh[n]? = some (.lst l)) (h0 : 0 ≤ i) (h1 : i < l.length) : pSetI (.ref n) (.int i) d oh = some (oh.set n (.lst (l.set i.toNat d))) := by
  unfold pSetI
  simp only [h]
  unfold ixN
  rw [if_pos h0, if_pos h1]
  rfl
@[simp] theorem z_ival : iVal ma s oh = (ma s oh).bnd fun d oh => .ok (.val d) oh := nrfl
theorem z_r1 (h : (ms s oh) = .ok [.int j] oh') (h1 : -(2 ^ 62) ≤ j) (h2 : j < 2 ^ 62) : iRange1 ms s oh = .ok (.rng 0 j.toNat) oh' := by
  unfold iRange1
  rw [h]
  show (if -(2 ^ 62) ≤ j ∧ j < 2 ^ 62 then (R.ok (Src.rng 0 j.toNat) oh') else .bad) = _
  rw [if_pos ⟨h1, h2⟩]
theorem z_r2 (h : (ms s oh) = .ok [.int i, .int j] oh') (h1 : -(2 ^ 62) ≤ i) (h2 : i < 2 ^ 62) (h3 : -(2 ^ 62) ≤ j) (h4 : j < 2 ^ 62) : iRange2 ms s oh = .ok (.rng i (j - i).toNat) oh' := by
  unfold iRange2
  rw [h]
  show (if -(2 ^ 62) ≤ i ∧ i < 2 ^ 62 ∧ -(2 ^ 62) ≤ j ∧ j < 2 ^ 62 then (R.ok (Src.rng i (j - i).toNat) oh') else .bad) = _
  rw [if_pos ⟨h1, h2, h3, h4⟩]
@[simp] theorem z_fn {body : SM} {ds : List D} : mkFn n body ds oh = (match body (ds.map some ++ List.replicate (n - ds.length) none) oh with
  | .nx _ oh => .ok .non oh
  | .rt d oh => .ok d oh
  | .exc c w _ oh => .exc c w oh
  | _ => .bad) := nrfl
@[simp] theorem z_yes : tYesD s oh = .ok true oh := nrfl
@[simp] theorem z_onone : oNone s oh = .ok none oh := nrfl
@[simp] theorem z_osome : oSome ma s oh = (ma s oh).bnd fun d oh => match d with | .int i => .ok (some i) oh | _ => .bad := nrfl
@[simp] theorem z_sl {ml mu : Ev → M (Option Int)} : eSl ma ml mu s oh = (ma s oh).bnd fun d oh => (ml s oh).bnd fun lo oh => (mu s oh).bnd fun hi oh => lf (pSl d lo hi oh) := nrfl
@[simp] theorem z_k0 {g : Fn} {ix : List Nat} : eCallK0 g ix ms s oh = (ms s oh).bnd fun zs oh => g (sel ix zs) oh := nrfl
theorem z_reprI (h : i.natAbs.log2 < 1920) : bRepr [.int i] oh = some (.str (PyData.int i).shown, oh) := by
  show (if i.natAbs.log2 < 1920 then some ((PyData.int i).shown) else none).map _ = _
  rw [if_pos h]; rfl
/-- loops -/
theorem z_for {m : Ev → M Src} {g : GM} {body : SM} : sFor m g body s oh = (m s oh).st s fun src oh => match src with
  | .rng lo n => loopT g body ((List.range n).map fun (i : Nat) => D.int (lo + (i : Int))) s oh
  | .stp lo c n => loopT g body ((List.range n).map fun (i : Nat) => D.int (lo + (i : Int) * c)) s oh
  | .val (.tup l) => loopT g body l s oh
  | .val (.ref k) => match itemsOf oh (.ref k) with
    | some l => loopR g body k (l.length + 1) 0 s oh
    | none => .bad
  | .val _ => .bad := nrfl
end
theorem loopT_ind {g : GM} {body : SM} (I : List D → Ev → OH → Prop) (step : ∀ d r s oh, I (d :: r) s oh → ∃ s1 oh1, g d s oh = some (s1, oh1) ∧ ∃ s2 oh2, body s1 oh1 = .nx s2 oh2 ∧ I r s2 oh2) :
    ∀ (l : List D) (s : Ev) (oh : OH), I l s oh → ∃ s' oh', loopT g body l s oh = .nx s' oh' ∧ I [] s' oh'
  | [], s, oh, h => ⟨s, oh, rfl, h⟩
  | d :: r, s, oh, h => by
    obtain ⟨s1, oh1, e1, s2, oh2, e2, h2⟩ := step d r s oh h
    obtain ⟨s', oh', e, h'⟩ := loopT_ind I step r s2 oh2 h2
    refine ⟨s', oh', ?_, h'⟩
    simp only [loopT, e1, e2]
    exact e
/-- over a range: the turn's number -/
theorem loopN_ind {g : GM} {body : SM} {lo : Int} {n : Nat} (I : Nat → Ev → OH → Prop) (step : ∀ (i : Nat) s oh, i < n → I i s oh → ∃ s1 oh1, g (.int (lo + (i : Int))) s oh = some (s1, oh1) ∧ ∃ s2 oh2, body s1 oh1 = .nx s2 oh2 ∧ I (i + 1) s2 oh2)
    {s : Ev} {oh : OH} (h : I 0 s oh) : ∃ s' oh', loopT g body ((List.range n).map fun (i : Nat) => D.int (lo + (i : Int))) s oh = .nx s' oh' ∧ I n s' oh' := by
  have key := loopT_ind (g := g) (body := body) (fun l s oh => ∃ j, j ≤ n ∧ l = ((List.range n).map fun (i : Nat) => D.int (lo + (i : Int))).drop j ∧ I j s oh) (fun d r s oh ⟨j, hj, e, hI⟩ => by
    have hlt : j < n := by
      rcases Nat.lt_or_ge j n with h | h
      · exact h
      · rw [List.drop_eq_nil_of_le (by simp; exact h)] at e
        cases e
    rw [List.drop_eq_getElem_cons (by simp; exact hlt)] at e
    simp only [List.getElem_map, List.getElem_range] at e
    cases e
    obtain ⟨s1, oh1, e1, s2, oh2, e2, h2⟩ := step j s oh hlt hI
    exact ⟨s1, oh1, e1, s2, oh2, e2, j + 1, hlt, rfl, h2⟩) _ s oh ⟨0, Nat.zero_le _, rfl, h⟩
  obtain ⟨s', oh', e, j, hj, e2, hI⟩ := key
  have : j = n := by
    have := congrArg List.length e2
    simp at this
    omega
  subst this
  exact ⟨s', oh', e, hI⟩
theorem loopR_ind {g : GM} {body : SM} {k : Nat} {l : List D} (I : List D → Ev → OH → Prop) (hl : ∀ r s oh, I r s oh → itemsOf oh (.ref k) = some l) (step : ∀ d r s oh, I (d :: r) s oh → ∃ s1 oh1, g d s oh = some (s1, oh1) ∧ ∃ s2 oh2, body s1 oh1 = .nx s2 oh2 ∧ I r s2 oh2) :
    ∀ (f i : Nat) (s : Ev) (oh : OH), l.length < f + i → i ≤ l.length → I (l.drop i) s oh → ∃ s' oh', loopR g body k f i s oh = .nx s' oh' ∧ I [] s' oh'
  | 0, i, s, oh, hf, hi, h => absurd hf (by omega)
  | f + 1, i, s, oh, hf, hi, h => by
    unfold loopR
    rw [hl _ _ _ h]
    rcases Nat.lt_or_ge i l.length with hlt | hge
    · rw [List.drop_eq_getElem_cons hlt] at h
      obtain ⟨s1, oh1, e1, s2, oh2, e2, h2⟩ := step _ _ s oh h
      obtain ⟨s', oh', e, h'⟩ := loopR_ind I hl step f (i + 1) s2 oh2 (by omega) hlt h2
      refine ⟨s', oh', ?_, h'⟩
      simp only [List.getElem?_eq_getElem hlt, e1, e2]
      exact e
    · rw [List.drop_eq_nil_of_le hge] at h
      exact ⟨s, oh, by simp only [List.getElem?_eq_none hge], h⟩
theorem forR_ind {m : Ev → M Src} {g : GM} {body : SM} {k : Nat} {l : List D} {s : Ev} {oh oh1 : OH} (hm : m s oh = .ok (.val (.ref k)) oh1) (I : List D → Ev → OH → Prop) (hl : ∀ r s oh, I r s oh → itemsOf oh (.ref k) = some l) (step : ∀ d r s oh, I (d :: r) s oh → ∃ s1 oh1, g d s oh = some (s1, oh1) ∧ ∃ s2 oh2, body s1 oh1 = .nx s2 oh2 ∧ I r s2 oh2)
    (h : I l s oh1) : ∃ s' oh', sFor m g body s oh = .nx s' oh' ∧ I [] s' oh' := by
  obtain ⟨s', oh', e, h'⟩ := loopR_ind I hl step (l.length + 1) 0 s oh1 (by omega) (Nat.zero_le _) h
  refine ⟨s', oh', ?_, h'⟩
  unfold sFor
  rw [hm]
  simp only [z_sok, hl _ _ _ h]
  exact e
theorem forN_ind {m : Ev → M Src} {g : GM} {body : SM} {lo : Int} {n : Nat} {s : Ev} {oh oh1 : OH} (hm : m s oh = .ok (.rng lo n) oh1) (I : Nat → Ev → OH → Prop) (h : I 0 s oh1)
    (step : ∀ (i : Nat) s oh, i < n → I i s oh → ∃ s1 oh1, g (.int (lo + (i : Int))) s oh = some (s1, oh1) ∧ ∃ s2 oh2, body s1 oh1 = .nx s2 oh2 ∧ I (i + 1) s2 oh2) : ∃ s' oh', sFor m g body s oh = .nx s' oh' ∧ I n s' oh' := by
  obtain ⟨s', oh', e, h'⟩ := loopN_ind I step h
  refine ⟨s', oh', ?_, h'⟩
  unfold sFor
  rw [hm]
  exact e
/-- list comprehensions -/
def CStep (n : Nat) (g : GM) (t : Ev → M Bool) (el : Ev → M D) (s : Ev) (I : List D → List D → OH → Prop) (d : D) (r acc : List D) (oh : OH) : Prop :=
  ∃ s1 oh1, g d s oh = some (s1, oh1) ∧ ∃ b oh2, t s1 oh1 = .ok b oh2 ∧ ((b = false ∧ I r acc oh2) ∨ (b = true ∧ ∃ y oh3, el s1 oh2 = .ok y oh3 ∧ oh3[n]? = some (.lst acc) ∧ acc.length < sizeLine ∧ I r (acc ++ [y]) (oh3.set n (.lst (acc ++ [y])))))
theorem compT_ind {n : Nat} {g : GM} {t : Ev → M Bool} {el : Ev → M D} {s : Ev} (I : List D → List D → OH → Prop) (step : ∀ d r acc oh, I (d :: r) acc oh → CStep n g t el s I d r acc oh) :
    ∀ (l acc : List D) (oh : OH), I l acc oh → ∃ oh' acc', compT n g t el s l oh = some oh' ∧ I [] acc' oh'
  | [], acc, oh, h => ⟨oh, acc, rfl, h⟩
  | d :: r, acc, oh, h => by
    obtain ⟨s1, oh1, e1, b, oh2, e2, ⟨rfl, hI⟩ | ⟨rfl, y, oh3, e3, e4, e5, hI⟩⟩ := step d r acc oh h
    · obtain ⟨oh', acc', e, h'⟩ := compT_ind I step r acc oh2 hI
      refine ⟨oh', acc', ?_, h'⟩
      simp only [compT, e1, e2]
      exact e
    · obtain ⟨oh', acc', e, h'⟩ := compT_ind I step r _ _ hI
      refine ⟨oh', acc', ?_, h'⟩
      simp only [compT, e1, e2, e3, e4, if_pos e5]
      exact e
theorem compR_ind {n k : Nat} {l : List D} {g : GM} {t : Ev → M Bool} {el : Ev → M D} {s : Ev} (I : List D → List D → OH → Prop) (hl : ∀ r acc oh, I r acc oh → itemsOf oh (.ref k) = some l) (step : ∀ d r acc oh, I (d :: r) acc oh → CStep n g t el s I d r acc oh) :
    ∀ (f i : Nat) (acc : List D) (oh : OH), l.length < f + i → i ≤ l.length → I (l.drop i) acc oh → ∃ oh' acc', compR n k g t el s f i oh = some oh' ∧ I [] acc' oh'
  | 0, i, acc, oh, hf, hi, h => absurd hf (by omega)
  | f + 1, i, acc, oh, hf, hi, h => by
    unfold compR
    rw [hl _ _ _ h]
    rcases Nat.lt_or_ge i l.length with hlt | hge
    · rw [List.drop_eq_getElem_cons hlt] at h
      obtain ⟨s1, oh1, e1, b, oh2, e2, ⟨rfl, hI⟩ | ⟨rfl, y, oh3, e3, e4, e5, hI⟩⟩ := step _ _ acc oh h
      · obtain ⟨oh', acc', e, h'⟩ := compR_ind I hl step f (i + 1) acc oh2 (by omega) hlt hI
        refine ⟨oh', acc', ?_, h'⟩
        simp only [List.getElem?_eq_getElem hlt, e1, e2]
        exact e
      · obtain ⟨oh', acc', e, h'⟩ := compR_ind I hl step f (i + 1) _ _ (by omega) hlt hI
        refine ⟨oh', acc', ?_, h'⟩
        simp only [List.getElem?_eq_getElem hlt, e1, e2, e3, e4, if_pos e5]
        exact e
    · rw [List.drop_eq_nil_of_le hge] at h
      exact ⟨oh, acc, by simp only [List.getElem?_eq_none hge], h⟩
/-- the heap only grows -/
def Up (oh oh' : OH) : Prop := ∀ (k : Nat) (c : Cell), oh[k]? = some c → oh'[k]? = some c
theorem Up.refl (oh : OH) : Up oh oh := fun _ _ h => h
theorem Up.trans {a b c : OH} (h : Up a b) (h2 : Up b c) : Up a c := fun k x e => h2 k x (h k x e)
theorem Up.app (oh g : OH) : Up oh (oh ++ g) := fun k c e => by
  rw [List.getElem?_append_left (List.getElem?_eq_some_iff.mp e).1]
  exact e
theorem Up.set {a b : OH} {n : Nat} {c : Cell} (h : Up a b) (hn : a.length ≤ n) : Up a (b.set n c) := fun k x e => by
  have := (List.getElem?_eq_some_iff.mp e).1
  rw [List.getElem?_set_ne (by omega)]
  exact h k x e
theorem Up.len {a b : OH} (h : Up a b) : a.length ≤ b.length := by
  rcases Nat.eq_zero_or_pos a.length with e | e
  · omega
  · have hl : a.length - 1 < a.length := by omega
    have := h (a.length - 1) _ (List.getElem?_eq_getElem hl)
    have := (List.getElem?_eq_some_iff.mp this).1
    omega
@[simp] theorem get_new (oh : OH) (c : Cell) : (oh ++ [c])[oh.length]? = some c := by simp
theorem get_set {oh : OH} {n : Nat} {c c' : Cell} (h : oh[n]? = some c) : (oh.set n c')[n]? = some c' := by
  rw [List.getElem?_set_self (List.getElem?_eq_some_iff.mp h).1]
/-- comprehensions, whole -/
theorem lcN_ind {mi : Ev → M Src} {g : GM} {t : Ev → M Bool} {el : Ev → M D} {vs : List Nat} {s : Ev} {oh oh1 : OH} {lo : Int} {k : Nat} (hm : mi s oh = .ok (.rng lo k) oh1) (I : List D → List D → OH → Prop)
    (h : I ((List.range k).map fun (i : Nat) => D.int (lo + (i : Int))) [] (oh1 ++ [.lst []])) (step : ∀ d r acc oh, I (d :: r) acc oh → CStep oh1.length g t el (wipeE s vs) I d r acc oh) :
    ∃ oh' acc', eLc mi g t el vs s oh = .ok (.ref oh1.length) oh' ∧ I [] acc' oh' := by
  obtain ⟨oh', acc', e, h'⟩ := compT_ind I step _ _ _ h
  refine ⟨oh', acc', ?_, h'⟩
  unfold eLc
  rw [hm]
  simp only [z_bok, e]
  rfl
theorem lcT_ind {mi : Ev → M Src} {g : GM} {t : Ev → M Bool} {el : Ev → M D} {vs : List Nat} {s : Ev} {oh oh1 : OH} {l : List D} (hm : mi s oh = .ok (.val (.tup l)) oh1) (I : List D → List D → OH → Prop)
    (h : I l [] (oh1 ++ [.lst []])) (step : ∀ d r acc oh, I (d :: r) acc oh → CStep oh1.length g t el (wipeE s vs) I d r acc oh) :
    ∃ oh' acc', eLc mi g t el vs s oh = .ok (.ref oh1.length) oh' ∧ I [] acc' oh' := by
  obtain ⟨oh', acc', e, h'⟩ := compT_ind I step _ _ _ h
  refine ⟨oh', acc', ?_, h'⟩
  unfold eLc
  rw [hm]
  simp only [z_bok, e]
  rfl
theorem lcR_ind {mi : Ev → M Src} {g : GM} {t : Ev → M Bool} {el : Ev → M D} {vs : List Nat} {s : Ev} {oh oh1 : OH} {k : Nat} {l : List D} (hm : mi s oh = .ok (.val (.ref k)) oh1) (hk : itemsOf oh1 (.ref k) = some l) (I : List D → List D → OH → Prop) (hl : ∀ r acc oh, I r acc oh → itemsOf oh (.ref k) = some l)
    (h : I l [] (oh1 ++ [.lst []])) (step : ∀ d r acc oh, I (d :: r) acc oh → CStep oh1.length g t el (wipeE s vs) I d r acc oh) :
    ∃ oh' acc', eLc mi g t el vs s oh = .ok (.ref oh1.length) oh' ∧ I [] acc' oh' := by
  obtain ⟨oh', acc', e, h'⟩ := compR_ind I hl step (l.length + 1) 0 _ _ (by omega) (Nat.zero_le _) h
  refine ⟨oh', acc', ?_, h'⟩
  unfold eLc
  rw [hm]
  simp only [z_bok, hk, e]
  rfl
theorem size_lt {n : Nat} (h : n ≤ 2 ^ 20) : n < sizeLine := by unfold sizeLine; omega
theorem size_le {n : Nat} (h : n ≤ 2 ^ 20) : n ≤ sizeLine := Nat.le_of_lt (size_lt h)
/-- all elements told at once: sources with filter, no new object made by the element -/
def CPure (g : GM) (t : Ev → M Bool) (el : Ev → M D) (s : Ev) (oh1 : OH) (P : D → Bool) (f : D → D) (d : D) : Prop := ∀ o, Up oh1 o → ∃ s1, g d s o = some (s1, o) ∧ t s1 o = .ok (P d) o ∧ (P d = true → el s1 o = .ok (f d) o)
theorem cpure_step {g : GM} {t : Ev → M Bool} {el : Ev → M D} {s : Ev} {oh1 : OH} {P : D → Bool} {f : D → D} {L : List D} (hL : L.length ≤ 2 ^ 20) (hp : ∀ d ∈ L, CPure g t el s oh1 P f d) (d : D) (r acc : List D) (o : OH)
    (h : ∃ a, L = a ++ (d :: r) ∧ acc = (a.filter P).map f ∧ Up oh1 o ∧ o[oh1.length]? = some (.lst acc)) :
    CStep oh1.length g t el s (fun rest acc o => ∃ a, L = a ++ rest ∧ acc = (a.filter P).map f ∧ Up oh1 o ∧ o[oh1.length]? = some (.lst acc)) d r acc o := by
  obtain ⟨a, e1, e2, hup, hn⟩ := h
  obtain ⟨s1, h1, h2, h3⟩ := hp d (by rw [e1]; simp) o hup
  refine ⟨s1, o, h1, P d, o, h2, ?_⟩
  cases hd : P d with
  | false => exact .inl ⟨rfl, a ++ [d], by simp [e1], by simp [e2, List.filter_append, hd], hup, hn⟩
  | true =>
    refine .inr ⟨rfl, f d, o, h3 hd, hn, ?_, a ++ [d], by simp [e1], by simp [e2, List.filter_append, hd], hup.set (Nat.le_refl _), get_set hn⟩
    refine size_lt (Nat.le_trans ?_ hL)
    rw [e1, e2, List.length_map, List.length_append]
    have := List.length_filter_le P a
    omega
theorem lcT_pure {mi : Ev → M Src} {g : GM} {t : Ev → M Bool} {el : Ev → M D} {vs : List Nat} {s : Ev} {oh oh1 : OH} {l : List D} (P : D → Bool) (f : D → D) (hm : mi s oh = .ok (.val (.tup l)) oh1) (hl : l.length ≤ 2 ^ 20) (hp : ∀ d ∈ l, CPure g t el (wipeE s vs) oh1 P f d) :
    ∃ oh', eLc mi g t el vs s oh = .ok (.ref oh1.length) oh' ∧ Up oh1 oh' ∧ oh'[oh1.length]? = some (.lst ((l.filter P).map f)) := by
  obtain ⟨oh', acc', e, a, e1, e2, hup, hn⟩ := lcT_ind hm (fun rest acc o => ∃ a, l = a ++ rest ∧ acc = (a.filter P).map f ∧ Up oh1 o ∧ o[oh1.length]? = some (.lst acc)) ⟨[], rfl, rfl, Up.app _ _, by simp⟩ (cpure_step hl hp)
  rw [List.append_nil] at e1
  subst e1; subst e2
  exact ⟨oh', e, hup, hn⟩
theorem lcR_pure {mi : Ev → M Src} {g : GM} {t : Ev → M Bool} {el : Ev → M D} {vs : List Nat} {s : Ev} {oh oh1 : OH} {k : Nat} {l : List D} (P : D → Bool) (f : D → D) (hm : mi s oh = .ok (.val (.ref k)) oh1) (hk : itemsOf oh1 (.ref k) = some l) (hl : l.length ≤ 2 ^ 20) (hp : ∀ d ∈ l, CPure g t el (wipeE s vs) oh1 P f d) :
    ∃ oh', eLc mi g t el vs s oh = .ok (.ref oh1.length) oh' ∧ Up oh1 oh' ∧ oh'[oh1.length]? = some (.lst ((l.filter P).map f)) := by
  have hit : ∀ o, Up oh1 o → itemsOf o (.ref k) = some l := fun o u => by
    simp only [itemsOf] at hk ⊢
    cases h : oh1[k]? with
    | none => rw [h] at hk; cases hk
    | some c =>
      rw [h] at hk
      rw [u _ _ h]
      exact hk
  obtain ⟨oh', acc', e, a, e1, e2, hup, hn⟩ := lcR_ind hm hk (fun rest acc o => ∃ a, l = a ++ rest ∧ acc = (a.filter P).map f ∧ Up oh1 o ∧ o[oh1.length]? = some (.lst acc)) (fun r acc o ⟨_, _, _, u, _⟩ => hit o u) ⟨[], rfl, rfl, Up.app _ _, by simp⟩ (cpure_step hl hp)
  rw [List.append_nil] at e1
  subst e1; subst e2
  exact ⟨oh', e, hup, hn⟩
theorem lcN_pure {mi : Ev → M Src} {g : GM} {t : Ev → M Bool} {el : Ev → M D} {vs : List Nat} {s : Ev} {oh oh1 : OH} {lo : Int} {k : Nat} (P : D → Bool) (f : D → D) (hm : mi s oh = .ok (.rng lo k) oh1) (hl : k ≤ 2 ^ 20) (hp : ∀ i : Nat, i < k → CPure g t el (wipeE s vs) oh1 P f (.int (lo + (i : Int)))) :
    ∃ oh', eLc mi g t el vs s oh = .ok (.ref oh1.length) oh' ∧ Up oh1 oh' ∧ oh'[oh1.length]? = some (.lst ((((List.range k).map fun (i : Nat) => D.int (lo + (i : Int))).filter P).map f)) := by
  obtain ⟨oh', acc', e, a, e1, e2, hup, hn⟩ := lcN_ind hm (fun rest acc o => ∃ a, ((List.range k).map fun (i : Nat) => D.int (lo + (i : Int))) = a ++ rest ∧ acc = (a.filter P).map f ∧ Up oh1 o ∧ o[oh1.length]? = some (.lst acc)) ⟨[], rfl, rfl, Up.app _ _, by simp⟩
    (cpure_step (by simpa using hl) (fun d hd => by
      obtain ⟨i, hi, rfl⟩ := List.mem_map.mp hd
      exact hp i (List.mem_range.mp hi)))
  rw [List.append_nil] at e1
  subst e1; subst e2
  exact ⟨oh', e, hup, hn⟩
/-- the element may make new objects: what it tells stands as long as nothing but the own list changes -/
def UpX (n : Nat) (oh oh' : OH) : Prop := ∀ (k : Nat) (c : Cell), k ≠ n → oh[k]? = some c → oh'[k]? = some c
theorem Up.upx {n : Nat} {a b : OH} (h : Up a b) : UpX n a b := fun k c _ e => h k c e
theorem UpX.trans {n : Nat} {a b c : OH} (h : UpX n a b) (h2 : UpX n b c) : UpX n a c := fun k x hk e => h2 k x hk (h k x hk e)
theorem UpX.of_set {n : Nat} {a : OH} {c : Cell} : UpX n a (a.set n c) := fun k x hk e => by
  rw [List.getElem?_set_ne (Ne.symm hk)]
  exact e
theorem Up.of_x {n : Nat} {a b : OH} (h : UpX n a b) (hn : a.length ≤ n) : Up a b := fun k x e => h k x (by
  have := (List.getElem?_eq_some_iff.mp e).1
  omega) e
inductive All2 {α β : Type} (Y : α → β → Prop) : List α → List β → Prop
  | nil : All2 Y [] []
  | cons {a : α} {b : β} {as : List α} {bs : List β} : Y a b → All2 Y as bs → All2 Y (a :: as) (b :: bs)
theorem All2.imp {α β : Type} {Y Z : α → β → Prop} (h : ∀ a b, Y a b → Z a b) : ∀ {as : List α} {bs : List β}, All2 Y as bs → All2 Z as bs
  | _, _, .nil => .nil
  | _, _, .cons y r => .cons (h _ _ y) (All2.imp h r)
theorem All2.app {α β : Type} {Y : α → β → Prop} : ∀ {as : List α} {bs : List β} {as' : List α} {bs' : List β}, All2 Y as bs → All2 Y as' bs' → All2 Y (as ++ as') (bs ++ bs')
  | _, _, _, _, .nil, h => h
  | _, _, _, _, .cons y r, h => .cons y (All2.app r h)
theorem All2.len {α β : Type} {Y : α → β → Prop} : ∀ {as : List α} {bs : List β}, All2 Y as bs → as.length = bs.length
  | _, _, .nil => rfl
  | _, _, .cons _ r => congrArg Nat.succ r.len
/-- no filter; a row stands for each element of the source -/
def CMake {β : Type} (g : GM) (t : Ev → M Bool) (el : Ev → M D) (s : Ev) (oh1 : OH) (Y : OH → D → β → Prop) (Z : OH → D → β → Prop) (d : D) (b : β) : Prop :=
  ∀ o, Up oh1 o → o[oh1.length]? ≠ none → Z o d b → ∃ s1, g d s o = some (s1, o) ∧ t s1 o = .ok true o ∧ ∃ y o3, el s1 o = .ok y o3 ∧ Up o o3 ∧ Y o3 y b
theorem lcR_make {β : Type} {mi : Ev → M Src} {g : GM} {t : Ev → M Bool} {el : Ev → M D} {vs : List Nat} {s : Ev} {oh oh1 : OH} {k : Nat} {l : List D} {bs : List β} {Y Z : OH → D → β → Prop} (hY : ∀ o o' y b, UpX oh1.length o o' → Y o y b → Y o' y b) (hZ : ∀ o o' y b, Up oh1 o → Up oh1 o' → UpX oh1.length o o' → Z o y b → Z o' y b) (hm : mi s oh = .ok (.val (.ref k)) oh1) (hk : itemsOf oh1 (.ref k) = some l) (hl : l.length ≤ 2 ^ 20)
    (hz : All2 (Z oh1) l bs) (hp : ∀ d ∈ l, ∀ b, CMake g t el (wipeE s vs) oh1 Y Z d b) :
    ∃ oh' ds, eLc mi g t el vs s oh = .ok (.ref oh1.length) oh' ∧ Up oh1 oh' ∧ oh'[oh1.length]? = some (.lst ds) ∧ All2 (Y oh') ds bs := by
  have hit : ∀ o, Up oh1 o → itemsOf o (.ref k) = some l := fun o u => by
    simp only [itemsOf] at hk ⊢
    cases h : oh1[k]? with
    | none => rw [h] at hk; cases hk
    | some c =>
      rw [h] at hk
      rw [u _ _ h]
      exact hk
  obtain ⟨oh', acc', e, a, rb, ab, e1, e2, h1, h2, hup, hn⟩ := lcR_ind (g := g) (t := t) (el := el) (vs := vs) hm hk (fun rest acc o => ∃ a rb ab, l = a ++ rest ∧ bs = ab ++ rb ∧ All2 (Z o) rest rb ∧ All2 (Y o) acc ab ∧ Up oh1 o ∧ o[oh1.length]? = some (.lst acc)) (fun r acc o ⟨_, _, _, _, _, _, _, u, _⟩ => hit o u)
    ⟨[], bs, [], rfl, rfl, hz.imp fun a b q => hZ _ _ _ _ (Up.refl _) (Up.app _ _) (Up.app _ _).upx q, .nil, Up.app _ _, by simp⟩
    (fun d r acc o ⟨a, rb, ab, e1, e2, h1, h2, hup, hn⟩ => by
      cases h1 with
      | @cons _ b _ rb' q h1 =>
        obtain ⟨s1, g1, g2, y, o3, g3, u3, hy⟩ := hp d (by rw [e1]; simp) b o hup (by rw [hn]; simp) q
        have ux : UpX oh1.length o (o3.set oh1.length (.lst (acc ++ [y]))) := u3.upx.trans .of_set
        refine ⟨s1, o, g1, true, o, g2, .inr ⟨rfl, y, o3, g3, u3 _ _ hn, ?_, a ++ [d], rb', ab ++ [b], by simp [e1], by simp [e2], h1.imp fun _ _ z => hZ _ _ _ _ hup ((hup.trans u3).set (Nat.le_refl _)) ux z, (h2.imp fun _ _ z => hY _ _ _ _ ux z).app (.cons (hY _ _ _ _ .of_set hy) .nil), (hup.trans u3).set (Nat.le_refl _), get_set (u3 _ _ hn)⟩⟩
        refine size_lt (Nat.le_trans ?_ hl)
        have l1 := h2.len
        have l2 := h1.len
        have l3 := hz.len
        rw [e2] at l3
        simp at l3
        omega)
  cases h1
  rw [List.append_nil] at e2
  subst e2
  exact ⟨oh', acc', e, hup, hn, h2⟩
/-- lists of whole numbers side by side -/
theorem toPys_ints (f : D → Option PyData) (hf : ∀ i, f (.int i) = some (.int i)) : ∀ xs : List Int, toPys f (xs.map D.int) = some (xs.map PyData.int)
  | [] => rfl
  | x :: xs => by
    simp only [List.map_cons, toPys, hf, toPys_ints f hf xs]
theorem toPy_int (oh : OH) (k : Nat) (i : Int) : toPy oh k (.int i) = some (.int i) := by cases k <;> rfl
theorem lay_ints : ∀ xs : List Int, PyData.canLayAll0 (xs.map PyData.int) = true
  | [] => by simp [PyData.canLayAll0]
  | x :: xs => by simp [PyData.canLayAll0, PyData.canLay0, lay_ints xs]
theorem depth_ints : ∀ xs : List Int, PyData.depthAll (xs.map PyData.int) = 0
  | [] => by simp [PyData.depthAll]
  | x :: xs => by simp [PyData.depthAll, PyData.depth, depth_ints xs]
theorem shaped_ints (xs : List Int) : SeqAt.shaped (.list (xs.map PyData.int)) = true := by
  simp [SeqAt.shaped, PyData.canLay0, lay_ints, PyData.depth, depth_ints]
theorem shaped_tints (xs : List Int) : SeqAt.shaped (.tuple (xs.map PyData.int)) = true := by
  simp [SeqAt.shaped, PyData.canLay0, lay_ints, PyData.depth, depth_ints]
theorem eqv_ints : ∀ xs ys : List Int, PyData.eqvAll (xs.map PyData.int) (ys.map PyData.int) = decide (xs = ys)
  | [], [] => by simp [PyData.eqvAll]
  | [], y :: ys => by simp [PyData.eqvAll]
  | x :: xs, [] => by simp [PyData.eqvAll]
  | x :: xs, y :: ys => by
    simp only [List.map_cons, PyData.eqvAll, PyData.eqv, eqv_ints xs ys]
    by_cases h1 : x = y <;> by_cases h2 : xs = ys <;> simp [h1, h2]
theorem toPy_lints {oh : OH} {a k : Nat} {xs : List Int} (h : oh[a]? = some (.lst (xs.map D.int))) : toPy oh (k + 1) (.ref a) = some (.list (xs.map PyData.int)) := by
  simp only [toPy, h, toPys_ints (toPy oh k) (toPy_int oh k) xs, Option.map_some]
theorem eqD_ints {oh : OH} {a b : Nat} {xs ys : List Int} (h1 : oh[a]? = some (.lst (xs.map D.int))) (h2 : oh[b]? = some (.lst (ys.map D.int))) : eqD oh (.ref a) (.ref b) = some (decide (xs = ys)) := by
  simp only [eqD, eqS, eqDp, toPy_lints (k := 59) h1, toPy_lints (k := 59) h2, shaped_ints, Bool.and_true, if_true, PyData.eqv, eqv_ints]
theorem z_eqli {oh : OH} {a b : Nat} {xs ys : List Int} (h1 : oh[a]? = some (.lst (xs.map D.int))) (h2 : oh[b]? = some (.lst (ys.map D.int))) : pEq (.ref a) (.ref b) oh = some (.bl (decide (xs = ys)), oh) := by
  simp only [pEq, eqD_ints h1 h2, Option.map_some]
/-- texts of pairs -/
theorem int_len {i : Int} (h : i.natAbs.log2 < 1920) : (PyData.int i).shown.length ≤ 1921 := by
  show (PySem.Str.ofString (toString i)).length ≤ 1921
  rw [PySem.ofString_length]
  exact PySem.int_text_length_le (k := 1920) (by decide) h
theorem pair_len {a b : Str} {n m : Nat} (ha : a.length ≤ n) (hb : b.length ≤ m) : (tupleText [a, b]).length ≤ n + m + 4 := by
  have e : tupleText [a, b] = (Str.ofString "(" ++ (a ++ Str.ofString ", " ++ b)) ++ Str.ofString ")" := rfl
  have e1 : (Str.ofString "(").length = 1 := by decide
  have e2 : (Str.ofString ")").length = 1 := by decide
  have e3 : (Str.ofString ", ").length = 2 := by decide
  rw [e, Str.length_append, Str.length_append, Str.length_append, Str.length_append, e1, e2, e3]
  omega
theorem z_reprErr {t : Str} {z : Int} {oh : OH} (ht : (reprText t).length ≤ 1000 ∧ PyData.strOk t = true) (hz : z.natAbs.log2 < 1920) : bRepr [.tup [.str t, .int z]] oh = some (.str (PyData.tuple [.str t, .int z]).shown, oh) := by
  have hk : reprOk (PyData.tuple [.str t, .int z]) = true := by
    have h1 := pair_len ht.1 (int_len hz)
    have h2 : (PyData.tuple [.str t, .int z]).shown = tupleText [reprText t, (PyData.int z).shown] := by simp [PyData.shown, PyData.shownAll]
    unfold reprOk
    rw [h2, decide_eq_true (size_le (by omega))]
    simp [PyData.showable, PyData.showableAll, hz, SeqAt.shaped, PyData.canLay0, PyData.canLayAll0, ht.2, PyData.depth, PyData.depthAll]
  show (match toPy oh 50 (.tup [.str t, .int z]) with | some p => if reprOk p then some p.shown else none | none => none).map _ = _
  have : toPy oh 50 (.tup [.str t, .int z]) = some (.tuple [.str t, .int z]) := rfl
  rw [this]
  simp only [hk, if_true, Option.map_some]
theorem z_app {mo : Ev → M D} {ms : Ev → M (List D)} {s : Ev} {oh oh1 : OH} {n : Nat} {l l1 : List D} {d : D} (h : mo s oh = .ok (.ref n) oh) (hn : oh[n]? = some (.lst l)) (hm : ms s oh = .ok [d] oh1) (h1 : oh1[n]? = some (.lst l1)) (hl : l1.length < sizeLine) : eAppend mo ms s oh = .ok .non (oh1.set n (.lst (l1 ++ [d]))) := by
  unfold eAppend
  rw [h]
  show (if isLst oh n = true then (ms s oh).bnd fun ds oh => lf (pAppend n ds oh) else .bad) = _
  have : isLst oh n = true := by unfold isLst; rw [hn]
  rw [if_pos this, hm, z_bok]
  unfold pAppend
  simp only [h1, if_pos hl, z_lf]
theorem z_addt {l m : List D} {oh : OH} (hl : l.length + m.length ≤ sizeLine) : pAdd (.tup l) (.tup m) oh = some (.tup (l ++ m), oh) := by
  simp only [pAdd, if_pos hl]
theorem toInts_map : ∀ ns : List Int, toInts (ns.map D.int) = some ns
  | [] => rfl
  | n :: r => by simp only [List.map_cons, toInts, toInts_map r, Option.map_some]
theorem z_sum {oh : OH} {n : Nat} {ns : List Int} (h : oh[n]? = some (.lst (ns.map D.int))) : bSum [.ref n] oh = some (.int ns.sum, oh) := by
  simp only [bSum, z_itl h, toInts_map, Option.map_some]
theorem z_last {oh : OH} {x d : D} {l : List D} (h : itemsOf oh x = some l) (hl : l.getLast? = some d) : pIx x (.int (-1)) oh = some (d, oh) := by
  have hne : l ≠ [] := fun z => by subst z; cases hl
  have hp : 0 < l.length := List.length_pos_iff.mpr hne
  have e : atI l (-1) = some d := by
    unfold atI ixN
    rw [if_neg (by omega), if_pos (by omega), Option.bind_some]
    have : (-1 + (l.length : Int)).toNat = l.length - 1 := by omega
    rw [this, ← List.getLast?_eq_getElem?]
    exact hl
  cases x with
  | str z => cases h
  | _ => simp only [pIx, h, e, Option.map_some]
theorem while_ind {t : Ev → M Bool} {body : SM} (I : Nat → Ev → OH → Prop) (F : Ev → OH → Prop) (step : ∀ m s oh, I m s oh → ∃ c oh1, t s oh = .ok c oh1 ∧ ((c = false ∧ F s oh1) ∨ (c = true ∧ ∃ s2 oh2 m2, body s oh1 = .nx s2 oh2 ∧ m2 < m ∧ I m2 s2 oh2))) {m : Nat} {s : Ev} {oh : OH} (h : I m s oh) :
    ∃ s' oh', sWhile t body s oh = .nx s' oh' ∧ F s' oh' := by
  have key : ∀ (k m : Nat), m < k → ∀ s oh, I m s oh → ∃ s' oh', loopW t body k s oh = .nx s' oh' ∧ F s' oh' := by
    intro k
    induction k with
    | zero => intro m hm; omega
    | succ k ih =>
      intro m hm s oh h
      obtain ⟨c, oh1, e1, ⟨rfl, hF⟩ | ⟨rfl, s2, oh2, m2, e2, hlt, h2⟩⟩ := step m s oh h
      · refine ⟨s, oh1, ?_, hF⟩
        rw [loopW.eq_2, e1]
        rfl
      · obtain ⟨s', oh', e, hF⟩ := ih m2 (by omega) s2 oh2 h2
        refine ⟨s', oh', ?_, hF⟩
        rw [loopW.eq_2, e1]
        show (match body s oh1 with
          | .nx s2 oh2 => loopW t body k s2 oh2
          | .ct s2 oh2 => loopW t body k s2 oh2
          | .bk s2 oh2 => .nx s2 oh2
          | r => r) = _
        rw [e2]
        exact e
  obtain ⟨s', oh', e, hF⟩ := key (m + 1) m (by omega) s oh h
  exact ⟨s', oh', sWhile_of e (by simp), hF⟩
end SK
namespace SK
open PySem PySem.Spec PyProof.Rows L2 SKX LamX TZ
/-! ### frames -/
/-- b is a with new cells, and changes at S alone -/
def Fr (S : List Nat) (a b : OH) : Prop := a.length ≤ b.length ∧ ∀ (k : Nat) (c : Cell), k ∉ S → a[k]? = some c → b[k]? = some c
theorem Fr.refl (S : List Nat) (a : OH) : Fr S a a := ⟨Nat.le_refl _, fun _ _ _ h => h⟩
theorem Fr.trans {S : List Nat} {a b c : OH} (h : Fr S a b) (g : Fr S b c) : Fr S a c := ⟨Nat.le_trans h.1 g.1, fun k x n e => g.2 k x n (h.2 k x n e)⟩
theorem Fr.mono {S T : List Nat} {a b : OH} (h : Fr S a b) (s : ∀ k ∈ S, k ∈ T) : Fr T a b := ⟨h.1, fun k x n e => h.2 k x (fun z => n (s k z)) e⟩
theorem Fr.app (S : List Nat) (a g : OH) : Fr S a (a ++ g) := ⟨by simp, fun k c _ e => Up.app a g k c e⟩
theorem Fr.set {S : List Nat} {a : OH} {k : Nat} {c : Cell} (h : k ∈ S) : Fr S a (a.set k c) := ⟨by simp, fun j x n e => by
  rw [List.getElem?_set_ne (fun z => n (by rw [← z]; exact h))]
  exact e⟩
theorem Up.fr {S : List Nat} {a b : OH} (h : Up a b) : Fr S a b := ⟨h.len, fun k c _ e => h k c e⟩
theorem Fr.at {S : List Nat} {a b : OH} (h : Fr S a b) {k : Nat} {c : Cell} (n : k ∉ S) (e : a[k]? = some c) : b[k]? = some c := h.2 k c n e
theorem Fr.up {a b : OH} (h : Fr [] a b) : Up a b := fun k c e => h.2 k c (by simp) e
/-- changes beyond a are none -/
theorem Fr.beyond {S : List Nat} {a b c : OH} (h : Fr S a b) (g : Fr (a.length :: S) b c) : Fr S a c := ⟨Nat.le_trans h.1 g.1, fun k x n e => g.2 k x (fun z => by
  rcases List.mem_cons.mp z with z | z
  · have := (List.getElem?_eq_some_iff.mp e).1
    omega
  · exact n z) (h.2 k x n e)⟩
theorem lt_of_get {a : OH} {k : Nat} {c : Cell} (h : a[k]? = some c) : k < a.length := (List.getElem?_eq_some_iff.mp h).1
/-! ### counts -/
abbrev CM := List (List Int × Int)
def cC (M : CM) : List (List Int × D) := M.map fun p => (p.1, D.int p.2)
def cD (M : CM) : Cell := .dct (cC M)
def cget : CM → List Int → Int
  | [], _ => 0
  | p :: r, k => if p.1 = k then p.2 else cget r k
def cHas : CM → List Int → Bool
  | [], _ => false
  | p :: r, k => decide (p.1 = k) || cHas r k
def cput : CM → List Int → Int → CM
  | [], k, v => [(k, v)]
  | p :: r, k, v => if p.1 = k then (p.1, v) :: r else p :: cput r k v
def cadd (M : CM) (k : List Int) (v : Int) : CM := cput M k (cget M k + v)
def cks (M : CM) : List (List Int) := M.map (·.1)
def NdM (M : CM) : Prop := (cks M).Nodup
theorem cC_keys (M : CM) : (cC M).map (·.1) = cks M := by
  unfold cC cks
  rw [List.map_map]
  rfl
theorem cHas_mem {k : List Int} : ∀ {M : CM}, cHas M k = true ↔ k ∈ cks M
  | [] => by simp [cHas, cks]
  | p :: r => by
    have ih := cHas_mem (k := k) (M := r)
    simp only [cHas, Bool.or_eq_true, decide_eq_true_eq, ih, cks, List.map_cons, List.mem_cons]
    constructor
    · rintro (h | h)
      · exact .inl h.symm
      · exact .inr h
    · rintro (h | h)
      · exact .inl h.symm
      · exact .inr h
theorem cget_no {k : List Int} : ∀ {M : CM}, cHas M k = false → cget M k = 0
  | [], _ => rfl
  | p :: r, h => by
    simp only [cHas, Bool.or_eq_false_iff, decide_eq_false_iff_not] at h
    unfold cget
    rw [if_neg h.1, cget_no h.2]
theorem dGet_cD {k : List Int} : ∀ {M : CM}, dGet (cC M) k = if cHas M k then some (D.int (cget M k)) else none
  | [] => rfl
  | p :: r => by
    have ih := dGet_cD (k := k) (M := r)
    unfold cC at ih ⊢
    rw [List.map_cons]
    unfold dGet cget cHas
    by_cases e : p.1 = k
    · simp [e]
    · simp only [e, if_false, decide_false, Bool.false_or]
      exact ih
theorem cput_eq {k : List Int} {v : Int} : ∀ {M : CM}, NdM M → cput M k v = if cHas M k then M.map (fun p => if p.1 = k then (p.1, v) else p) else M ++ [(k, v)]
  | [], _ => rfl
  | p :: r, n => by
    unfold NdM cks at n
    rw [List.map_cons, List.nodup_cons] at n
    have ih := cput_eq (k := k) (v := v) (M := r) n.2
    unfold cput cHas
    by_cases e : p.1 = k
    · rw [if_pos e, decide_eq_true e, Bool.true_or, if_pos rfl, List.map_cons, if_pos e]
      congr 1
      conv => lhs; rw [← List.map_id r]
      refine List.map_congr_left fun q hq => ?_
      have : ¬ q.1 = k := fun z => n.1 (by rw [e, ← z]; exact List.mem_map_of_mem hq)
      rw [if_neg this]
      rfl
    · rw [if_neg e, decide_eq_false e, Bool.false_or, ih]
      by_cases h : cHas r k = true
      · rw [if_pos h, if_pos h, List.map_cons, if_neg e]
      · rw [if_neg h, if_neg h]
        rfl
theorem dPut_cD {k : List Int} {v : Int} {M : CM} (n : NdM M) : dPut' (cC M) k (.int v) = cC (cput M k v) := by
  unfold dPut'
  rw [dGet_cD, cput_eq n]
  cases h : cHas M k with
  | true =>
    simp only [if_true, Option.isSome_some, cC, List.map_map]
    refine List.map_congr_left fun p _ => ?_
    show (if p.1 = k then (p.1, D.int v) else (p.1, D.int p.2)) = ((if p.1 = k then (p.1, v) else p).1, D.int (if p.1 = k then (p.1, v) else p).2)
    split <;> rfl
  | false =>
    simp [cC]
theorem cget_cput {k j : List Int} {v : Int} : ∀ {M : CM}, cget (cput M k v) j = if j = k then v else cget M j
  | [] => by
    unfold cput cget cget
    by_cases e : k = j
    · simp [e]
    · simp [e, Ne.symm e]
  | p :: r => by
    have ih := cget_cput (k := k) (j := j) (v := v) (M := r)
    unfold cput
    by_cases e : p.1 = k
    · rw [if_pos e]
      unfold cget
      by_cases e2 : p.1 = j
      · have : j = k := e2.symm.trans e
        simp [e2, this]
      · have : ¬ j = k := fun z => e2 (e.trans z.symm)
        simp [e2, this]
    · rw [if_neg e]
      unfold cget
      by_cases e2 : p.1 = j
      · have : ¬ j = k := fun z => e (e2.trans z)
        simp [e2, this]
      · simp only [e2, if_false]
        exact ih
theorem cget_cadd {k j : List Int} {v : Int} {M : CM} : cget (cadd M k v) j = cget M j + if j = k then v else 0 := by
  unfold cadd
  rw [cget_cput]
  split
  · rename_i h
    rw [h]
  · omega
theorem cks_cput {k : List Int} {v : Int} : ∀ {M : CM}, cks (cput M k v) = if cHas M k then cks M else cks M ++ [k]
  | [] => rfl
  | p :: r => by
    have ih := cks_cput (k := k) (v := v) (M := r)
    unfold cput cHas
    by_cases e : p.1 = k
    · simp [e, cks]
    · simp only [e, if_false, decide_false, Bool.false_or]
      show p.1 :: cks (cput r k v) = _
      rw [ih]
      split <;> rfl
theorem NdM.put {k : List Int} {v : Int} {M : CM} (n : NdM M) : NdM (cput M k v) := by
  unfold NdM at n ⊢
  rw [cks_cput]
  cases h : cHas M k with
  | true => exact n
  | false =>
    show (cks M ++ [k]).Nodup
    rw [List.nodup_append]
    refine ⟨n, by simp, fun a ha b hb => ?_⟩
    simp at hb
    subst hb
    intro z
    subst z
    rw [← cHas_mem, h] at ha
    cases ha
theorem cput_len {k : List Int} {v : Int} {M : CM} : (cput M k v).length ≤ M.length + 1 := by
  have h : (cks (cput M k v)).length ≤ M.length + 1 := by
    rw [cks_cput]
    split <;> simp [cks]
  simpa [cks] using h
theorem mem_cput {k j : List Int} {v : Int} {M : CM} (h : j ∈ cks (cput M k v)) : j ∈ cks M ∨ j = k := by
  rw [cks_cput] at h
  split at h
  · exact .inl h
  · simpa using h
theorem cHas_cput {k : List Int} {v : Int} {M : CM} : cHas (cput M k v) k = true := by
  rw [cHas_mem, cks_cput]
  split
  · rename_i h
    exact cHas_mem.mp h
  · simp
theorem cHas_pos {k : List Int} {M : CM} (h : cget M k ≠ 0) : cHas M k = true := by
  cases e : cHas M k with
  | true => rfl
  | false => exact absurd (cget_no e) h
/-! ### the mirrors over counts -/
theorem keyD_tup (k : List Int) : keyD (tupI k) = some k := toInts_map k
theorem dictOf_cD {oh : OH} {m : Nat} {M : CM} (h : oh[m]? = some (cD M)) : dictOf oh m = some (cC M) := by
  unfold dictOf
  rw [h]
  rfl
section
variable {mo mk mx ma : Ev → M D}
variable {s : Ev} {oh oh1 : OH} {m : Nat} {M : CM} {k : List Int} {v : Int}
theorem z_dix (h : oh[m]? = some (cD M)) (hk : cHas M k = true) : pDIx (.ref m) (tupI k) oh = some (.int (cget M k), oh) := by
  simp only [pDIx, dictOf_cD h, keyD_tup, dGet_cD, hk, if_true, Option.map_some]
theorem z_setd (h : oh[m]? = some (cD M)) (n : NdM M) (hl : M.length < sizeLine) : pSetD (.ref m) (tupI k) (.int v) oh = some (oh.set m (cD (cput M k v))) := by
  have hl' : (cC M).length < sizeLine := by unfold cC; rw [List.length_map]; exact hl
  simp only [pSetD, h, keyD_tup, cD, if_pos hl', dPut_cD n]
theorem z_dget0 (h1 : mo s oh = .ok (.ref m) oh) (h : oh[m]? = some (cD M)) (h2 : mk s oh = .ok (tupI k) oh1) (h' : oh1[m]? = some (cD M)) : eDGet2 mo mk (eC (.int 0)) s oh = .ok (.int (cget M k)) oh1 := by
  unfold eDGet2
  rw [h1, z_bok]
  dsimp only
  rw [dictOf_cD h, Option.isSome_some, if_pos rfl, h2, z_bok, z_c, z_bok]
  simp only [dictOf_cD h', keyD_tup]
  rw [dGet_cD]
  cases e : cHas M k with
  | true => rfl
  | false => rw [cget_no e]; rfl
@[simp] theorem z_gsubd {d : D} : gSubD ma mk d s oh = (match ma s oh with
  | .ok o oh => match mk s oh with
    | .ok i oh => (pSetD o i d oh).map fun oh => (s, oh)
    | _ => none
  | _ => none) := nrfl
/-- dict([(t, d[t]) for t in d]) -/
theorem pairsD_cC (M : CM) : pairsD (M.map fun p => D.tup [tupI p.1, .int p.2]) = some (cC M) := by
  induction M with
  | nil => rfl
  | cons p r ih =>
    rw [List.map_cons]
    unfold pairsD
    rw [keyD_tup, ih]
    rfl
theorem mergeD_cC : ∀ (N : CM) (A : CM), NdM (A ++ N) → mergeD (cC A) (cC N) = cC (A ++ N)
  | [], A, _ => by rw [List.append_nil]; rfl
  | p :: N, A, n => by
    have e : A ++ p :: N = (A ++ [p]) ++ N := by simp
    have hp : cHas A p.1 = false := by
      cases h : cHas A p.1 with
      | false => rfl
      | true =>
        exfalso
        unfold NdM cks at n
        rw [List.map_append, List.map_cons, List.nodup_append] at n
        exact n.2.2 _ (cHas_mem.mp h) _ List.mem_cons_self rfl
    have nA : NdM A := by
      unfold NdM cks at n ⊢
      rw [List.map_append, List.nodup_append] at n
      exact n.1
    show mergeD (dPut' (cC A) p.1 (.int p.2)) (cC N) = _
    rw [dPut_cD nA, cput_eq nA, hp, e]
    exact mergeD_cC N (A ++ [p]) (by rw [← e]; exact n)
theorem dcopy_ok {i j : Nat} (hs : s[i]? = some (some (.ref m))) (hij : i ≠ j) (hj : j < s.length) (h : oh[m]? = some (cD M)) (n : NdM M) (hl : M.length ≤ 2 ^ 20) :
    ∃ oh', eCB bDict (aCons (eLcD i ((CT.one j)).g tYesD (eTup (aCons (eVar j) (aCons (e2 pDIx (eVar i) (eVar j)) aNil))) [j]) aNil) s oh = .ok (.ref (oh.length + 1)) oh' ∧ oh'[oh.length + 1]? = some (cD M) ∧ Fr [] oh oh' := by
  have hm := lt_of_get h
  let L : List D := M.map fun p => tupI p.1
  have hL : L.length = M.length := List.length_map ..
  obtain ⟨oh2, acc, e, a, f1, f2, h1, h2, h3, h4⟩ := compT_ind (n := oh.length) (g := (CT.one j).g) (t := tYesD) (el := eTup (aCons (eVar j) (aCons (e2 pDIx (eVar i) (eVar j)) aNil))) (s := wipeE s [j])
    (fun rest acc o => ∃ a, M = a ++ M.drop a.length ∧ rest = (M.drop a.length).map (fun p => tupI p.1) ∧ acc = a.map (fun p => D.tup [tupI p.1, .int p.2]) ∧ o[m]? = some (.fdc (cC M)) ∧ o[oh.length]? = some (.lst acc) ∧ o.length = oh.length + 1 ∧ ∀ k c, k ≠ m → oh[k]? = some c → o[k]? = some c)
    (fun d r acc o ⟨a, q1, q2, q3, q4, q5, q6, q7⟩ => by
      cases hd : M.drop a.length with
      | nil => rw [hd] at q2; cases q2
      | cons p N =>
        rw [hd, List.map_cons] at q2
        cases q2
        rw [hd] at q1
        have hp : p ∈ M := by rw [q1]; simp
        have hHas : cHas M p.1 = true := cHas_mem.mpr (List.mem_map_of_mem hp)
        have hget : cget M p.1 = p.2 := by
          have gg : ∀ (A : CM), NdM (A ++ p :: N) → cget (A ++ p :: N) p.1 = p.2 := by
            intro A
            induction A with
            | nil => intro _; simp [cget]
            | cons q A ih =>
              intro nn
              unfold NdM cks at nn
              rw [List.cons_append, List.map_cons, List.nodup_cons] at nn
              have : ¬ q.1 = p.1 := fun z => nn.1 (by rw [z]; exact List.mem_map_of_mem (by simp))
              rw [List.cons_append]
              unfold cget
              rw [if_neg this]
              exact ih nn.2
          rw [q1]
          exact gg a (by rw [← q1]; exact n)
        have dO : dictOf o m = some (cC M) := by
          unfold dictOf
          rw [q4]
        have wl : (wipeE s [j]).length = s.length := by
          show (s.set j none).length = _
          rw [List.length_set]
        have wi : (wipeE s [j])[i]? = some (some (.ref m)) := by
          have : wipeE s [j] = s.set j none := rfl
          rw [this, List.getElem?_set_ne (Ne.symm hij)]
          exact hs
        refine ⟨(wipeE s [j]).set j (some (tupI p.1)), o, rfl, true, o, rfl, .inr ⟨rfl, D.tup [tupI p.1, .int p.2], o, ?_, q5, ?_, a ++ [p], ?_, ?_, ?_, ?_, ?_, ?_, ?_⟩⟩
        · have v1 : ((wipeE s [j]).set j (some (tupI p.1)))[j]? = some (some (tupI p.1)) := List.getElem?_set_self (by rw [wl]; exact hj)
          have v2 : ((wipeE s [j]).set j (some (tupI p.1)))[i]? = some (some (.ref m)) := by rw [List.getElem?_set_ne (Ne.symm hij)]; exact wi
          have ix : pDIx (.ref m) (tupI p.1) o = some (.int p.2, o) := by
            simp only [pDIx, dO, keyD_tup, dGet_cD, hHas, if_true, Option.map_some, hget]
          have z2 : (2 ≤ sizeLine) = True := eq_true (size_le (by decide))
          simp only [z_tup, z_cons, z_var, v1, z_bok, z_e2, v2, ix, z_lf, z_nil, List.length_cons, List.length_nil, Nat.zero_add, Nat.reduceAdd, z2, if_true]
        · rw [q3, List.length_map]
          refine size_lt (Nat.le_trans ?_ hl)
          have := congrArg List.length q1
          rw [List.length_append, List.length_cons] at this
          omega
        · have : M.drop (a ++ [p]).length = N := by
            rw [List.length_append, List.length_singleton, ← List.drop_drop, hd]
            rfl
          rw [this, q1]
          simp
        · have : M.drop (a ++ [p]).length = N := by
            rw [List.length_append, List.length_singleton, ← List.drop_drop, hd]
            rfl
          rw [this]
        · rw [q3, List.map_append]
          rfl
        · rw [List.getElem?_set_ne (by omega)]
          exact q4
        · exact get_set q5
        · rw [List.length_set]
          exact q6
        · intro k c hk hc
          have := lt_of_get hc
          rw [List.getElem?_set_ne (by omega)]
          exact q7 k c hk hc)
    L [] (oh.set m (.fdc (cC M)) ++ [.lst []]) ⟨[], by simp, by simp [L], rfl, by rw [List.getElem?_append_left (by simpa using hm)]; exact get_set h, by
      have := get_new (oh.set m (.fdc (cC M))) (.lst [])
      rw [List.length_set] at this
      exact this, by simp, fun k c hk hc => by
      rw [List.getElem?_append_left (by rw [List.length_set]; exact lt_of_get hc), List.getElem?_set_ne (Ne.symm hk)]
      exact hc⟩
  have ea : a = M := by
    have : M.drop a.length = [] := by
      cases hd : M.drop a.length with
      | nil => rfl
      | cons p N => rw [hd] at f2; cases f2
    rw [this, List.append_nil] at f1
    exact f1.symm
  subst ea
  obtain ⟨h3, h4, h5⟩ := And.intro h3 h4
  have hlc : eLcD i ((CT.one j)).g tYesD (eTup (aCons (eVar j) (aCons (e2 pDIx (eVar i) (eVar j)) aNil))) [j] s oh = .ok (.ref oh.length) (oh2.set m (cD a)) := by
    unfold eLcD
    rw [hs]
    dsimp only
    rw [h]
    show asRef oh.length ((compT oh.length _ tYesD _ (wipeE s [j]) ((cC a).map fun p => tupI p.1) (oh.set m (.fdc (cC a)) ++ [.lst []])).bind (unlk m)) = _
    have : (cC a).map (fun p => tupI p.1) = a.map fun p => tupI p.1 := by
      unfold cC
      rw [List.map_map]
      rfl
    rw [this, e]
    show asRef oh.length (unlk m oh2) = _
    unfold unlk
    rw [h2]
    rfl
  have hne : oh.length ≠ m := by omega
  have hat : (oh2.set m (cD a))[oh.length]? = some (.lst (a.map fun p => D.tup [tupI p.1, .int p.2])) := by
    rw [List.getElem?_set_ne (Ne.symm hne), h3, h1]
  have lenE : (oh2.set m (cD a)).length = oh.length + 1 := by rw [List.length_set]; exact h4
  refine ⟨oh2.set m (cD a) ++ [cD a], ?_, ?_, ?_, ?_⟩
  · rw [z_cb, z_cons, hlc, z_bok, z_nil, z_bok, z_bok]
    unfold bDict
    dsimp only
    rw [z_itl hat]
    dsimp only
    rw [pairsD_cC, Option.map_some, z_lf, lenE]
    have := mergeD_cC a [] (by simpa using n)
    rw [List.nil_append] at this
    have : mergeD [] (cC a) = cC a := this
    rw [this]
    rfl
  · rw [← lenE]
    exact get_new _ _
  · rw [List.length_append, lenE]
    omega
  · intro k c _ hc
    have hk := lt_of_get hc
    rw [List.getElem?_append_left (by rw [lenE]; omega)]
    by_cases hkm : k = m
    · subst hkm
      rw [hc] at h
      cases h
      exact get_set h2
    · rw [List.getElem?_set_ne (Ne.symm hkm)]
      exact h5 k c hkm hc
end
/-! ### what is told of counts -/
def toldL (M : CM) : List D := ((sortK (cks M)).filter fun k => decide (0 < cget M k)).map fun k => tupI (k ++ [cget M k])
/-- keys of four numbers, few -/
structure OkM (M : CM) (n : Nat) : Prop where
  nd : NdM M
  four : ∀ k ∈ cks M, k.length = 4
  few : M.length ≤ n
theorem OkM.put {M : CM} {n : Nat} {k : List Int} {v : Int} (h : OkM M n) (hk : k.length = 4) : OkM (cput M k v) (n + 1) :=
  ⟨h.nd.put, fun j hj => (mem_cput hj).elim (h.four j) fun e => by rw [e]; exact hk, Nat.le_trans cput_len (by have := h.few; omega)⟩
theorem OkM.mono {M : CM} {n m : Nat} (h : OkM M n) (hn : n ≤ m) : OkM M m := ⟨h.nd, h.four, Nat.le_trans h.few hn⟩
theorem same_four {ks : List (List Int)} (h : ∀ k ∈ ks, k.length = 4) : sameLen ks = true := by
  cases ks with
  | nil => rfl
  | cons k r =>
    simp only [sameLen, Bool.and_eq_true, decide_eq_true_eq, List.all_eq_true]
    have h0 := h k List.mem_cons_self
    exact ⟨by omega, fun j hj => by rw [h0]; exact h j (List.mem_cons_of_mem _ hj)⟩
theorem told_ok {oh : OH} {m : Nat} {M : CM} (h : oh[m]? = some (cD M)) (ok : OkM M 63) :
    ∃ oh', eCB bTuple (aCons (eLc (iVal (eCB bSorted (aCons (eVar 0) aNil))) ((CT.one 1)).g (tB1 (e2 (pGt) (e2 pDIx (eVar 0) (eVar 1)) (eC (.int 0)))) (e2 pAdd (eVar 1) (eTup (aCons (e2 pDIx (eVar 0) (eVar 1)) aNil))) [1]) aNil) [some (.ref m), none] oh = .ok (.tup (toldL M)) oh' ∧ Fr [] oh oh' := by
  have hs : bSorted [.ref m] oh = some (.ref oh.length, oh ++ [.lst ((sortK (cks M)).map tupI)]) := by
    have h1 : (cC M).length < 64 ∧ sameLen (cks M) = true := ⟨by unfold cC; rw [List.length_map]; have := ok.few; omega, same_four ok.four⟩
    unfold bSorted
    dsimp only
    rw [dictOf_cD h]
    dsimp only
    rw [cC_keys, if_pos h1]
  have hm : iVal (eCB bSorted (aCons (eVar 0) aNil)) [some (.ref m), none] oh = .ok (.val (.ref oh.length)) (oh ++ [.lst ((sortK (cks M)).map tupI)]) := by
    simp only [z_ival, z_cb, z_cons, z_var, List.getElem?_cons_zero, z_bok, z_nil, hs, z_lf]
  have u0 : Up oh (oh ++ [.lst ((sortK (cks M)).map tupI)]) := Up.app _ _
  have lenS : (sortK (cks M)).length ≤ 63 := by
    rw [(sortK_perm _).length_eq]
    unfold cks
    rw [List.length_map]
    exact ok.few
  obtain ⟨oh', e, up, hn⟩ := lcR_pure (g := (CT.one 1).g) (t := tB1 (e2 (pGt) (e2 pDIx (eVar 0) (eVar 1)) (eC (.int 0)))) (el := e2 pAdd (eVar 1) (eTup (aCons (e2 pDIx (eVar 0) (eVar 1)) aNil))) (vs := [1])
    (fun d => match keyD d with | some k => decide (0 < cget M k) | none => false) (fun d => match keyD d with | some k => tupI (k ++ [cget M k]) | none => d) hm (z_itl (get_new _ _)) (by rw [List.length_map]; omega)
    (fun d hd o u => by
      obtain ⟨k, hk, rfl⟩ := List.mem_map.mp hd
      have hk' : k ∈ cks M := (sortK_perm _).mem_iff.mp hk
      have hHas := cHas_mem.mpr hk'
      have ho : o[m]? = some (cD M) := u _ _ (u0 _ _ h)
      have z1 : (1 ≤ sizeLine) = True := eq_true (size_le (by decide))
      refine ⟨[some (.ref m), some (tupI k)], rfl, ?_, fun _ => ?_⟩
      · simp only [z_tb, z_e2, z_var, List.getElem?_cons_zero, List.getElem?_cons_succ, z_bok, z_dix ho hHas, z_lf, z_c, z_gt, keyD_tup]
      · have z5 : (k.map D.int).length + [D.int (cget M k)].length ≤ sizeLine := size_le (by rw [List.length_map, ok.four k hk', List.length_singleton]; decide)
        have z6 : pAdd (tupI k) (.tup [.int (cget M k)]) o = some (tupI (k ++ [cget M k]), o) := by
          unfold tupI
          rw [z_addt z5, List.map_append]
          rfl
        simp only [z_e2, z_var, List.getElem?_cons_zero, List.getElem?_cons_succ, z_bok, z_tup, z_cons, z_dix ho hHas, z_lf, z_nil, List.length_cons, List.length_nil, Nat.zero_add, z1, if_true, z6, keyD_tup])
  refine ⟨oh', ?_, (u0.trans up).fr⟩
  have et : (((sortK (cks M)).map tupI).filter (fun d => match keyD d with | some k => decide (0 < cget M k) | none => false)).map (fun d => match keyD d with | some k => tupI (k ++ [cget M k]) | none => d) = toldL M := by
    unfold toldL
    rw [List.filter_map, List.map_map]
    have e1 : ((fun d => match keyD d with | some k => decide (0 < cget M k) | none => false) ∘ tupI) = fun k => decide (0 < cget M k) := by
      funext k
      simp only [Function.comp, keyD_tup]
    rw [e1]
    refine List.map_congr_left fun k _ => ?_
    simp only [Function.comp, keyD_tup]
  rw [et] at hn
  have hb : bTuple [.ref (oh ++ [Cell.lst ((sortK (cks M)).map tupI)]).length] oh' = some (.tup (toldL M), oh') := by
    unfold bTuple
    dsimp only
    rw [z_itl hn, Option.map_some]
  rw [z_cb, z_cons, e, z_bok, z_nil, z_bok, z_bok, hb, z_lf]
theorem strict_ext {l r : List (List Int)} (hl : l.Pairwise fun a b => lexLe a b = true) (hr : r.Pairwise fun a b => lexLe a b = true) (nl : l.Nodup) (nr : r.Nodup) (h : ∀ k, k ∈ l ↔ k ∈ r) : l = r := by
  induction l generalizing r with
  | nil =>
    cases r with
    | nil => rfl
    | cons k r => exact absurd ((h k).mpr List.mem_cons_self) (by simp)
  | cons a l ih =>
    cases r with
    | nil => exact absurd ((h a).mp List.mem_cons_self) (by simp)
    | cons b r =>
      rw [List.pairwise_cons] at hl hr
      rw [List.nodup_cons] at nl nr
      have hab : a = b := by
        rcases List.mem_cons.mp ((h a).mp List.mem_cons_self) with e | e
        · exact e
        · rcases List.mem_cons.mp ((h b).mpr List.mem_cons_self) with e2 | e2
          · exact e2.symm
          · exact lexLe_anti _ _ (hl.1 b e2) (hr.1 a e)
      subst hab
      congr 1
      refine ih hl.2 hr.2 nl.2 nr.2 fun k => ⟨fun hk => ?_, fun hk => ?_⟩
      · rcases List.mem_cons.mp ((h k).mp (List.mem_cons_of_mem _ hk)) with e | e
        · subst e
          exact absurd hk nl.1
        · exact e
      · rcases List.mem_cons.mp ((h k).mpr (List.mem_cons_of_mem _ hk)) with e | e
        · subst e
          exact absurd hk nr.1
        · exact e
theorem toldL_congr {M N : CM} (nM : NdM M) (nN : NdM N) (h : ∀ k, cget M k = cget N k) : toldL M = toldL N := by
  unfold toldL
  have e : (sortK (cks M)).filter (fun k => decide (0 < cget M k)) = (sortK (cks N)).filter (fun k => decide (0 < cget N k)) := by
    refine strict_ext ((sortK_sorted _).filter _) ((sortK_sorted _).filter _) (((sortK_perm _).nodup_iff.mpr nM).filter _) (((sortK_perm _).nodup_iff.mpr nN).filter _) fun k => ?_
    rw [List.mem_filter, List.mem_filter, (sortK_perm _).mem_iff, (sortK_perm _).mem_iff, decide_eq_true_eq, decide_eq_true_eq, ← h k]
    constructor
    · rintro ⟨_, hp⟩
      exact ⟨cHas_mem.mp (cHas_pos (by rw [← h k]; omega)), hp⟩
    · rintro ⟨_, hp⟩
      exact ⟨cHas_mem.mp (cHas_pos (by omega)), hp⟩
  rw [e]
  refine List.map_congr_left fun k _ => ?_
  rw [h k]
/-! ### a thing is equal to itself -/
mutual
theorem eqv_self : ∀ p : PyData, p.canLay0 = true → PyData.eqv p p = true
  | .none, _ => by simp [PyData.eqv]
  | .bool b, _ => by simp [PyData.eqv]
  | .int b, _ => by simp [PyData.eqv]
  | .str b, _ => by simp [PyData.eqv]
  | .list xs, h => by
    simp only [PyData.canLay0] at h
    simp only [PyData.eqv]
    exact eqvAll_self xs h
  | .tuple xs, h => by
    simp only [PyData.canLay0] at h
    simp only [PyData.eqv]
    exact eqvAll_self xs h
  | .dict _, h => by simp [PyData.canLay0] at h
theorem eqvAll_self : ∀ ps : List PyData, PyData.canLayAll0 ps = true → PyData.eqvAll ps ps = true
  | [], _ => by simp [PyData.eqvAll]
  | p :: ps, h => by
    simp only [PyData.canLayAll0, Bool.and_eq_true] at h
    simp only [PyData.eqvAll, eqv_self p h.1, eqvAll_self ps h.2, Bool.and_self]
end
theorem z_ne_self {oh : OH} {l : List D} {p : PyData} (h : toPy oh 60 (.tup l) = some p) (hp : SeqAt.shaped p = true) : pNe (.tup l) (.tup l) oh = some (.bl false, oh) := by
  simp only [pNe, eqD, eqS, eqDp, h, hp, Bool.and_self, if_true, Option.map_some, eqv_self p (SeqAt.canLay_of_shaped hp), Bool.not_true]
theorem toPy_tupI (oh : OH) (n : Nat) (k : List Int) : toPy oh (n + 1) (tupI k) = some (.tuple (k.map PyData.int)) := by
  unfold tupI
  simp only [toPy, toPys_ints (toPy oh n) (toPy_int oh n) k, Option.map_some]
theorem toPys_tupIs (oh : OH) (n : Nat) : ∀ ks : List (List Int), toPys (toPy oh (n + 1)) (ks.map tupI) = some (ks.map fun k => .tuple (k.map PyData.int))
  | [] => rfl
  | k :: ks => by
    simp only [List.map_cons, toPys, toPy_tupI, toPys_tupIs oh n ks]
theorem lay_tups : ∀ ks : List (List Int), PyData.canLayAll0 (ks.map fun k => .tuple (k.map PyData.int)) = true
  | [] => by simp [PyData.canLayAll0]
  | k :: ks => by simp [PyData.canLayAll0, PyData.canLay0, lay_ints, lay_tups ks]
theorem depth_tups : ∀ ks : List (List Int), PyData.depthAll (ks.map fun k => .tuple (k.map PyData.int)) ≤ 1
  | [] => by simp [PyData.depthAll]
  | k :: ks => by
    have := depth_tups ks
    simp only [List.map_cons, PyData.depthAll, PyData.depth, depth_ints]
    omega
theorem z_ne_told {oh : OH} {M : CM} : pNe (.tup (toldL M)) (.tup (toldL M)) oh = some (.bl false, oh) := by
  have e : toldL M = (((sortK (cks M)).filter fun k => decide (0 < cget M k)).map fun k => k ++ [cget M k]).map tupI := by
    unfold toldL
    rw [List.map_map]
    rfl
  rw [e]
  generalize (((sortK (cks M)).filter fun k => decide (0 < cget M k)).map fun k => k ++ [cget M k]) = ks
  refine z_ne_self (p := .tuple (ks.map fun k => .tuple (k.map PyData.int))) ?_ ?_
  · simp only [toPy, toPys_tupIs oh 58 ks, Option.map_some]
  · have := depth_tups ks
    have hd : (PyData.tuple (ks.map fun k => PyData.tuple (k.map PyData.int))).depth ≤ 64 := by
      rw [PyData.depth]
      omega
    simp only [SeqAt.shaped, PyData.canLay0, lay_tups, Bool.true_and, decide_eq_true hd]
end SK
set_option maxHeartbeats 4000000
namespace Wk
open PySem PySem.Spec PyProof.Rows L2 SKX SK LamX
def topS (i : Nat) : Stmt := PySem.Challenge.pw_skeinturns_k22_threads_go_round.main.body.getD i (.Pass ⟨0, 0, 0, 0⟩)
abbrev s_want_wheel : Stmt := topS 6
theorem sc_want_wheel : FnScope ["M"] ["M"] (defScope s_want_wheel) := ⟨rfl, rfl, rfl, by decide +kernel, rfl, by decide +kernel, by decide +kernel⟩
abbrev s_left : Stmt := topS 7
theorem sc_left : FnScope ["x", "m"] ["x", "m"] (defScope s_left) := ⟨rfl, rfl, rfl, by decide +kernel, rfl, by decide +kernel, by decide +kernel⟩
abbrev s_rest : Stmt := topS 8
theorem sc_rest : FnScope ["x", "M"] ["x", "M"] (defScope s_rest) := ⟨rfl, rfl, rfl, by decide +kernel, rfl, by decide +kernel, by decide +kernel⟩
abbrev s_slides_in : Stmt := topS 12
theorem sc_slides_in : FnScope ["deed"] ["deed"] (defScope s_slides_in) := ⟨rfl, rfl, rfl, by decide +kernel, rfl, by decide +kernel, by decide +kernel⟩
abbrev s_slides_of : Stmt := topS 13
theorem sc_slides_of : FnScope ["run", "deed"] ["run"] (defScope s_slides_of) := ⟨rfl, rfl, rfl, by decide +kernel, rfl, by decide +kernel, by decide +kernel⟩
abbrev s_round_deed : Stmt := topS 15
theorem sc_round_deed : FnScope ["wheel", "s", "z", "l", "c", "x", "hx", "cx", "length", "coat", "q", "start"] ["wheel", "s", "z", "l", "c", "x", "hx", "cx", "length", "coat", "q"] (defScope s_round_deed) := ⟨rfl, rfl, rfl, by decide +kernel, rfl, by decide +kernel, by decide +kernel⟩
abbrev s__law_pool : Stmt := topS 17
theorem sc__law_pool : FnScope ["script", "k", "cell", "big", "mixed"] ["script", "k"] (defScope s__law_pool) := ⟨rfl, rfl, rfl, by decide +kernel, rfl, by decide +kernel, by decide +kernel⟩
abbrev s__law_take : Stmt := topS 18
theorem sc__law_take : FnScope ["source", "top", "drawn"] ["source", "top"] (defScope s__law_take) := ⟨rfl, rfl, rfl, by decide +kernel, rfl, by decide +kernel, by decide +kernel⟩
abbrev s__law_one : Stmt := topS 19
theorem sc__law_one : FnScope ["source", "things"] ["source", "things"] (defScope s__law_one) := ⟨rfl, rfl, rfl, by decide +kernel, rfl, by decide +kernel, by decide +kernel⟩
abbrev s__law_rest : Stmt := topS 20
theorem sc__law_rest : FnScope ["x", "wheel"] ["x", "wheel"] (defScope s__law_rest) := ⟨rfl, rfl, rfl, by decide +kernel, rfl, by decide +kernel, by decide +kernel⟩
abbrev s__law_laid : Stmt := topS 21
theorem sc__law_laid : FnScope ["u", "v", "length", "coat", "wheel"] ["u", "v", "length", "coat", "wheel"] (defScope s__law_laid) := ⟨rfl, rfl, rfl, by decide +kernel, rfl, by decide +kernel, by decide +kernel⟩
abbrev s__law_add : Stmt := topS 22
theorem sc__law_add : FnScope ["counts", "thread", "count"] ["counts", "thread", "count"] (defScope s__law_add) := ⟨rfl, rfl, rfl, by decide +kernel, rfl, by decide +kernel, by decide +kernel⟩
abbrev s__law_told : Stmt := topS 23
theorem sc__law_told : FnScope ["counts", "thread"] ["counts"] (defScope s__law_told) := ⟨rfl, rfl, rfl, by decide +kernel, rfl, by decide +kernel, by decide +kernel⟩
abbrev s__law_length : Stmt := topS 24
theorem sc__law_length : FnScope ["source", "wheel"] ["source", "wheel"] (defScope s__law_length) := ⟨rfl, rfl, rfl, by decide +kernel, rfl, by decide +kernel, by decide +kernel⟩
abbrev s__law_head : Stmt := topS 25
theorem sc__law_head : FnScope ["source", "rule", "n", "wheel"] ["source", "rule"] (defScope s__law_head) := ⟨rfl, rfl, rfl, by decide +kernel, rfl, by decide +kernel, by decide +kernel⟩
abbrev s__law_threads : Stmt := topS 26
theorem sc__law_threads : FnScope ["source", "head", "counts", "many", "n", "wheel", "coats", "rule", "turn", "u", "v", "thread"] ["source", "head", "counts", "many"] (defScope s__law_threads) := ⟨rfl, rfl, rfl, by decide +kernel, rfl, by decide +kernel, by decide +kernel⟩
abbrev s__law_three_coats : Stmt := topS 27
theorem sc__law_three_coats : FnScope ["source", "head", "coats", "rule", "coat", "turn"] ["source", "head"] (defScope s__law_three_coats) := ⟨rfl, rfl, rfl, by decide +kernel, rfl, by decide +kernel, by decide +kernel⟩
abbrev s__law_places : Stmt := topS 28
theorem sc__law_places : FnScope ["source", "n", "many", "left_v", "turn"] ["source", "n", "many"] (defScope s__law_places) := ⟨rfl, rfl, rfl, by decide +kernel, rfl, by decide +kernel, by decide +kernel⟩
abbrev s__law_lets : Stmt := topS 29
theorem sc__law_lets : FnScope ["rule", "coat", "rails", "rail"] ["rule", "coat", "rails"] (defScope s__law_lets) := ⟨rfl, rfl, rfl, by decide +kernel, rfl, by decide +kernel, by decide +kernel⟩
abbrev s__law_is_deed : Stmt := topS 30
theorem sc__law_is_deed : FnScope ["deed", "part"] ["deed"] (defScope s__law_is_deed) := ⟨rfl, rfl, rfl, by decide +kernel, rfl, by decide +kernel, by decide +kernel⟩
abbrev s__law_walk : Stmt := topS 31
theorem sc__law_walk : FnScope ["counts", "head", "deed", "n", "wheel", "coats", "rule", "u", "v", "length", "coat", "w", "out", "outcoat", "rails", "lengths", "many", "turns", "old", "p", "x", "a", "b", "c"] ["counts", "head", "deed"] (defScope s__law_walk) := ⟨rfl, rfl, rfl, by decide +kernel, rfl, by decide +kernel, by decide +kernel⟩
abbrev s__law_led : Stmt := topS 32
theorem sc__law_led : FnScope ["counts", "head", "run", "now", "deed", "thread"] ["counts", "head", "run"] (defScope s__law_led) := ⟨rfl, rfl, rfl, by decide +kernel, rfl, by decide +kernel, by decide +kernel⟩
abbrev s__law_rounds : Stmt := topS 33
theorem sc__law_rounds : FnScope ["source"] ["source"] (defScope s__law_rounds) := ⟨rfl, rfl, rfl, by decide +kernel, rfl, by decide +kernel, by decide +kernel⟩
abbrev s__law_lengthened : Stmt := topS 34
theorem sc__law_lengthened : FnScope ["counts", "wheel", "old", "by", "now", "s", "z", "length", "coat", "thread"] ["counts", "wheel", "old", "by"] (defScope s__law_lengthened) := ⟨rfl, rfl, rfl, by decide +kernel, rfl, by decide +kernel, by decide +kernel⟩
abbrev s__law_right : Stmt := topS 35
theorem sc__law_right : FnScope ["counts", "head", "deed", "due", "many", "led"] ["counts", "head", "deed", "due", "many"] (defScope s__law_right) := ⟨rfl, rfl, rfl, by decide +kernel, rfl, by decide +kernel, by decide +kernel⟩
abbrev s__law_deed : Stmt := topS 36
theorem sc__law_deed : FnScope ["wheel", "s", "z", "first", "keeper", "spare", "many", "x", "hx", "cx", "length", "coat", "out", "back"] ["wheel", "s", "z", "first", "keeper", "spare", "many"] (defScope s__law_deed) := ⟨rfl, rfl, rfl, by decide +kernel, rfl, by decide +kernel, by decide +kernel⟩
abbrev s__law_none_refused : Stmt := topS 37
theorem sc__law_none_refused : FnScope ["wheel", "s", "z", "x", "long", "e"] ["wheel", "s", "z", "x", "long"] (defScope s__law_none_refused) := ⟨rfl, rfl, rfl, by decide +kernel, rfl, by decide +kernel, by decide +kernel⟩
abbrev s_law : Stmt := topS 38
theorem sc_law : FnScope ["script", "turn", "source", "counts", "head", "n", "wheel", "coats", "rule", "s", "z", "x", "c", "cx", "coat", "long", "hx", "many", "length", "end", "far", "dyed", "due", "deed", "great", "now"] ["script"] (defScope s_law) := ⟨rfl, rfl, rfl, by decide +kernel, rfl, by decide +kernel, by decide +kernel⟩
/-! ### the mirrors -/
def errs_ : List Str := ["BadWheel", "BadCount"]
def subOf (B c : Str) : Bool := c == B || B == "Refused"
def m_want_wheel : SM := (sIf (tNotD (tB1 (eCh pLe pLe (eC (.int 0)) (eVar 0) (eC (.int 1000000))))) (sRaise "BadWheel" (eVar 0)) sSkip)
def f_want_wheel : Fn := mkFn 1 (m_want_wheel)
def m_left : SM := (sRet (eIf (tB1 (e2 (pEq) (eVar 1) (eC (.int 0)))) (eVar 0) (e2 pMod (eVar 0) (eVar 1))))
def f_left : Fn := mkFn 2 (m_left)
def m_rest : SM := (sSeq (sExpr (eCall f_want_wheel (aCons (eVar 1) aNil))) (sRet (eCall f_left (aCons (eVar 0) (aCons (eVar 1) aNil)))))
def f_rest : Fn := mkFn 2 (m_rest)
def m_slides_in : SM := (sRet (eIf (tB1 (e2 (pEq) (e2 pIx (eVar 0) (eC (.int 0))) (eC (.str "carry")))) (e2 pIx (eVar 0) (eC (.int 8))) (e2 pMul (e2 pMul (eC (.int 2)) (e2 pIx (eVar 0) (eC (.int 11)))) (e2 pIx (eVar 0) (eC (.int 10))))))
def f_slides_in : Fn := mkFn 1 (m_slides_in)
def m_slides_of : SM := (sRet (eCB bSum (aCons (eLc (iVal (eVar 0)) ((CT.one 1)).g tYesD (eCall f_slides_in (aCons (eVar 1) aNil)) [1]) aNil)))
def f_slides_of : Fn := mkFn 2 (m_slides_of)
def m_round_deed : SM := (sSeq (sIf (tB1 (e2 (pEq) (eVar 10) (eC (.int 0)))) (sRaise "BadCount" (eC (.int 0))) sSkip) (sSeq (sSet 11 (eCall f_rest (aCons (e2 pSub (eC (.int 0)) (eVar 3)) (aCons (eVar 0) aNil)))) (sSeq (sIf (tB1 (e2 (pGt) (eVar 10) (eC (.int 0)))) (sRet (eTup (aCons (eC (.str "round")) (aCons (eVar 2) (aCons (eVar 1) (aCons (eVar 11) (aCons (eVar 4) (aCons (eVar 5) (aCons (eCall f_rest (aCons (eVar 6) (aCons (eVar 0) aNil))) (aCons (eVar 7) (aCons (eCall f_rest (aCons (e2 pSub (eC (.int 0)) (eVar 8)) (aCons (eVar 0) aNil))) (aCons (eVar 9) (aCons (eC (.int 1)) (aCons (eVar 10) aNil)))))))))))))) sSkip) (sRet (eTup (aCons (eC (.str "round")) (aCons (eVar 2) (aCons (eVar 1) (aCons (eVar 11) (aCons (eVar 4) (aCons (eVar 5) (aCons (eCall f_rest (aCons (eVar 8) (aCons (eVar 0) aNil))) (aCons (eVar 9) (aCons (eCall f_rest (aCons (e2 pSub (eC (.int 0)) (eVar 6)) (aCons (eVar 0) aNil))) (aCons (eVar 7) (aCons (eC (.int 1)) (aCons (e2 pSub (eC (.int 0)) (eVar 10)) aNil)))))))))))))))))
def f_round_deed : Fn := mkFn 12 (m_round_deed)
def m__law_pool : SM := (sSeq (sSet 2 (eC (.int 0))) (sSeq (sIf (tB1 (e2 (pLt) (eVar 1) (eCB bLen (aCons (eVar 0) aNil)))) (sSet 2 (e2 pIx (eVar 0) (eVar 1))) (sIf (tTru (eVar 0)) (sSet 2 (e2 pIx (eVar 0) (eC (.int 0)))) sSkip)) (sSeq (sSet 3 (eCB bMax2 (aCons (eCB bInt (aCons (eVar 2) aNil)) (aCons (eCB bInt (aCons (e2 pSub (e1 pNeg (eC (.int 1))) (eVar 2)) aNil)) aNil)))) (sSeq (sSet 4 (e2 pMod (eCB bInt (aCons (e2 pMul (e2 pAdd (e2 pAdd (e2 pAdd (e2 pMod (eCB bInt (aCons (eVar 3) aNil)) (eC (.int 2147483629))) (e2 pMul (e2 pMul (eC (.int 7919)) (eVar 1)) (eVar 1))) (e2 pMul (eC (.int 31)) (eVar 1))) (eC (.int 17))) (eC (.int 48271))) aNil)) (eC (.int 2147483647)))) (sRet (eLst (aCons (e2 pMul (eVar 3) (eCB bInt (aCons (e2 (pGe) (eVar 3) (e2 pPow (eC (.int 10)) (eC (.int 18)))) aNil))) (aCons (eVar 4) aNil))))))))
def f__law_pool : Fn := mkFn 5 (m__law_pool)
def m__law_take : SM := (sSeq (sIf (tB1 (e2 (pGt) (e2 pIx (eVar 0) (eC (.int 0))) (eC (.int 0)))) (sSeq (sSet 2 (e2 pMod (eCB bInt (aCons (e2 pIx (eVar 0) (eC (.int 0))) aNil)) (eVar 1))) (sSeq (sAsg (e2 pDiv (e2 pIx (eVar 0) (eC (.int 0))) (eVar 1)) (gSub (eVar 0) (eC (.int 0)))) (sRet (eVar 2)))) sSkip) (sSeq (sAsg (e2 pMod (eCB bInt (aCons (e2 pAdd (e2 pMul (e2 pIx (eVar 0) (eC (.int 1))) (eC (.int 39373))) (eC (.int 7))) aNil)) (eC (.int 2147483647))) (gSub (eVar 0) (eC (.int 1)))) (sRet (e2 pMod (eCB bInt (aCons (e2 pDiv (e2 pMod (eCB bInt (aCons (e2 pMul (e2 pIx (eVar 0) (eC (.int 1))) (e2 pIx (eVar 0) (eC (.int 1)))) aNil)) (eC (.int 2147483629))) (eC (.int 32))) aNil)) (eVar 1)))))
def f__law_take : Fn := mkFn 3 (m__law_take)
def m__law_one : SM := (sRet (e2 pIx (eVar 1) (eCall f__law_take (aCons (eVar 0) (aCons (eCB bLen (aCons (eVar 1) aNil)) aNil)))))
def f__law_one : Fn := mkFn 2 (m__law_one)
def m__law_rest : SM := (sRet (eIf (tB1 (e2 (pEq) (eVar 1) (eC (.int 0)))) (eVar 0) (e2 pMod (eCB bInt (aCons (eVar 0) aNil)) (eVar 1))))
def f__law_rest : Fn := mkFn 2 (m__law_rest)
def m__law_laid : SM := (sSeq (sIf (tB1 (e2 (pLt) (eVar 0) (eVar 1))) (sRet (eTup (aCons (eVar 0) (aCons (eVar 1) (aCons (eCall f__law_rest (aCons (eVar 2) (aCons (eVar 4) aNil))) (aCons (eVar 3) aNil)))))) sSkip) (sRet (eTup (aCons (eVar 1) (aCons (eVar 0) (aCons (eCall f__law_rest (aCons (e1 pNeg (eVar 2)) (aCons (eVar 4) aNil))) (aCons (eVar 3) aNil)))))))
def f__law_laid : Fn := mkFn 5 (m__law_laid)
def m__law_add : SM := (sAsg (e2 pAdd (eDGet2 (eVar 0) (eVar 1) (eC (.int 0))) (eVar 2)) (gSubD (eVar 0) (eVar 1)))
def f__law_add : Fn := mkFn 3 (m__law_add)
def m__law_told : SM := (sRet (eCB bTuple (aCons (eLc (iVal (eCB bSorted (aCons (eVar 0) aNil))) ((CT.one 1)).g (tB1 (e2 (pGt) (e2 pDIx (eVar 0) (eVar 1)) (eC (.int 0)))) (e2 pAdd (eVar 1) (eTup (aCons (e2 pDIx (eVar 0) (eVar 1)) aNil))) [1]) aNil)))
def f__law_told : Fn := mkFn 2 (m__law_told)
def m__law_length : SM := (sSeq (sIf (tB1 (e2 (pGt) (eVar 1) (eC (.int 0)))) (sRet (eCall f__law_take (aCons (eVar 0) (aCons (eVar 1) aNil)))) sSkip) (sSeq (sIf (tB1 (e2 (pEq) (eCall f__law_take (aCons (eVar 0) (aCons (eC (.int 8)) aNil))) (eC (.int 0)))) (sRet (e2 pMul (eCall f__law_one (aCons (eVar 0) (aCons (eLst (aCons (eC (.int 1)) (aCons (e1 pNeg (eC (.int 1))) aNil))) aNil))) (e2 pSub (e2 pPow (eC (.int 10)) (eC (.int 11))) (eCall f__law_take (aCons (eVar 0) (aCons (eC (.int 1000)) aNil)))))) sSkip) (sRet (e2 pSub (eCall f__law_take (aCons (eVar 0) (aCons (eC (.int 13)) aNil))) (eC (.int 6))))))
def f__law_length : Fn := mkFn 2 (m__law_length)
def m__law_head : SM := (sSeq (sPar2 2 3 (aCons (eCall f__law_one (aCons (eVar 0) (aCons (eLst (aCons (eC (.int 3)) (aCons (eC (.int 3)) (aCons (eC (.int 3)) (aCons (eC (.int 4)) (aCons (eC (.int 4)) (aCons (eC (.int 5)) aNil))))))) aNil))) (aCons (eCall f__law_one (aCons (eVar 0) (aCons (eLst (aCons (eC (.int 0)) (aCons (eC (.int 1)) (aCons (eC (.int 2)) (aCons (eC (.int 3)) (aCons (eC (.int 4)) (aCons (eC (.int 5)) (aCons (eC (.int 6)) (aCons (eC (.int 8)) (aCons (eC (.int 12)) (aCons (eCall f__law_take (aCons (eVar 0) (aCons (eC (.int 13)) aNil))) aNil))))))))))) aNil))) aNil))) (sRet (eTup (aCons (eVar 2) (aCons (eVar 3) (aCons (eCB bMax2 (aCons (eCall f__law_one (aCons (eVar 0) (aCons (eLst (aCons (eC (.int 1)) (aCons (eC (.int 2)) (aCons (eC (.int 2)) (aCons (eC (.int 3)) (aCons (eC (.int 4)) aNil)))))) aNil))) (aCons (e2 pAdd (eC (.int 1)) (eCB bInt (aCons (e2 (pEq) (eVar 1) (eC (.str "others"))) aNil))) aNil))) (aCons (eVar 1) aNil)))))))
def f__law_head : Fn := mkFn 4 (m__law_head)
def m__law_threads : SM := (sSeq (sAsg (eVar 1) (gT 4 (SK.gCons (gN 4) (SK.gCons (gN 5) (SK.gCons (gN 6) (SK.gCons (gN 7) SK.gNil)))))) (sFor (iRange1 (aCons (eVar 3) aNil)) (gN 8) (sSeq (sSet 9 (eCall f__law_take (aCons (eVar 0) (aCons (eVar 4) aNil)))) (sSeq (sSet 10 (e2 pMod (eCB bInt (aCons (e2 pAdd (e2 pAdd (eVar 9) (eC (.int 1))) (eCall f__law_take (aCons (eVar 0) (aCons (e2 pSub (eVar 4) (eC (.int 1))) aNil)))) aNil)) (eVar 4))) (sSeq (sSet 11 (eCall f__law_laid (aCons (eVar 9) (aCons (eVar 10) (aCons (eCall f__law_length (aCons (eVar 0) (aCons (eVar 5) aNil))) (aCons (eCall f__law_take (aCons (eVar 0) (aCons (eVar 6) aNil))) (aCons (eVar 5) aNil))))))) (sExpr (eCall f__law_add (aCons (eVar 2) (aCons (eVar 11) (aCons (eCall f__law_one (aCons (eVar 0) (aCons (eLst (aCons (eC (.int 1)) (aCons (eC (.int 1)) (aCons (eC (.int 1)) (aCons (eC (.int 2)) (aCons (eC (.int 3)) aNil)))))) aNil))) aNil))))))))))
def f__law_threads : Fn := mkFn 12 (m__law_threads)
def m__law_three_coats : SM := (sSeq (sAsg (eTup (aCons (e2 pIx (eVar 1) (eC (.int 2))) (aCons (e2 pIx (eVar 1) (eC (.int 3))) aNil))) (gT 2 (SK.gCons (gN 2) (SK.gCons (gN 3) SK.gNil)))) (sSeq (sSet 4 (eCall f__law_take (aCons (eVar 0) (aCons (eVar 2) aNil)))) (sSeq (sIf (tB1 (e2 (pEq) (eVar 3) (eC (.str "own")))) (sRet (eTup (aCons (eVar 4) (aCons (eVar 4) (aCons (eVar 4) aNil))))) sSkip) (sSeq (sIf (tB1 (e2 (pEq) (eVar 3) (eC (.str "others")))) (sRet (eCB bTuple (aCons (e2 pAdd (eLst (aCons (eVar 4) aNil)) (eLc (iRange1 (aCons (eC (.int 2)) aNil)) ((CT.one 5)).g tYesD (e2 pMod (eCB bInt (aCons (e2 pAdd (e2 pAdd (eVar 4) (eC (.int 1))) (eCall f__law_take (aCons (eVar 0) (aCons (e2 pSub (eVar 2) (eC (.int 1))) aNil)))) aNil)) (eVar 2)) [5])) aNil))) sSkip) (sRet (eTup (aCons (eVar 4) (aCons (eCall f__law_take (aCons (eVar 0) (aCons (eVar 2) aNil))) (aCons (eCall f__law_take (aCons (eVar 0) (aCons (eVar 2) aNil))) aNil)))))))))
def f__law_three_coats : Fn := mkFn 6 (m__law_three_coats)
def m__law_places : SM := (sSeq (sSet 3 (eLRg1 (eVar 1))) (sRet (eLc (iRange1 (aCons (eVar 2) aNil)) ((CT.one 4)).g tYesD (ePopAt (eVar 3) (aCons (eCall f__law_take (aCons (eVar 0) (aCons (eCB bLen (aCons (eVar 3) aNil)) aNil))) aNil)) [4])))
def f__law_places : Fn := mkFn 5 (m__law_places)
def m__law_lets : SM := (sSeq (sIf (tB1 (e2 (pEq) (eVar 0) (eC (.str "all")))) (sRet (eC (.bl true))) sSkip) (sRet (eCB bAll (aCons (eLc (iVal (eVar 2)) ((CT.one 3)).g tYesD (e2 (pEq) (e2 (pEq) (eVar 1) (e2 pIx (eVar 3) (eC (.int 3)))) (e2 (pEq) (eVar 0) (eC (.str "own")))) [3]) aNil))))
def f__law_lets : Fn := mkFn 4 (m__law_lets)
def m__law_is_deed : SM := (sSeq (sIf (tOrD (tNotD (tTru (eIsB "tuple" (eVar 0)))) (tB1 (e2 (pNotIn) (eTup (aCons (eSl (eVar 0) oNone (oSome (eC (.int 1)))) (aCons (eCB bLen (aCons (eVar 0) aNil)) aNil))) (eLst (aCons (eTup (aCons (eTup (aCons (eC (.str "carry")) aNil)) (aCons (eC (.int 9)) aNil))) (aCons (eTup (aCons (eTup (aCons (eC (.str "round")) aNil)) (aCons (eC (.int 12)) aNil))) aNil)))))) (sRet (eC (.bl false))) sSkip) (sRet (eCB bAll (aCons (eLc (iVal (eSl (eVar 0) (oSome (eC (.int 1))) oNone)) ((CT.one 1)).g tYesD (eAndD (eIsB "int" (eVar 1)) (e1 pNot (eIsB "bool" (eVar 1)))) [1]) aNil))))
def f__law_is_deed : Fn := mkFn 2 (m__law_is_deed)
def m__law_walk : SM := (sSeq (sAsg (eVar 1) (gT 4 (SK.gCons (gN 3) (SK.gCons (gN 4) (SK.gCons (gN 5) (SK.gCons (gN 6) SK.gNil)))))) (sSeq (sIf (tNotD (tTru (eCall f__law_is_deed (aCons (eVar 2) aNil)))) (sRet (eC (.bl false))) sSkip) (sSeq (sAsg (eSl (eVar 2) (oSome (eC (.int 1))) (oSome (eC (.int 8)))) (gT 7 (SK.gCons (gN 7) (SK.gCons (gN 8) (SK.gCons (gN 9) (SK.gCons (gN 10) (SK.gCons (gN 11) (SK.gCons (gN 12) (SK.gCons (gN 13) SK.gNil))))))))) (sSeq (sAsg (eTup (aCons (eLst (aCons (eTup (aCons (eVar 8) (aCons (eVar 11) (aCons (eVar 12) (aCons (eVar 13) aNil))))) aNil)) (aCons (eLst (aCons (eVar 9) (aCons (eVar 12) aNil))) (aCons (e2 pIx (eVar 2) (eC (.int 8))) (aCons (eC (.int 1)) aNil))))) (gT 4 (SK.gCons (gN 14) (SK.gCons (gN 15) (SK.gCons (gN 16) (SK.gCons (gN 17) SK.gNil)))))) (sSeq (sIf (tB1 (e2 (pEq) (eCB bLen (aCons (eVar 2) aNil)) (eC (.int 12)))) (sAsg (eTup (aCons (e2 pAdd (eVar 14) (eLst (aCons (eTup (aCons (eVar 11) (aCons (eVar 8) (aCons (e2 pIx (eVar 2) (eC (.int 8))) (aCons (e2 pIx (eVar 2) (eC (.int 9))) aNil))))) aNil))) (aCons (e2 pAdd (eVar 15) (eLst (aCons (e2 pIx (eVar 2) (eC (.int 8))) aNil))) (aCons (e2 pIx (eVar 2) (eC (.int 10))) (aCons (e2 pIx (eVar 2) (eC (.int 11))) aNil))))) (gT 4 (SK.gCons (gN 14) (SK.gCons (gN 15) (SK.gCons (gN 16) (SK.gCons (gN 17) SK.gNil)))))) sSkip) (sSeq (sIf (tOrD (tB1 (e2 (pNe) (eCB bLen (aCons (eLc (iRange1 (aCons (eVar 3) aNil)) ((CT.one 19)).g (tB1 (e2 (pIn) (eVar 19) (eTup (aCons (eVar 7) (aCons (eVar 8) (aCons (eVar 11) aNil)))))) (eVar 19) [19]) aNil)) (eC (.int 3)))) (tOrD (tB1 (e2 (pLt) (eVar 16) (eC (.int 1)))) (tNotD (tB1 (eCh pLe pLt (eC (.int 1)) (eVar 17) (e2 pPow (eC (.int 10)) (eC (.int 40)))))))) (sRet (eC (.bl false))) sSkip) (sSeq (sIf (tOrD (tTru (eCB bAny (aCons (eLc (iVal (eVar 15)) ((CT.one 20)).g tYesD (e2 (pNe) (eCall f__law_rest (aCons (eVar 20) (aCons (eVar 4) aNil))) (eVar 20)) [20]) aNil))) (tNotD (tTru (eCall f__law_lets (aCons (eVar 6) (aCons (eVar 10) (aCons (eVar 14) aNil))))))) (sRet (eC (.bl false))) sSkip) (sSeq (sIf (tTru (eCB bAny (aCons (eLc (iVal (eVar 14)) ((CT.many [21, 22, 20, 23])).g tYesD (e2 (pLt) (eDGet2 (eVar 0) (eCall f__law_laid (aCons (eVar 21) (aCons (eVar 22) (aCons (eVar 20) (aCons (eVar 23) (aCons (eVar 4) aNil)))))) (eC (.int 0))) (eC (.int 1))) [21, 22, 20, 23]) aNil))) (sRet (eC (.bl false))) sSkip) (sSeq (sSet 18 (eCall f__law_laid (aCons (eVar 7) (aCons (eVar 8) (aCons (eVar 9) (aCons (eVar 10) (aCons (eVar 4) aNil))))))) (sSeq (sIf (tB1 (e2 (pLt) (eDGet2 (eVar 0) (eVar 18) (eC (.int 0))) (eVar 16))) (sRet (eC (.bl false))) sSkip) (sSeq (sAsg (e2 pSub (e2 pDIx (eVar 0) (eVar 18)) (eVar 16)) (gSubD (eVar 0) (eVar 18))) (sSeq (sIf (tB1 (e2 (pEq) (eCB bLen (aCons (eVar 2) aNil)) (eC (.int 9)))) (sExpr (eCall f__law_add (aCons (eVar 0) (aCons (eCall f__law_laid (aCons (eVar 7) (aCons (eVar 11) (aCons (e2 pAdd (eVar 9) (eVar 12)) (aCons (eVar 10) (aCons (eVar 4) aNil)))))) (aCons (eVar 16) aNil))))) (sExpr (eCall f__law_add (aCons (eVar 0) (aCons (eCall f__law_laid (aCons (eVar 7) (aCons (eVar 8) (aCons (e2 pAdd (eVar 9) (e2 pMul (eVar 17) (e2 pAdd (eVar 12) (e2 pIx (eVar 2) (eC (.int 8)))))) (aCons (eVar 10) (aCons (eVar 4) aNil)))))) (aCons (eVar 16) aNil)))))) (sRet (eC (.bl true)))))))))))))))
def f__law_walk : Fn := mkFn 24 (m__law_walk)
def m__law_led : SM := (sSeq (sSet 3 (eCB bDict (aCons (eLcD 0 ((CT.one 5)).g tYesD (eTup (aCons (eVar 5) (aCons (e2 pDIx (eVar 0) (eVar 5)) aNil))) [5]) aNil))) (sSeq (sIf (tNotD (tTru (eIsB "tuple" (eVar 2)))) (sRet (eC .non)) sSkip) (sSeq (sFor (iVal (eVar 2)) (gN 4) (sIf (tNotD (tTru (eCall f__law_walk (aCons (eVar 3) (aCons (eVar 1) (aCons (eVar 4) aNil)))))) (sRet (eC .non)) sSkip)) (sRet (eVar 3)))))
def f__law_led : Fn := mkFn 6 (m__law_led)
def m__law_rounds : SM := (sSeq (sIf (tB1 (e2 (pEq) (eCall f__law_take (aCons (eVar 0) (aCons (eC (.int 5)) aNil))) (eC (.int 0)))) (sRet (e2 pMul (eCall f__law_one (aCons (eVar 0) (aCons (eLst (aCons (eC (.int 1)) (aCons (e1 pNeg (eC (.int 1))) aNil))) aNil))) (e2 pSub (e2 pSub (e2 pPow (eC (.int 10)) (eC (.int 40))) (eC (.int 1))) (eCall f__law_take (aCons (eVar 0) (aCons (e2 pPow (eC (.int 10)) (eC (.int 9))) aNil)))))) sSkip) (sRet (e2 pMul (eCall f__law_one (aCons (eVar 0) (aCons (eLst (aCons (eC (.int 1)) (aCons (e1 pNeg (eC (.int 1))) aNil))) aNil))) (e2 pAdd (eC (.int 1)) (eCall f__law_take (aCons (eVar 0) (aCons (eC (.int 6)) aNil)))))))
def f__law_rounds : Fn := mkFn 1 (m__law_rounds)
def m__law_lengthened : SM := (sSeq (sSet 4 (eCB bDict (aCons (eLcD 0 ((CT.one 9)).g tYesD (eTup (aCons (eVar 9) (aCons (e2 pDIx (eVar 0) (eVar 9)) aNil))) [9]) aNil))) (sSeq (sAsg (eVar 2) (gT 4 (SK.gCons (gN 5) (SK.gCons (gN 6) (SK.gCons (gN 7) (SK.gCons (gN 8) SK.gNil)))))) (sSeq (sExpr (eCall f__law_add (aCons (eVar 4) (aCons (eCall f__law_laid (aCons (eVar 5) (aCons (eVar 6) (aCons (eVar 7) (aCons (eVar 8) (aCons (eVar 1) aNil)))))) (aCons (e1 pNeg (eC (.int 1))) aNil))))) (sSeq (sExpr (eCall f__law_add (aCons (eVar 4) (aCons (eCall f__law_laid (aCons (eVar 5) (aCons (eVar 6) (aCons (e2 pAdd (eVar 7) (eVar 3)) (aCons (eVar 8) (aCons (eVar 1) aNil)))))) (aCons (eC (.int 1)) aNil))))) (sRet (eVar 4))))))
def f__law_lengthened : Fn := mkFn 10 (m__law_lengthened)
def m__law_right : SM := (sSeq (sSet 5 (eCall f__law_led (aCons (eVar 0) (aCons (eVar 1) (aCons (eTup (aCons (eVar 2) aNil)) aNil))))) (sRet (eAndD (e2 (pIsN true) (eVar 5) (eC .non)) (eAndD (e2 (pEq) (eCall f__law_told (aCons (eVar 5) aNil)) (eCall f__law_told (aCons (eVar 3) aNil))) (e2 (pEq) (eCall f_slides_of (aCons (eTup (aCons (eVar 2) aNil)) aNil)) (e2 pMul (eC (.int 2)) (eVar 4)))))))
def f__law_right : Fn := mkFn 6 (m__law_right)
def m__law_deed : SM := (sSeq (sAsg (eVar 4) (gT 3 (SK.gCons (gN 7) (SK.gCons (gN 8) (SK.gCons (gN 9) SK.gNil))))) (sSeq (sAsg (eVar 5) (gT 3 (SK.gCons (gN 7) (SK.gCons (gN 10) (SK.gCons (gN 11) SK.gNil))))) (sSeq (sPar2 12 13 (aCons (eCall f__law_rest (aCons (eVar 8) (aCons (eVar 0) aNil))) (aCons (eCall f__law_rest (aCons (e1 pNeg (eVar 10)) (aCons (eVar 0) aNil))) aNil))) (sSeq (sIf (tB1 (e2 (pGt) (eVar 6) (eC (.int 0)))) (sRet (eTup (aCons (eC (.str "round")) (aCons (eVar 2) (aCons (eVar 1) (aCons (eCall f__law_rest (aCons (e1 pNeg (e2 pIx (eVar 3) (eC (.int 0)))) (aCons (eVar 0) aNil))) (aCons (e2 pIx (eVar 3) (eC (.int 1))) (aCons (eVar 7) (aCons (eVar 12) (aCons (eVar 9) (aCons (eVar 13) (aCons (eVar 11) (aCons (eC (.int 1)) (aCons (eVar 6) aNil)))))))))))))) sSkip) (sSeq (sPar2 12 13 (aCons (eCall f__law_rest (aCons (eVar 10) (aCons (eVar 0) aNil))) (aCons (eCall f__law_rest (aCons (e1 pNeg (eVar 8)) (aCons (eVar 0) aNil))) aNil))) (sRet (eTup (aCons (eC (.str "round")) (aCons (eVar 2) (aCons (eVar 1) (aCons (eCall f__law_rest (aCons (e1 pNeg (e2 pIx (eVar 3) (eC (.int 0)))) (aCons (eVar 0) aNil))) (aCons (e2 pIx (eVar 3) (eC (.int 1))) (aCons (eVar 7) (aCons (eVar 12) (aCons (eVar 11) (aCons (eVar 13) (aCons (eVar 9) (aCons (eC (.int 1)) (aCons (e1 pNeg (eVar 6)) aNil)))))))))))))))))))
def f__law_deed : Fn := mkFn 14 (m__law_deed)
def m__law_none_refused : SM := (sSeq (sTryN errs_ (sExpr (eCallK0 f_round_deed [10, 9, 8, 7, 6, 5, 4, 3, 2, 1, 0] (aCons (eC (.int 0)) (aCons (eC (.int 0)) (aCons (eVar 4) (aCons (eC (.int 0)) (aCons (eVar 4) (aCons (eVar 3) (aCons (eC (.int 0)) (aCons (eVar 4) (aCons (eVar 2) (aCons (eVar 1) (aCons (eVar 0) aNil))))))))))))) [(subOf "BadCount", fun c w s oh => if 5 < s.length then (match wEq 0 c w with | some y => .rt y oh | none => .bad) else .bad), (subOf "Refused", fun _ _ s oh => (sRet (eC (.bl false))) s oh)]) (sRet (eC (.bl false))))
def f__law_none_refused : Fn := mkFn 6 (m__law_none_refused)
def m_law : SM := (sSeq (sFor (iRange1 (aCons (eC (.int 5)) aNil)) (gN 1) (sSeq (sPar2 2 3 (aCons (eCall f__law_pool (aCons (eVar 0) (aCons (eVar 1) aNil))) (aCons (eCB bDict (aCons (eLst aNil) aNil)) aNil))) (sSeq (sSet 4 (eCall f__law_head (aCons (eVar 2) (aCons (eCall f__law_one (aCons (eVar 2) (aCons (eLst (aCons (eC (.str "all")) (aCons (eC (.str "others")) (aCons (eC (.str "own")) aNil)))) aNil))) aNil)))) (sSeq (sAsg (eVar 4) (gT 4 (SK.gCons (gN 5) (SK.gCons (gN 6) (SK.gCons (gN 7) (SK.gCons (gN 8) SK.gNil)))))) (sSeq (sExpr (eCall f__law_threads (aCons (eVar 2) (aCons (eVar 4) (aCons (eVar 3) (aCons (eCall f__law_take (aCons (eVar 2) (aCons (eC (.int 5)) aNil))) aNil)))))) (sSeq (sAsg (eCall f__law_places (aCons (eVar 2) (aCons (eVar 5) (aCons (eC (.int 3)) aNil)))) (gT 3 (SK.gCons (gN 9) (SK.gCons (gN 10) (SK.gCons (gN 11) SK.gNil))))) (sSeq (sAsg (eCall f__law_three_coats (aCons (eVar 2) (aCons (eVar 4) aNil))) (gT 3 (SK.gCons (gN 12) (SK.gCons (gN 13) (SK.gCons (gN 14) SK.gNil))))) (sSeq (sPar3 15 16 17 (aCons (eCall f__law_length (aCons (eVar 2) (aCons (eVar 6) aNil))) (aCons (eCall f__law_length (aCons (eVar 2) (aCons (eVar 6) aNil))) (aCons (eCall f__law_rounds (aCons (eVar 2) aNil)) aNil)))) (sSeq (sSet 18 (eCall f__law_rest (aCons (e2 pAdd (eVar 16) (eCall f__law_one (aCons (eVar 2) (aCons (eLst (aCons (eC (.int 0)) (aCons (eC (.int 1)) (aCons (eCall f__law_length (aCons (eVar 2) (aCons (eVar 6) aNil))) aNil)))) aNil)))) (aCons (eVar 6) aNil)))) (sSeq (sFor (iVal (eLst (aCons (eTup (aCons (eVar 10) (aCons (eVar 15) (aCons (eVar 12) aNil)))) (aCons (eTup (aCons (eVar 11) (aCons (eVar 16) (aCons (eVar 13) aNil)))) (aCons (eTup (aCons (eVar 11) (aCons (eVar 18) (aCons (eVar 14) aNil)))) aNil))))) (gT 3 (SK.gCons (gN 19) (SK.gCons (gN 20) (SK.gCons (gN 21) SK.gNil)))) (sExpr (eCall f__law_add (aCons (eVar 3) (aCons (eCall f__law_laid (aCons (eVar 9) (aCons (eVar 19) (aCons (eVar 20) (aCons (eVar 21) (aCons (eVar 6) aNil)))))) (aCons (eC (.int 1)) aNil)))))) (sSeq (sSet 22 (eCall f__law_lengthened (aCons (eVar 3) (aCons (eVar 6) (aCons (eTup (aCons (eVar 9) (aCons (eVar 10) (aCons (eVar 15) (aCons (eVar 12) aNil))))) (aCons (e2 pMul (eVar 17) (e2 pSub (eVar 18) (eVar 16))) aNil)))))) (sSeq (sSet 23 (eCallK f_round_deed [0, 1, 2, 3, 4, 5, 6, 7, 8, 9, 10] (aCons (eVar 6) (aCons (eVar 9) (aCons (eVar 10) (aCons (eVar 15) (aCons (eVar 12) (aCons (eVar 11) (aCons (eVar 16) (aCons (eVar 13) (aCons (eVar 18) (aCons (eVar 14) aNil)))))))))) (aCons (eVar 17) aNil))) (sSeq (sIf (tB1 (e2 (pNe) (eVar 23) (eCall f__law_deed (aCons (eVar 6) (aCons (eVar 9) (aCons (eVar 10) (aCons (eTup (aCons (eVar 15) (aCons (eVar 12) aNil))) (aCons (eTup (aCons (eVar 11) (aCons (eVar 16) (aCons (eVar 13) aNil)))) (aCons (eTup (aCons (eVar 11) (aCons (eVar 18) (aCons (eVar 14) aNil)))) (aCons (eVar 17) aNil)))))))))) (sRet (eC (.bl false))) sSkip) (sSeq (sIf (tNotD (tTru (eCall f__law_right (aCons (eVar 3) (aCons (eVar 4) (aCons (eVar 23) (aCons (eVar 22) (aCons (eCB bAbs (aCons (eVar 17) aNil)) aNil)))))))) (sRet (eC (.bl false))) sSkip) (sSeq (sSet 24 (e2 pMul (eVar 17) (e2 pPow (eC (.int 10)) (eC (.int 40))))) (sSeq (sSet 23 (eCallK f_round_deed [0, 1, 2, 3, 4, 5, 6, 7, 8, 9, 10] (aCons (eVar 6) (aCons (eVar 9) (aCons (eVar 10) (aCons (eVar 15) (aCons (eVar 12) (aCons (eVar 11) (aCons (eVar 16) (aCons (eVar 13) (aCons (eVar 18) (aCons (eVar 14) aNil)))))))))) (aCons (eVar 24) aNil))) (sSeq (sIf (tB1 (e2 (pNe) (eVar 23) (eCall f__law_deed (aCons (eVar 6) (aCons (eVar 9) (aCons (eVar 10) (aCons (eTup (aCons (eVar 15) (aCons (eVar 12) aNil))) (aCons (eTup (aCons (eVar 11) (aCons (eVar 16) (aCons (eVar 13) aNil)))) (aCons (eTup (aCons (eVar 11) (aCons (eVar 18) (aCons (eVar 14) aNil)))) (aCons (eVar 24) aNil)))))))))) (sRet (eC (.bl false))) sSkip) (sSeq (sSet 25 (eCall f__law_rest (aCons (e2 pAdd (eVar 15) (e2 pMul (eVar 17) (e2 pSub (eVar 18) (eVar 16)))) (aCons (eVar 6) aNil)))) (sSeq (sSet 23 (eCallK f_round_deed [0, 1, 2, 3, 4, 5, 6, 7, 8, 9, 10] (aCons (eVar 6) (aCons (eVar 9) (aCons (eVar 10) (aCons (eVar 25) (aCons (eVar 12) (aCons (eVar 11) (aCons (eVar 16) (aCons (eVar 13) (aCons (eVar 18) (aCons (eVar 14) aNil)))))))))) (aCons (e1 pNeg (eVar 17)) aNil))) (sSeq (sIf (tNotD (tTru (eCall f__law_right (aCons (eVar 22) (aCons (eVar 4) (aCons (eVar 23) (aCons (eVar 3) (aCons (eCB bAbs (aCons (eVar 17) aNil)) aNil)))))))) (sRet (eC (.bl false))) sSkip) (sSeq (sSet 22 (eCall f__law_lengthened (aCons (eVar 3) (aCons (eVar 6) (aCons (eTup (aCons (eVar 9) (aCons (eVar 10) (aCons (eVar 15) (aCons (eVar 12) aNil))))) (aCons (e2 pSub (eVar 18) (eVar 16)) aNil)))))) (sSeq (sIf (tNotD (tTru (eCall f__law_right (aCons (eVar 3) (aCons (eVar 4) (aCons (eCallD f_round_deed [.int 1] (aCons (eVar 6) (aCons (eVar 9) (aCons (eVar 10) (aCons (eVar 15) (aCons (eVar 12) (aCons (eVar 11) (aCons (eVar 16) (aCons (eVar 13) (aCons (eVar 18) (aCons (eVar 14) aNil))))))))))) (aCons (eVar 22) (aCons (eC (.int 1)) aNil)))))))) (sRet (eC (.bl false))) sSkip) (sIf (tNotD (tTru (eCall f__law_none_refused (aCons (eVar 6) (aCons (eVar 9) (aCons (eVar 10) (aCons (eVar 11) (aCons (eVar 15) aNil)))))))) (sRet (eC (.bl false))) sSkip))))))))))))))))))))))) (sRet (eC (.bl true))))
def f_law : Fn := mkFn 26 (m_law)
/-! ### what the top has written -/
structure Txt (PP : Program) (K : PySem.W.Frag) (mg : Str → Option Value) (fI cc cda C_Refused C_BadWheel C_BadCount : Addr) (a_want_wheel a_left a_rest a_slides_in a_slides_of a_round_deed a__law_pool a__law_take a__law_one a__law_rest a__law_laid a__law_add a__law_told a__law_length a__law_head a__law_threads a__law_three_coats a__law_places a__law_lets a__law_is_deed a__law_walk a__law_led a__law_rounds a__law_lengthened a__law_right a__law_deed a__law_none_refused a_law : Addr) (fd_want_wheel fd_left fd_rest fd_slides_in fd_slides_of fd_round_deed fd__law_pool fd__law_take fd__law_one fd__law_rest fd__law_laid fd__law_add fd__law_told fd__law_length fd__law_head fd__law_threads fd__law_three_coats fd__law_places fd__law_lets fd__law_is_deed fd__law_walk fd__law_led fd__law_rounds fd__law_lengthened fd__law_right fd__law_deed fd__law_none_refused fd_law : FuncData) : Prop where
  ref : RefTxt PP K mg C_Refused fI cc cda
  e_Refused : ErrTxt K mg C_Refused fI "Refused" C_Refused
  e_BadWheel : ErrTxt K mg C_Refused fI "BadWheel" C_BadWheel
  e_BadCount : ErrTxt K mg C_Refused fI "BadCount" C_BadCount
  exm_BadCount : ∀ c C, errs_.contains c = true → mg c = some (.ref C) → PySem.W.exmOne K (.ref C) (.ref C_BadCount) = some (subOf "BadCount" c)
  exm_Refused : ∀ c C, errs_.contains c = true → mg c = some (.ref C) → PySem.W.exmOne K (.ref C) (.ref C_Refused) = some (subOf "Refused" c)
  g_CARRY : ∃ tk, mg "CARRY" = some (.str "carry" tk)
  g_MOST_WHEEL : ∃ tk, mg "MOST_WHEEL" = some (.int 1000000 tk)
  g_ROUND : ∃ tk, mg "ROUND" = some (.str "round" tk)
  b_abs : mg "abs" = none
  b_all : mg "all" = none
  b_any : mg "any" = none
  b_bool : mg "bool" = none
  b_dict : mg "dict" = none
  b_int : mg "int" = none
  b_isinstance : mg "isinstance" = none
  b_len : mg "len" = none
  b_list : mg "list" = none
  b_max : mg "max" = none
  b_range : mg "range" = none
  b_sorted : mg "sorted" = none
  b_sum : mg "sum" = none
  b_tuple : mg "tuple" = none
  m_want_wheel : mg "want_wheel" = some (.ref a_want_wheel)
  F_want_wheel : Fun K "want_wheel" "want_wheel" s_want_wheel a_want_wheel fd_want_wheel
  m_left : mg "left" = some (.ref a_left)
  F_left : Fun K "left" "left" s_left a_left fd_left
  m_rest : mg "rest" = some (.ref a_rest)
  F_rest : Fun K "rest" "rest" s_rest a_rest fd_rest
  m_slides_in : mg "slides_in" = some (.ref a_slides_in)
  F_slides_in : Fun K "slides_in" "slides_in" s_slides_in a_slides_in fd_slides_in
  m_slides_of : mg "slides_of" = some (.ref a_slides_of)
  F_slides_of : Fun K "slides_of" "slides_of" s_slides_of a_slides_of fd_slides_of
  m_round_deed : mg "round_deed" = some (.ref a_round_deed)
  F_round_deed : Fun K "round_deed" "round_deed" s_round_deed a_round_deed fd_round_deed
  KD_round_deed : Kw1 K "round_deed" "round_deed" s_round_deed "q" 1 fd_round_deed
  m__law_pool : mg "_law_pool" = some (.ref a__law_pool)
  F__law_pool : Fun K "_law_pool" "_law_pool" s__law_pool a__law_pool fd__law_pool
  m__law_take : mg "_law_take" = some (.ref a__law_take)
  F__law_take : Fun K "_law_take" "_law_take" s__law_take a__law_take fd__law_take
  m__law_one : mg "_law_one" = some (.ref a__law_one)
  F__law_one : Fun K "_law_one" "_law_one" s__law_one a__law_one fd__law_one
  m__law_rest : mg "_law_rest" = some (.ref a__law_rest)
  F__law_rest : Fun K "_law_rest" "_law_rest" s__law_rest a__law_rest fd__law_rest
  m__law_laid : mg "_law_laid" = some (.ref a__law_laid)
  F__law_laid : Fun K "_law_laid" "_law_laid" s__law_laid a__law_laid fd__law_laid
  m__law_add : mg "_law_add" = some (.ref a__law_add)
  F__law_add : Fun K "_law_add" "_law_add" s__law_add a__law_add fd__law_add
  m__law_told : mg "_law_told" = some (.ref a__law_told)
  F__law_told : Fun K "_law_told" "_law_told" s__law_told a__law_told fd__law_told
  m__law_length : mg "_law_length" = some (.ref a__law_length)
  F__law_length : Fun K "_law_length" "_law_length" s__law_length a__law_length fd__law_length
  m__law_head : mg "_law_head" = some (.ref a__law_head)
  F__law_head : Fun K "_law_head" "_law_head" s__law_head a__law_head fd__law_head
  m__law_threads : mg "_law_threads" = some (.ref a__law_threads)
  F__law_threads : Fun K "_law_threads" "_law_threads" s__law_threads a__law_threads fd__law_threads
  m__law_three_coats : mg "_law_three_coats" = some (.ref a__law_three_coats)
  F__law_three_coats : Fun K "_law_three_coats" "_law_three_coats" s__law_three_coats a__law_three_coats fd__law_three_coats
  m__law_places : mg "_law_places" = some (.ref a__law_places)
  F__law_places : Fun K "_law_places" "_law_places" s__law_places a__law_places fd__law_places
  m__law_lets : mg "_law_lets" = some (.ref a__law_lets)
  F__law_lets : Fun K "_law_lets" "_law_lets" s__law_lets a__law_lets fd__law_lets
  m__law_is_deed : mg "_law_is_deed" = some (.ref a__law_is_deed)
  F__law_is_deed : Fun K "_law_is_deed" "_law_is_deed" s__law_is_deed a__law_is_deed fd__law_is_deed
  m__law_walk : mg "_law_walk" = some (.ref a__law_walk)
  F__law_walk : Fun K "_law_walk" "_law_walk" s__law_walk a__law_walk fd__law_walk
  m__law_led : mg "_law_led" = some (.ref a__law_led)
  F__law_led : Fun K "_law_led" "_law_led" s__law_led a__law_led fd__law_led
  m__law_rounds : mg "_law_rounds" = some (.ref a__law_rounds)
  F__law_rounds : Fun K "_law_rounds" "_law_rounds" s__law_rounds a__law_rounds fd__law_rounds
  m__law_lengthened : mg "_law_lengthened" = some (.ref a__law_lengthened)
  F__law_lengthened : Fun K "_law_lengthened" "_law_lengthened" s__law_lengthened a__law_lengthened fd__law_lengthened
  m__law_right : mg "_law_right" = some (.ref a__law_right)
  F__law_right : Fun K "_law_right" "_law_right" s__law_right a__law_right fd__law_right
  m__law_deed : mg "_law_deed" = some (.ref a__law_deed)
  F__law_deed : Fun K "_law_deed" "_law_deed" s__law_deed a__law_deed fd__law_deed
  m__law_none_refused : mg "_law_none_refused" = some (.ref a__law_none_refused)
  F__law_none_refused : Fun K "_law_none_refused" "_law_none_refused" s__law_none_refused a__law_none_refused fd__law_none_refused
  m_law : mg "law" = some (.ref a_law)
  F_law : Fun K "law" "law" s_law a_law fd_law
section
variable {PP : Program} {w : World} {K : PySem.W.Frag} {mg : Str → Option Value} {base : Heap} {fI cc cda C_Refused C_BadWheel C_BadCount : Addr} {a_want_wheel a_left a_rest a_slides_in a_slides_of a_round_deed a__law_pool a__law_take a__law_one a__law_rest a__law_laid a__law_add a__law_told a__law_length a__law_head a__law_threads a__law_three_coats a__law_places a__law_lets a__law_is_deed a__law_walk a__law_led a__law_rounds a__law_lengthened a__law_right a__law_deed a__law_none_refused a_law : Addr} {fd_want_wheel fd_left fd_rest fd_slides_in fd_slides_of fd_round_deed fd__law_pool fd__law_take fd__law_one fd__law_rest fd__law_laid fd__law_add fd__law_told fd__law_length fd__law_head fd__law_threads fd__law_three_coats fd__law_places fd__law_lets fd__law_is_deed fd__law_walk fd__law_led fd__law_rounds fd__law_lengthened fd__law_right fd__law_deed fd__law_none_refused fd_law : FuncData}
theorem errs_of {X : Cx} (hK : X.K = K) (hm : X.mg = mg) (T : Txt PP K mg fI cc cda C_Refused C_BadWheel C_BadCount a_want_wheel a_left a_rest a_slides_in a_slides_of a_round_deed a__law_pool a__law_take a__law_one a__law_rest a__law_laid a__law_add a__law_told a__law_length a__law_head a__law_threads a__law_three_coats a__law_places a__law_lets a__law_is_deed a__law_walk a__law_led a__law_rounds a__law_lengthened a__law_right a__law_deed a__law_none_refused a_law fd_want_wheel fd_left fd_rest fd_slides_in fd_slides_of fd_round_deed fd__law_pool fd__law_take fd__law_one fd__law_rest fd__law_laid fd__law_add fd__law_told fd__law_length fd__law_head fd__law_threads fd__law_three_coats fd__law_places fd__law_lets fd__law_is_deed fd__law_walk fd__law_led fd__law_rounds fd__law_lengthened fd__law_right fd__law_deed fd__law_none_refused fd_law) : Errs X C_Refused fI errs_ := by
  refine ⟨fun c C h1 h2 => ?_⟩
  subst hK; subst hm
  rw [List.contains_iff_mem] at h1
  simp only [errs_, List.mem_cons, List.not_mem_nil, or_false] at h1
  rcases h1 with rfl | rfl
  · have e := T.e_BadWheel.gC.symm.trans h2
    cases e
    exact T.e_BadWheel
  · have e := T.e_BadCount.gC.symm.trans h2
    cases e
    exact T.e_BadCount
theorem bd_want_wheel (T : Txt PP K mg fI cc cda C_Refused C_BadWheel C_BadCount a_want_wheel a_left a_rest a_slides_in a_slides_of a_round_deed a__law_pool a__law_take a__law_one a__law_rest a__law_laid a__law_add a__law_told a__law_length a__law_head a__law_threads a__law_three_coats a__law_places a__law_lets a__law_is_deed a__law_walk a__law_led a__law_rounds a__law_lengthened a__law_right a__law_deed a__law_none_refused a_law fd_want_wheel fd_left fd_rest fd_slides_in fd_slides_of fd_round_deed fd__law_pool fd__law_take fd__law_one fd__law_rest fd__law_laid fd__law_add fd__law_told fd__law_length fd__law_head fd__law_threads fd__law_three_coats fd__law_places fd__law_lets fd__law_is_deed fd__law_walk fd__law_led fd__law_rounds fd__law_lengthened fd__law_right fd__law_deed fd__law_none_refused fd_law) : Binds K fd_want_wheel ["M"] [] := by
  obtain ⟨oc, od, kV, doc, pm, an, cdv, ct, osl, rfl, _⟩ := T.F_want_wheel.ex
  exact Binds.all fun us hl => match us, hl with | [_], _ => rfl
theorem bd_left (T : Txt PP K mg fI cc cda C_Refused C_BadWheel C_BadCount a_want_wheel a_left a_rest a_slides_in a_slides_of a_round_deed a__law_pool a__law_take a__law_one a__law_rest a__law_laid a__law_add a__law_told a__law_length a__law_head a__law_threads a__law_three_coats a__law_places a__law_lets a__law_is_deed a__law_walk a__law_led a__law_rounds a__law_lengthened a__law_right a__law_deed a__law_none_refused a_law fd_want_wheel fd_left fd_rest fd_slides_in fd_slides_of fd_round_deed fd__law_pool fd__law_take fd__law_one fd__law_rest fd__law_laid fd__law_add fd__law_told fd__law_length fd__law_head fd__law_threads fd__law_three_coats fd__law_places fd__law_lets fd__law_is_deed fd__law_walk fd__law_led fd__law_rounds fd__law_lengthened fd__law_right fd__law_deed fd__law_none_refused fd_law) : Binds K fd_left ["x", "m"] [] := by
  obtain ⟨oc, od, kV, doc, pm, an, cdv, ct, osl, rfl, _⟩ := T.F_left.ex
  exact Binds.all fun us hl => match us, hl with | [_, _], _ => rfl
theorem bd_rest (T : Txt PP K mg fI cc cda C_Refused C_BadWheel C_BadCount a_want_wheel a_left a_rest a_slides_in a_slides_of a_round_deed a__law_pool a__law_take a__law_one a__law_rest a__law_laid a__law_add a__law_told a__law_length a__law_head a__law_threads a__law_three_coats a__law_places a__law_lets a__law_is_deed a__law_walk a__law_led a__law_rounds a__law_lengthened a__law_right a__law_deed a__law_none_refused a_law fd_want_wheel fd_left fd_rest fd_slides_in fd_slides_of fd_round_deed fd__law_pool fd__law_take fd__law_one fd__law_rest fd__law_laid fd__law_add fd__law_told fd__law_length fd__law_head fd__law_threads fd__law_three_coats fd__law_places fd__law_lets fd__law_is_deed fd__law_walk fd__law_led fd__law_rounds fd__law_lengthened fd__law_right fd__law_deed fd__law_none_refused fd_law) : Binds K fd_rest ["x", "M"] [] := by
  obtain ⟨oc, od, kV, doc, pm, an, cdv, ct, osl, rfl, _⟩ := T.F_rest.ex
  exact Binds.all fun us hl => match us, hl with | [_, _], _ => rfl
theorem bd_slides_in (T : Txt PP K mg fI cc cda C_Refused C_BadWheel C_BadCount a_want_wheel a_left a_rest a_slides_in a_slides_of a_round_deed a__law_pool a__law_take a__law_one a__law_rest a__law_laid a__law_add a__law_told a__law_length a__law_head a__law_threads a__law_three_coats a__law_places a__law_lets a__law_is_deed a__law_walk a__law_led a__law_rounds a__law_lengthened a__law_right a__law_deed a__law_none_refused a_law fd_want_wheel fd_left fd_rest fd_slides_in fd_slides_of fd_round_deed fd__law_pool fd__law_take fd__law_one fd__law_rest fd__law_laid fd__law_add fd__law_told fd__law_length fd__law_head fd__law_threads fd__law_three_coats fd__law_places fd__law_lets fd__law_is_deed fd__law_walk fd__law_led fd__law_rounds fd__law_lengthened fd__law_right fd__law_deed fd__law_none_refused fd_law) : Binds K fd_slides_in ["deed"] [] := by
  obtain ⟨oc, od, kV, doc, pm, an, cdv, ct, osl, rfl, _⟩ := T.F_slides_in.ex
  exact Binds.all fun us hl => match us, hl with | [_], _ => rfl
theorem bd_slides_of (T : Txt PP K mg fI cc cda C_Refused C_BadWheel C_BadCount a_want_wheel a_left a_rest a_slides_in a_slides_of a_round_deed a__law_pool a__law_take a__law_one a__law_rest a__law_laid a__law_add a__law_told a__law_length a__law_head a__law_threads a__law_three_coats a__law_places a__law_lets a__law_is_deed a__law_walk a__law_led a__law_rounds a__law_lengthened a__law_right a__law_deed a__law_none_refused a_law fd_want_wheel fd_left fd_rest fd_slides_in fd_slides_of fd_round_deed fd__law_pool fd__law_take fd__law_one fd__law_rest fd__law_laid fd__law_add fd__law_told fd__law_length fd__law_head fd__law_threads fd__law_three_coats fd__law_places fd__law_lets fd__law_is_deed fd__law_walk fd__law_led fd__law_rounds fd__law_lengthened fd__law_right fd__law_deed fd__law_none_refused fd_law) : Binds K fd_slides_of ["run"] [] := by
  obtain ⟨oc, od, kV, doc, pm, an, cdv, ct, osl, rfl, _⟩ := T.F_slides_of.ex
  exact Binds.all fun us hl => match us, hl with | [_], _ => rfl
theorem kd_round_deed (T : Txt PP K mg fI cc cda C_Refused C_BadWheel C_BadCount a_want_wheel a_left a_rest a_slides_in a_slides_of a_round_deed a__law_pool a__law_take a__law_one a__law_rest a__law_laid a__law_add a__law_told a__law_length a__law_head a__law_threads a__law_three_coats a__law_places a__law_lets a__law_is_deed a__law_walk a__law_led a__law_rounds a__law_lengthened a__law_right a__law_deed a__law_none_refused a_law fd_want_wheel fd_left fd_rest fd_slides_in fd_slides_of fd_round_deed fd__law_pool fd__law_take fd__law_one fd__law_rest fd__law_laid fd__law_add fd__law_told fd__law_length fd__law_head fd__law_threads fd__law_three_coats fd__law_places fd__law_lets fd__law_is_deed fd__law_walk fd__law_led fd__law_rounds fd__law_lengthened fd__law_right fd__law_deed fd__law_none_refused fd_law) : ∃ d0, Vals [V.int 1] d0 ∧ Binds K fd_round_deed ["wheel", "s", "z", "l", "c", "x", "hx", "cx", "length", "coat", "q"] d0 := by
  obtain ⟨Dk, doc, pm, an, cdv, ct, tk, rfl, hn⟩ := T.KD_round_deed.ex
  refine ⟨[.int 1 tk], .cons ⟨tk, rfl⟩ .nil, fun s us X hl => BindsTo.of_looks fun M => KwChain.looks (D := Dk) (l := [("q", .int 1 tk)]) X (fun q hq => by rw [List.mem_singleton] at hq; rw [hq]; exact hn) ?_⟩
  have hl : us.length = 10 := by simpa using hl
  exact match us, hl with | [_, _, _, _, _, _, _, _, _, _], _ => ⟨_, _, _, _, _, _, rfl, rfl, rfl⟩
theorem bd__law_pool (T : Txt PP K mg fI cc cda C_Refused C_BadWheel C_BadCount a_want_wheel a_left a_rest a_slides_in a_slides_of a_round_deed a__law_pool a__law_take a__law_one a__law_rest a__law_laid a__law_add a__law_told a__law_length a__law_head a__law_threads a__law_three_coats a__law_places a__law_lets a__law_is_deed a__law_walk a__law_led a__law_rounds a__law_lengthened a__law_right a__law_deed a__law_none_refused a_law fd_want_wheel fd_left fd_rest fd_slides_in fd_slides_of fd_round_deed fd__law_pool fd__law_take fd__law_one fd__law_rest fd__law_laid fd__law_add fd__law_told fd__law_length fd__law_head fd__law_threads fd__law_three_coats fd__law_places fd__law_lets fd__law_is_deed fd__law_walk fd__law_led fd__law_rounds fd__law_lengthened fd__law_right fd__law_deed fd__law_none_refused fd_law) : Binds K fd__law_pool ["script", "k"] [] := by
  obtain ⟨oc, od, kV, doc, pm, an, cdv, ct, osl, rfl, _⟩ := T.F__law_pool.ex
  exact Binds.all fun us hl => match us, hl with | [_, _], _ => rfl
theorem bd__law_take (T : Txt PP K mg fI cc cda C_Refused C_BadWheel C_BadCount a_want_wheel a_left a_rest a_slides_in a_slides_of a_round_deed a__law_pool a__law_take a__law_one a__law_rest a__law_laid a__law_add a__law_told a__law_length a__law_head a__law_threads a__law_three_coats a__law_places a__law_lets a__law_is_deed a__law_walk a__law_led a__law_rounds a__law_lengthened a__law_right a__law_deed a__law_none_refused a_law fd_want_wheel fd_left fd_rest fd_slides_in fd_slides_of fd_round_deed fd__law_pool fd__law_take fd__law_one fd__law_rest fd__law_laid fd__law_add fd__law_told fd__law_length fd__law_head fd__law_threads fd__law_three_coats fd__law_places fd__law_lets fd__law_is_deed fd__law_walk fd__law_led fd__law_rounds fd__law_lengthened fd__law_right fd__law_deed fd__law_none_refused fd_law) : Binds K fd__law_take ["source", "top"] [] := by
  obtain ⟨oc, od, kV, doc, pm, an, cdv, ct, osl, rfl, _⟩ := T.F__law_take.ex
  exact Binds.all fun us hl => match us, hl with | [_, _], _ => rfl
theorem bd__law_one (T : Txt PP K mg fI cc cda C_Refused C_BadWheel C_BadCount a_want_wheel a_left a_rest a_slides_in a_slides_of a_round_deed a__law_pool a__law_take a__law_one a__law_rest a__law_laid a__law_add a__law_told a__law_length a__law_head a__law_threads a__law_three_coats a__law_places a__law_lets a__law_is_deed a__law_walk a__law_led a__law_rounds a__law_lengthened a__law_right a__law_deed a__law_none_refused a_law fd_want_wheel fd_left fd_rest fd_slides_in fd_slides_of fd_round_deed fd__law_pool fd__law_take fd__law_one fd__law_rest fd__law_laid fd__law_add fd__law_told fd__law_length fd__law_head fd__law_threads fd__law_three_coats fd__law_places fd__law_lets fd__law_is_deed fd__law_walk fd__law_led fd__law_rounds fd__law_lengthened fd__law_right fd__law_deed fd__law_none_refused fd_law) : Binds K fd__law_one ["source", "things"] [] := by
  obtain ⟨oc, od, kV, doc, pm, an, cdv, ct, osl, rfl, _⟩ := T.F__law_one.ex
  exact Binds.all fun us hl => match us, hl with | [_, _], _ => rfl
theorem bd__law_rest (T : Txt PP K mg fI cc cda C_Refused C_BadWheel C_BadCount a_want_wheel a_left a_rest a_slides_in a_slides_of a_round_deed a__law_pool a__law_take a__law_one a__law_rest a__law_laid a__law_add a__law_told a__law_length a__law_head a__law_threads a__law_three_coats a__law_places a__law_lets a__law_is_deed a__law_walk a__law_led a__law_rounds a__law_lengthened a__law_right a__law_deed a__law_none_refused a_law fd_want_wheel fd_left fd_rest fd_slides_in fd_slides_of fd_round_deed fd__law_pool fd__law_take fd__law_one fd__law_rest fd__law_laid fd__law_add fd__law_told fd__law_length fd__law_head fd__law_threads fd__law_three_coats fd__law_places fd__law_lets fd__law_is_deed fd__law_walk fd__law_led fd__law_rounds fd__law_lengthened fd__law_right fd__law_deed fd__law_none_refused fd_law) : Binds K fd__law_rest ["x", "wheel"] [] := by
  obtain ⟨oc, od, kV, doc, pm, an, cdv, ct, osl, rfl, _⟩ := T.F__law_rest.ex
  exact Binds.all fun us hl => match us, hl with | [_, _], _ => rfl
theorem bd__law_laid (T : Txt PP K mg fI cc cda C_Refused C_BadWheel C_BadCount a_want_wheel a_left a_rest a_slides_in a_slides_of a_round_deed a__law_pool a__law_take a__law_one a__law_rest a__law_laid a__law_add a__law_told a__law_length a__law_head a__law_threads a__law_three_coats a__law_places a__law_lets a__law_is_deed a__law_walk a__law_led a__law_rounds a__law_lengthened a__law_right a__law_deed a__law_none_refused a_law fd_want_wheel fd_left fd_rest fd_slides_in fd_slides_of fd_round_deed fd__law_pool fd__law_take fd__law_one fd__law_rest fd__law_laid fd__law_add fd__law_told fd__law_length fd__law_head fd__law_threads fd__law_three_coats fd__law_places fd__law_lets fd__law_is_deed fd__law_walk fd__law_led fd__law_rounds fd__law_lengthened fd__law_right fd__law_deed fd__law_none_refused fd_law) : Binds K fd__law_laid ["u", "v", "length", "coat", "wheel"] [] := by
  obtain ⟨oc, od, kV, doc, pm, an, cdv, ct, osl, rfl, _⟩ := T.F__law_laid.ex
  exact Binds.all fun us hl => match us, hl with | [_, _, _, _, _], _ => rfl
theorem bd__law_add (T : Txt PP K mg fI cc cda C_Refused C_BadWheel C_BadCount a_want_wheel a_left a_rest a_slides_in a_slides_of a_round_deed a__law_pool a__law_take a__law_one a__law_rest a__law_laid a__law_add a__law_told a__law_length a__law_head a__law_threads a__law_three_coats a__law_places a__law_lets a__law_is_deed a__law_walk a__law_led a__law_rounds a__law_lengthened a__law_right a__law_deed a__law_none_refused a_law fd_want_wheel fd_left fd_rest fd_slides_in fd_slides_of fd_round_deed fd__law_pool fd__law_take fd__law_one fd__law_rest fd__law_laid fd__law_add fd__law_told fd__law_length fd__law_head fd__law_threads fd__law_three_coats fd__law_places fd__law_lets fd__law_is_deed fd__law_walk fd__law_led fd__law_rounds fd__law_lengthened fd__law_right fd__law_deed fd__law_none_refused fd_law) : Binds K fd__law_add ["counts", "thread", "count"] [] := by
  obtain ⟨oc, od, kV, doc, pm, an, cdv, ct, osl, rfl, _⟩ := T.F__law_add.ex
  exact Binds.all fun us hl => match us, hl with | [_, _, _], _ => rfl
theorem bd__law_told (T : Txt PP K mg fI cc cda C_Refused C_BadWheel C_BadCount a_want_wheel a_left a_rest a_slides_in a_slides_of a_round_deed a__law_pool a__law_take a__law_one a__law_rest a__law_laid a__law_add a__law_told a__law_length a__law_head a__law_threads a__law_three_coats a__law_places a__law_lets a__law_is_deed a__law_walk a__law_led a__law_rounds a__law_lengthened a__law_right a__law_deed a__law_none_refused a_law fd_want_wheel fd_left fd_rest fd_slides_in fd_slides_of fd_round_deed fd__law_pool fd__law_take fd__law_one fd__law_rest fd__law_laid fd__law_add fd__law_told fd__law_length fd__law_head fd__law_threads fd__law_three_coats fd__law_places fd__law_lets fd__law_is_deed fd__law_walk fd__law_led fd__law_rounds fd__law_lengthened fd__law_right fd__law_deed fd__law_none_refused fd_law) : Binds K fd__law_told ["counts"] [] := by
  obtain ⟨oc, od, kV, doc, pm, an, cdv, ct, osl, rfl, _⟩ := T.F__law_told.ex
  exact Binds.all fun us hl => match us, hl with | [_], _ => rfl
theorem bd__law_length (T : Txt PP K mg fI cc cda C_Refused C_BadWheel C_BadCount a_want_wheel a_left a_rest a_slides_in a_slides_of a_round_deed a__law_pool a__law_take a__law_one a__law_rest a__law_laid a__law_add a__law_told a__law_length a__law_head a__law_threads a__law_three_coats a__law_places a__law_lets a__law_is_deed a__law_walk a__law_led a__law_rounds a__law_lengthened a__law_right a__law_deed a__law_none_refused a_law fd_want_wheel fd_left fd_rest fd_slides_in fd_slides_of fd_round_deed fd__law_pool fd__law_take fd__law_one fd__law_rest fd__law_laid fd__law_add fd__law_told fd__law_length fd__law_head fd__law_threads fd__law_three_coats fd__law_places fd__law_lets fd__law_is_deed fd__law_walk fd__law_led fd__law_rounds fd__law_lengthened fd__law_right fd__law_deed fd__law_none_refused fd_law) : Binds K fd__law_length ["source", "wheel"] [] := by
  obtain ⟨oc, od, kV, doc, pm, an, cdv, ct, osl, rfl, _⟩ := T.F__law_length.ex
  exact Binds.all fun us hl => match us, hl with | [_, _], _ => rfl
theorem bd__law_head (T : Txt PP K mg fI cc cda C_Refused C_BadWheel C_BadCount a_want_wheel a_left a_rest a_slides_in a_slides_of a_round_deed a__law_pool a__law_take a__law_one a__law_rest a__law_laid a__law_add a__law_told a__law_length a__law_head a__law_threads a__law_three_coats a__law_places a__law_lets a__law_is_deed a__law_walk a__law_led a__law_rounds a__law_lengthened a__law_right a__law_deed a__law_none_refused a_law fd_want_wheel fd_left fd_rest fd_slides_in fd_slides_of fd_round_deed fd__law_pool fd__law_take fd__law_one fd__law_rest fd__law_laid fd__law_add fd__law_told fd__law_length fd__law_head fd__law_threads fd__law_three_coats fd__law_places fd__law_lets fd__law_is_deed fd__law_walk fd__law_led fd__law_rounds fd__law_lengthened fd__law_right fd__law_deed fd__law_none_refused fd_law) : Binds K fd__law_head ["source", "rule"] [] := by
  obtain ⟨oc, od, kV, doc, pm, an, cdv, ct, osl, rfl, _⟩ := T.F__law_head.ex
  exact Binds.all fun us hl => match us, hl with | [_, _], _ => rfl
theorem bd__law_threads (T : Txt PP K mg fI cc cda C_Refused C_BadWheel C_BadCount a_want_wheel a_left a_rest a_slides_in a_slides_of a_round_deed a__law_pool a__law_take a__law_one a__law_rest a__law_laid a__law_add a__law_told a__law_length a__law_head a__law_threads a__law_three_coats a__law_places a__law_lets a__law_is_deed a__law_walk a__law_led a__law_rounds a__law_lengthened a__law_right a__law_deed a__law_none_refused a_law fd_want_wheel fd_left fd_rest fd_slides_in fd_slides_of fd_round_deed fd__law_pool fd__law_take fd__law_one fd__law_rest fd__law_laid fd__law_add fd__law_told fd__law_length fd__law_head fd__law_threads fd__law_three_coats fd__law_places fd__law_lets fd__law_is_deed fd__law_walk fd__law_led fd__law_rounds fd__law_lengthened fd__law_right fd__law_deed fd__law_none_refused fd_law) : Binds K fd__law_threads ["source", "head", "counts", "many"] [] := by
  obtain ⟨oc, od, kV, doc, pm, an, cdv, ct, osl, rfl, _⟩ := T.F__law_threads.ex
  exact Binds.all fun us hl => match us, hl with | [_, _, _, _], _ => rfl
theorem bd__law_three_coats (T : Txt PP K mg fI cc cda C_Refused C_BadWheel C_BadCount a_want_wheel a_left a_rest a_slides_in a_slides_of a_round_deed a__law_pool a__law_take a__law_one a__law_rest a__law_laid a__law_add a__law_told a__law_length a__law_head a__law_threads a__law_three_coats a__law_places a__law_lets a__law_is_deed a__law_walk a__law_led a__law_rounds a__law_lengthened a__law_right a__law_deed a__law_none_refused a_law fd_want_wheel fd_left fd_rest fd_slides_in fd_slides_of fd_round_deed fd__law_pool fd__law_take fd__law_one fd__law_rest fd__law_laid fd__law_add fd__law_told fd__law_length fd__law_head fd__law_threads fd__law_three_coats fd__law_places fd__law_lets fd__law_is_deed fd__law_walk fd__law_led fd__law_rounds fd__law_lengthened fd__law_right fd__law_deed fd__law_none_refused fd_law) : Binds K fd__law_three_coats ["source", "head"] [] := by
  obtain ⟨oc, od, kV, doc, pm, an, cdv, ct, osl, rfl, _⟩ := T.F__law_three_coats.ex
  exact Binds.all fun us hl => match us, hl with | [_, _], _ => rfl
theorem bd__law_places (T : Txt PP K mg fI cc cda C_Refused C_BadWheel C_BadCount a_want_wheel a_left a_rest a_slides_in a_slides_of a_round_deed a__law_pool a__law_take a__law_one a__law_rest a__law_laid a__law_add a__law_told a__law_length a__law_head a__law_threads a__law_three_coats a__law_places a__law_lets a__law_is_deed a__law_walk a__law_led a__law_rounds a__law_lengthened a__law_right a__law_deed a__law_none_refused a_law fd_want_wheel fd_left fd_rest fd_slides_in fd_slides_of fd_round_deed fd__law_pool fd__law_take fd__law_one fd__law_rest fd__law_laid fd__law_add fd__law_told fd__law_length fd__law_head fd__law_threads fd__law_three_coats fd__law_places fd__law_lets fd__law_is_deed fd__law_walk fd__law_led fd__law_rounds fd__law_lengthened fd__law_right fd__law_deed fd__law_none_refused fd_law) : Binds K fd__law_places ["source", "n", "many"] [] := by
  obtain ⟨oc, od, kV, doc, pm, an, cdv, ct, osl, rfl, _⟩ := T.F__law_places.ex
  exact Binds.all fun us hl => match us, hl with | [_, _, _], _ => rfl
theorem bd__law_lets (T : Txt PP K mg fI cc cda C_Refused C_BadWheel C_BadCount a_want_wheel a_left a_rest a_slides_in a_slides_of a_round_deed a__law_pool a__law_take a__law_one a__law_rest a__law_laid a__law_add a__law_told a__law_length a__law_head a__law_threads a__law_three_coats a__law_places a__law_lets a__law_is_deed a__law_walk a__law_led a__law_rounds a__law_lengthened a__law_right a__law_deed a__law_none_refused a_law fd_want_wheel fd_left fd_rest fd_slides_in fd_slides_of fd_round_deed fd__law_pool fd__law_take fd__law_one fd__law_rest fd__law_laid fd__law_add fd__law_told fd__law_length fd__law_head fd__law_threads fd__law_three_coats fd__law_places fd__law_lets fd__law_is_deed fd__law_walk fd__law_led fd__law_rounds fd__law_lengthened fd__law_right fd__law_deed fd__law_none_refused fd_law) : Binds K fd__law_lets ["rule", "coat", "rails"] [] := by
  obtain ⟨oc, od, kV, doc, pm, an, cdv, ct, osl, rfl, _⟩ := T.F__law_lets.ex
  exact Binds.all fun us hl => match us, hl with | [_, _, _], _ => rfl
theorem bd__law_is_deed (T : Txt PP K mg fI cc cda C_Refused C_BadWheel C_BadCount a_want_wheel a_left a_rest a_slides_in a_slides_of a_round_deed a__law_pool a__law_take a__law_one a__law_rest a__law_laid a__law_add a__law_told a__law_length a__law_head a__law_threads a__law_three_coats a__law_places a__law_lets a__law_is_deed a__law_walk a__law_led a__law_rounds a__law_lengthened a__law_right a__law_deed a__law_none_refused a_law fd_want_wheel fd_left fd_rest fd_slides_in fd_slides_of fd_round_deed fd__law_pool fd__law_take fd__law_one fd__law_rest fd__law_laid fd__law_add fd__law_told fd__law_length fd__law_head fd__law_threads fd__law_three_coats fd__law_places fd__law_lets fd__law_is_deed fd__law_walk fd__law_led fd__law_rounds fd__law_lengthened fd__law_right fd__law_deed fd__law_none_refused fd_law) : Binds K fd__law_is_deed ["deed"] [] := by
  obtain ⟨oc, od, kV, doc, pm, an, cdv, ct, osl, rfl, _⟩ := T.F__law_is_deed.ex
  exact Binds.all fun us hl => match us, hl with | [_], _ => rfl
theorem bd__law_walk (T : Txt PP K mg fI cc cda C_Refused C_BadWheel C_BadCount a_want_wheel a_left a_rest a_slides_in a_slides_of a_round_deed a__law_pool a__law_take a__law_one a__law_rest a__law_laid a__law_add a__law_told a__law_length a__law_head a__law_threads a__law_three_coats a__law_places a__law_lets a__law_is_deed a__law_walk a__law_led a__law_rounds a__law_lengthened a__law_right a__law_deed a__law_none_refused a_law fd_want_wheel fd_left fd_rest fd_slides_in fd_slides_of fd_round_deed fd__law_pool fd__law_take fd__law_one fd__law_rest fd__law_laid fd__law_add fd__law_told fd__law_length fd__law_head fd__law_threads fd__law_three_coats fd__law_places fd__law_lets fd__law_is_deed fd__law_walk fd__law_led fd__law_rounds fd__law_lengthened fd__law_right fd__law_deed fd__law_none_refused fd_law) : Binds K fd__law_walk ["counts", "head", "deed"] [] := by
  obtain ⟨oc, od, kV, doc, pm, an, cdv, ct, osl, rfl, _⟩ := T.F__law_walk.ex
  exact Binds.all fun us hl => match us, hl with | [_, _, _], _ => rfl
theorem bd__law_led (T : Txt PP K mg fI cc cda C_Refused C_BadWheel C_BadCount a_want_wheel a_left a_rest a_slides_in a_slides_of a_round_deed a__law_pool a__law_take a__law_one a__law_rest a__law_laid a__law_add a__law_told a__law_length a__law_head a__law_threads a__law_three_coats a__law_places a__law_lets a__law_is_deed a__law_walk a__law_led a__law_rounds a__law_lengthened a__law_right a__law_deed a__law_none_refused a_law fd_want_wheel fd_left fd_rest fd_slides_in fd_slides_of fd_round_deed fd__law_pool fd__law_take fd__law_one fd__law_rest fd__law_laid fd__law_add fd__law_told fd__law_length fd__law_head fd__law_threads fd__law_three_coats fd__law_places fd__law_lets fd__law_is_deed fd__law_walk fd__law_led fd__law_rounds fd__law_lengthened fd__law_right fd__law_deed fd__law_none_refused fd_law) : Binds K fd__law_led ["counts", "head", "run"] [] := by
  obtain ⟨oc, od, kV, doc, pm, an, cdv, ct, osl, rfl, _⟩ := T.F__law_led.ex
  exact Binds.all fun us hl => match us, hl with | [_, _, _], _ => rfl
theorem bd__law_rounds (T : Txt PP K mg fI cc cda C_Refused C_BadWheel C_BadCount a_want_wheel a_left a_rest a_slides_in a_slides_of a_round_deed a__law_pool a__law_take a__law_one a__law_rest a__law_laid a__law_add a__law_told a__law_length a__law_head a__law_threads a__law_three_coats a__law_places a__law_lets a__law_is_deed a__law_walk a__law_led a__law_rounds a__law_lengthened a__law_right a__law_deed a__law_none_refused a_law fd_want_wheel fd_left fd_rest fd_slides_in fd_slides_of fd_round_deed fd__law_pool fd__law_take fd__law_one fd__law_rest fd__law_laid fd__law_add fd__law_told fd__law_length fd__law_head fd__law_threads fd__law_three_coats fd__law_places fd__law_lets fd__law_is_deed fd__law_walk fd__law_led fd__law_rounds fd__law_lengthened fd__law_right fd__law_deed fd__law_none_refused fd_law) : Binds K fd__law_rounds ["source"] [] := by
  obtain ⟨oc, od, kV, doc, pm, an, cdv, ct, osl, rfl, _⟩ := T.F__law_rounds.ex
  exact Binds.all fun us hl => match us, hl with | [_], _ => rfl
theorem bd__law_lengthened (T : Txt PP K mg fI cc cda C_Refused C_BadWheel C_BadCount a_want_wheel a_left a_rest a_slides_in a_slides_of a_round_deed a__law_pool a__law_take a__law_one a__law_rest a__law_laid a__law_add a__law_told a__law_length a__law_head a__law_threads a__law_three_coats a__law_places a__law_lets a__law_is_deed a__law_walk a__law_led a__law_rounds a__law_lengthened a__law_right a__law_deed a__law_none_refused a_law fd_want_wheel fd_left fd_rest fd_slides_in fd_slides_of fd_round_deed fd__law_pool fd__law_take fd__law_one fd__law_rest fd__law_laid fd__law_add fd__law_told fd__law_length fd__law_head fd__law_threads fd__law_three_coats fd__law_places fd__law_lets fd__law_is_deed fd__law_walk fd__law_led fd__law_rounds fd__law_lengthened fd__law_right fd__law_deed fd__law_none_refused fd_law) : Binds K fd__law_lengthened ["counts", "wheel", "old", "by"] [] := by
  obtain ⟨oc, od, kV, doc, pm, an, cdv, ct, osl, rfl, _⟩ := T.F__law_lengthened.ex
  exact Binds.all fun us hl => match us, hl with | [_, _, _, _], _ => rfl
theorem bd__law_right (T : Txt PP K mg fI cc cda C_Refused C_BadWheel C_BadCount a_want_wheel a_left a_rest a_slides_in a_slides_of a_round_deed a__law_pool a__law_take a__law_one a__law_rest a__law_laid a__law_add a__law_told a__law_length a__law_head a__law_threads a__law_three_coats a__law_places a__law_lets a__law_is_deed a__law_walk a__law_led a__law_rounds a__law_lengthened a__law_right a__law_deed a__law_none_refused a_law fd_want_wheel fd_left fd_rest fd_slides_in fd_slides_of fd_round_deed fd__law_pool fd__law_take fd__law_one fd__law_rest fd__law_laid fd__law_add fd__law_told fd__law_length fd__law_head fd__law_threads fd__law_three_coats fd__law_places fd__law_lets fd__law_is_deed fd__law_walk fd__law_led fd__law_rounds fd__law_lengthened fd__law_right fd__law_deed fd__law_none_refused fd_law) : Binds K fd__law_right ["counts", "head", "deed", "due", "many"] [] := by
  obtain ⟨oc, od, kV, doc, pm, an, cdv, ct, osl, rfl, _⟩ := T.F__law_right.ex
  exact Binds.all fun us hl => match us, hl with | [_, _, _, _, _], _ => rfl
theorem bd__law_deed (T : Txt PP K mg fI cc cda C_Refused C_BadWheel C_BadCount a_want_wheel a_left a_rest a_slides_in a_slides_of a_round_deed a__law_pool a__law_take a__law_one a__law_rest a__law_laid a__law_add a__law_told a__law_length a__law_head a__law_threads a__law_three_coats a__law_places a__law_lets a__law_is_deed a__law_walk a__law_led a__law_rounds a__law_lengthened a__law_right a__law_deed a__law_none_refused a_law fd_want_wheel fd_left fd_rest fd_slides_in fd_slides_of fd_round_deed fd__law_pool fd__law_take fd__law_one fd__law_rest fd__law_laid fd__law_add fd__law_told fd__law_length fd__law_head fd__law_threads fd__law_three_coats fd__law_places fd__law_lets fd__law_is_deed fd__law_walk fd__law_led fd__law_rounds fd__law_lengthened fd__law_right fd__law_deed fd__law_none_refused fd_law) : Binds K fd__law_deed ["wheel", "s", "z", "first", "keeper", "spare", "many"] [] := by
  obtain ⟨oc, od, kV, doc, pm, an, cdv, ct, osl, rfl, _⟩ := T.F__law_deed.ex
  exact Binds.all fun us hl => match us, hl with | [_, _, _, _, _, _, _], _ => rfl
theorem bd__law_none_refused (T : Txt PP K mg fI cc cda C_Refused C_BadWheel C_BadCount a_want_wheel a_left a_rest a_slides_in a_slides_of a_round_deed a__law_pool a__law_take a__law_one a__law_rest a__law_laid a__law_add a__law_told a__law_length a__law_head a__law_threads a__law_three_coats a__law_places a__law_lets a__law_is_deed a__law_walk a__law_led a__law_rounds a__law_lengthened a__law_right a__law_deed a__law_none_refused a_law fd_want_wheel fd_left fd_rest fd_slides_in fd_slides_of fd_round_deed fd__law_pool fd__law_take fd__law_one fd__law_rest fd__law_laid fd__law_add fd__law_told fd__law_length fd__law_head fd__law_threads fd__law_three_coats fd__law_places fd__law_lets fd__law_is_deed fd__law_walk fd__law_led fd__law_rounds fd__law_lengthened fd__law_right fd__law_deed fd__law_none_refused fd_law) : Binds K fd__law_none_refused ["wheel", "s", "z", "x", "long"] [] := by
  obtain ⟨oc, od, kV, doc, pm, an, cdv, ct, osl, rfl, _⟩ := T.F__law_none_refused.ex
  exact Binds.all fun us hl => match us, hl with | [_, _, _, _, _], _ => rfl
theorem bd_law (T : Txt PP K mg fI cc cda C_Refused C_BadWheel C_BadCount a_want_wheel a_left a_rest a_slides_in a_slides_of a_round_deed a__law_pool a__law_take a__law_one a__law_rest a__law_laid a__law_add a__law_told a__law_length a__law_head a__law_threads a__law_three_coats a__law_places a__law_lets a__law_is_deed a__law_walk a__law_led a__law_rounds a__law_lengthened a__law_right a__law_deed a__law_none_refused a_law fd_want_wheel fd_left fd_rest fd_slides_in fd_slides_of fd_round_deed fd__law_pool fd__law_take fd__law_one fd__law_rest fd__law_laid fd__law_add fd__law_told fd__law_length fd__law_head fd__law_threads fd__law_three_coats fd__law_places fd__law_lets fd__law_is_deed fd__law_walk fd__law_led fd__law_rounds fd__law_lengthened fd__law_right fd__law_deed fd__law_none_refused fd_law) : Binds K fd_law ["script"] [] := by
  obtain ⟨oc, od, kV, doc, pm, an, cdv, ct, osl, rfl, _⟩ := T.F_law.ex
  exact Binds.all fun us hl => match us, hl with | [_], _ => rfl
theorem kb_round_deed_0_q_coat_length_cx_hx_x_c_l_z_s_wheel (T : Txt PP K mg fI cc cda C_Refused C_BadWheel C_BadCount a_want_wheel a_left a_rest a_slides_in a_slides_of a_round_deed a__law_pool a__law_take a__law_one a__law_rest a__law_laid a__law_add a__law_told a__law_length a__law_head a__law_threads a__law_three_coats a__law_places a__law_lets a__law_is_deed a__law_walk a__law_led a__law_rounds a__law_lengthened a__law_right a__law_deed a__law_none_refused a_law fd_want_wheel fd_left fd_rest fd_slides_in fd_slides_of fd_round_deed fd__law_pool fd__law_take fd__law_one fd__law_rest fd__law_laid fd__law_add fd__law_told fd__law_length fd__law_head fd__law_threads fd__law_three_coats fd__law_places fd__law_lets fd__law_is_deed fd__law_walk fd__law_led fd__law_rounds fd__law_lengthened fd__law_right fd__law_deed fd__law_none_refused fd_law) (s : Shared) (ws : List Value) (hw : ws.length = 11) : BindsTo s fd_round_deed ⟨[], List.zip ["q", "coat", "length", "cx", "hx", "x", "c", "l", "z", "s", "wheel"] ws⟩ (List.zip ["wheel", "s", "z", "l", "c", "x", "hx", "cx", "length", "coat", "q"] (sel [10, 9, 8, 7, 6, 5, 4, 3, 2, 1, 0] ws)) := by
  obtain ⟨oc, od, kV, doc, pm, an, cdv, ct, osl, rfl, _⟩ := T.F_round_deed.ex
  exact match ws, hw with | [_, _, _, _, _, _, _, _, _, _, _], _ => .of_eq rfl
theorem kb_round_deed_10_q (T : Txt PP K mg fI cc cda C_Refused C_BadWheel C_BadCount a_want_wheel a_left a_rest a_slides_in a_slides_of a_round_deed a__law_pool a__law_take a__law_one a__law_rest a__law_laid a__law_add a__law_told a__law_length a__law_head a__law_threads a__law_three_coats a__law_places a__law_lets a__law_is_deed a__law_walk a__law_led a__law_rounds a__law_lengthened a__law_right a__law_deed a__law_none_refused a_law fd_want_wheel fd_left fd_rest fd_slides_in fd_slides_of fd_round_deed fd__law_pool fd__law_take fd__law_one fd__law_rest fd__law_laid fd__law_add fd__law_told fd__law_length fd__law_head fd__law_threads fd__law_three_coats fd__law_places fd__law_lets fd__law_is_deed fd__law_walk fd__law_led fd__law_rounds fd__law_lengthened fd__law_right fd__law_deed fd__law_none_refused fd_law) (s : Shared) (us ws : List Value) (hu : us.length = 10) (hw : ws.length = 1) : BindsTo s fd_round_deed ⟨us, List.zip ["q"] ws⟩ (List.zip ["wheel", "s", "z", "l", "c", "x", "hx", "cx", "length", "coat", "q"] (sel [0, 1, 2, 3, 4, 5, 6, 7, 8, 9, 10] (us ++ ws))) := by
  obtain ⟨oc, od, kV, doc, pm, an, cdv, ct, osl, rfl, _⟩ := T.F_round_deed.ex
  exact match us, ws, hu, hw with | [_, _, _, _, _, _, _, _, _, _], [_], _, _ => .of_eq rfl
theorem ok_want_wheel (T : Txt PP K mg fI cc cda C_Refused C_BadWheel C_BadCount a_want_wheel a_left a_rest a_slides_in a_slides_of a_round_deed a__law_pool a__law_take a__law_one a__law_rest a__law_laid a__law_add a__law_told a__law_length a__law_head a__law_threads a__law_three_coats a__law_places a__law_lets a__law_is_deed a__law_walk a__law_led a__law_rounds a__law_lengthened a__law_right a__law_deed a__law_none_refused a_law fd_want_wheel fd_left fd_rest fd_slides_in fd_slides_of fd_round_deed fd__law_pool fd__law_take fd__law_one fd__law_rest fd__law_laid fd__law_add fd__law_told fd__law_length fd__law_head fd__law_threads fd__law_three_coats fd__law_places fd__law_lets fd__law_is_deed fd__law_walk fd__law_led fd__law_rounds fd__law_lengthened fd__law_right fd__law_deed fd__law_none_refused fd_law)  : FnOk PP w K mg base (L2.CX PP w) 4 a_want_wheel fd_want_wheel ["M"] (spF K mg 1 (f_want_wheel)) := by
  refine fn_ok T.F_want_wheel sc_want_wheel fun cdv A outer s H E hr => ?_
  have tk_ : Takes (cxOf (L2.CX PP w) PP w K mg base ["M"] "want_wheel" (defScope s_want_wheel) a_want_wheel cdv A outer s H E) (fun cls d _ H => E cls d H) := takes_of rfl rfl rfl rfl
  exact (rss_one (rs_if (rt_not (rt_chain o_le o_le re_int (rv 0) (re_gint T.g_MOST_WHEEL.choose_spec rfl))) (rss_one (rs_raise rfl T.ref T.e_BadWheel hr tk_ (rv 0))) rss_nil))
theorem ok_left (T : Txt PP K mg fI cc cda C_Refused C_BadWheel C_BadCount a_want_wheel a_left a_rest a_slides_in a_slides_of a_round_deed a__law_pool a__law_take a__law_one a__law_rest a__law_laid a__law_add a__law_told a__law_length a__law_head a__law_threads a__law_three_coats a__law_places a__law_lets a__law_is_deed a__law_walk a__law_led a__law_rounds a__law_lengthened a__law_right a__law_deed a__law_none_refused a_law fd_want_wheel fd_left fd_rest fd_slides_in fd_slides_of fd_round_deed fd__law_pool fd__law_take fd__law_one fd__law_rest fd__law_laid fd__law_add fd__law_told fd__law_length fd__law_head fd__law_threads fd__law_three_coats fd__law_places fd__law_lets fd__law_is_deed fd__law_walk fd__law_led fd__law_rounds fd__law_lengthened fd__law_right fd__law_deed fd__law_none_refused fd_law)  : FnOk PP w K mg base (L2.CX PP w) 1 a_left fd_left ["x", "m"] (spF K mg 2 (f_left)) := by
  refine fn_ok T.F_left sc_left fun cdv A outer s H E hr => ?_
  have tk_ : Takes (cxOf (L2.CX PP w) PP w K mg base ["x", "m"] "left" (defScope s_left) a_left cdv A outer s H E) (fun cls d _ H => E cls d H) := takes_of rfl rfl rfl rfl
  exact (rss_one (rs_ret (re_if (rt_cmp (o_eq hr.units) (rv 1) re_int (nomark _)) (rv 0) (re_op o_mod (rv 0) (rv 1)))))
theorem ok_rest (T : Txt PP K mg fI cc cda C_Refused C_BadWheel C_BadCount a_want_wheel a_left a_rest a_slides_in a_slides_of a_round_deed a__law_pool a__law_take a__law_one a__law_rest a__law_laid a__law_add a__law_told a__law_length a__law_head a__law_threads a__law_three_coats a__law_places a__law_lets a__law_is_deed a__law_walk a__law_led a__law_rounds a__law_lengthened a__law_right a__law_deed a__law_none_refused a_law fd_want_wheel fd_left fd_rest fd_slides_in fd_slides_of fd_round_deed fd__law_pool fd__law_take fd__law_one fd__law_rest fd__law_laid fd__law_add fd__law_told fd__law_length fd__law_head fd__law_threads fd__law_three_coats fd__law_places fd__law_lets fd__law_is_deed fd__law_walk fd__law_led fd__law_rounds fd__law_lengthened fd__law_right fd__law_deed fd__law_none_refused fd_law) (O_want_wheel : FnOk PP w K mg base (L2.CX PP w) 4 a_want_wheel fd_want_wheel ["M"] (spF K mg 1 (f_want_wheel))) (O_left : FnOk PP w K mg base (L2.CX PP w) 1 a_left fd_left ["x", "m"] (spF K mg 2 (f_left))) : FnOk PP w K mg base (L2.CX PP w) 5 a_rest fd_rest ["x", "M"] (spF K mg 2 (f_rest)) := by
  refine fn_ok T.F_rest sc_rest fun cdv A outer s H E hr => ?_
  have tk_ : Takes (cxOf (L2.CX PP w) PP w K mg base ["x", "M"] "rest" (defScope s_rest) a_rest cdv A outer s H E) (fun cls d _ H => E cls d H) := takes_of rfl rfl rfl rfl
  exact (rss_cons (rs_expr (re_callR (RunAt.ok O_want_wheel (hr.mono (by decide))) T.m_want_wheel T.F_want_wheel.kp (bd_want_wheel T) tk_ (ra_cons (rv 1) ra_nil) (len_cons len_nil))) (rss_one (rs_ret (re_callR (RunAt.ok O_left (hr.mono (by decide))) T.m_left T.F_left.kp (bd_left T) tk_ (ra_cons (rv 0) (ra_cons (rv 1) ra_nil)) (len_cons (len_cons len_nil))))))
theorem ok_slides_in (T : Txt PP K mg fI cc cda C_Refused C_BadWheel C_BadCount a_want_wheel a_left a_rest a_slides_in a_slides_of a_round_deed a__law_pool a__law_take a__law_one a__law_rest a__law_laid a__law_add a__law_told a__law_length a__law_head a__law_threads a__law_three_coats a__law_places a__law_lets a__law_is_deed a__law_walk a__law_led a__law_rounds a__law_lengthened a__law_right a__law_deed a__law_none_refused a_law fd_want_wheel fd_left fd_rest fd_slides_in fd_slides_of fd_round_deed fd__law_pool fd__law_take fd__law_one fd__law_rest fd__law_laid fd__law_add fd__law_told fd__law_length fd__law_head fd__law_threads fd__law_three_coats fd__law_places fd__law_lets fd__law_is_deed fd__law_walk fd__law_led fd__law_rounds fd__law_lengthened fd__law_right fd__law_deed fd__law_none_refused fd_law)  : FnOk PP w K mg base (L2.CX PP w) 1 a_slides_in fd_slides_in ["deed"] (spF K mg 1 (f_slides_in)) := by
  refine fn_ok T.F_slides_in sc_slides_in fun cdv A outer s H E hr => ?_
  have tk_ : Takes (cxOf (L2.CX PP w) PP w K mg base ["deed"] "slides_in" (defScope s_slides_in) a_slides_in cdv A outer s H E) (fun cls d _ H => E cls d H) := takes_of rfl rfl rfl rfl
  exact (rss_one (rs_ret (re_if (rt_cmp (o_eq hr.units) (re_ix o_ix (rv 0) re_int) (re_gstr T.g_CARRY.choose_spec rfl) (nomark _)) (re_ix o_ix (rv 0) re_int) (re_op o_mul (re_op o_mul re_int (re_ix o_ix (rv 0) re_int)) (re_ix o_ix (rv 0) re_int)))))
theorem ok_slides_of (T : Txt PP K mg fI cc cda C_Refused C_BadWheel C_BadCount a_want_wheel a_left a_rest a_slides_in a_slides_of a_round_deed a__law_pool a__law_take a__law_one a__law_rest a__law_laid a__law_add a__law_told a__law_length a__law_head a__law_threads a__law_three_coats a__law_places a__law_lets a__law_is_deed a__law_walk a__law_led a__law_rounds a__law_lengthened a__law_right a__law_deed a__law_none_refused a_law fd_want_wheel fd_left fd_rest fd_slides_in fd_slides_of fd_round_deed fd__law_pool fd__law_take fd__law_one fd__law_rest fd__law_laid fd__law_add fd__law_told fd__law_length fd__law_head fd__law_threads fd__law_three_coats fd__law_places fd__law_lets fd__law_is_deed fd__law_walk fd__law_led fd__law_rounds fd__law_lengthened fd__law_right fd__law_deed fd__law_none_refused fd_law) (O_slides_in : FnOk PP w K mg base (L2.CX PP w) 1 a_slides_in fd_slides_in ["deed"] (spF K mg 1 (f_slides_in))) : FnOk PP w K mg base (L2.CX PP w) 2 a_slides_of fd_slides_of ["run"] (spF K mg 1 (f_slides_of)) := by
  refine fn_ok T.F_slides_of sc_slides_of fun cdv A outer s H E hr => ?_
  have tk_ : Takes (cxOf (L2.CX PP w) PP w K mg base ["run", "deed"] "slides_of" (defScope s_slides_of) a_slides_of cdv A outer s H E) (fun cls d _ H => E cls d H) := takes_of rfl rfl rfl rfl
  exact (rss_one (rs_ret (re_cb (c_sum rfl) T.b_sum boot_sum_ (ra_cons (re_lc (own := [("deed", 1)]) (c := (CT.one 1)) rfl sc_slides_of.nd (ri_seq (rv 0)) (blkOk_by (N := ["run", "deed"]) (sc := defScope s_slides_of) (by decide +kernel)) (by decide) (fun _ _ _ _ _ => (pg_name sc_slides_of.nd rfl (.inl rfl))) (fun _ _ _ _ _ => rts_nil) (fun _ _ _ _ _ => (re_callR (RunAt.ok O_slides_in (hr.mono (by decide))) T.m_slides_in T.F_slides_in.kp (bd_slides_in T) L2.takes0 (ra_cons (rv 1) ra_nil) (len_cons len_nil)))) ra_nil))))
theorem ok_round_deed (T : Txt PP K mg fI cc cda C_Refused C_BadWheel C_BadCount a_want_wheel a_left a_rest a_slides_in a_slides_of a_round_deed a__law_pool a__law_take a__law_one a__law_rest a__law_laid a__law_add a__law_told a__law_length a__law_head a__law_threads a__law_three_coats a__law_places a__law_lets a__law_is_deed a__law_walk a__law_led a__law_rounds a__law_lengthened a__law_right a__law_deed a__law_none_refused a_law fd_want_wheel fd_left fd_rest fd_slides_in fd_slides_of fd_round_deed fd__law_pool fd__law_take fd__law_one fd__law_rest fd__law_laid fd__law_add fd__law_told fd__law_length fd__law_head fd__law_threads fd__law_three_coats fd__law_places fd__law_lets fd__law_is_deed fd__law_walk fd__law_led fd__law_rounds fd__law_lengthened fd__law_right fd__law_deed fd__law_none_refused fd_law) (O_rest : FnOk PP w K mg base (L2.CX PP w) 5 a_rest fd_rest ["x", "M"] (spF K mg 2 (f_rest))) : FnOk PP w K mg base (L2.CX PP w) 6 a_round_deed fd_round_deed ["wheel", "s", "z", "l", "c", "x", "hx", "cx", "length", "coat", "q"] (spF K mg 11 (f_round_deed)) := by
  refine fn_ok T.F_round_deed sc_round_deed fun cdv A outer s H E hr => ?_
  have tk_ : Takes (cxOf (L2.CX PP w) PP w K mg base ["wheel", "s", "z", "l", "c", "x", "hx", "cx", "length", "coat", "q", "start"] "round_deed" (defScope s_round_deed) a_round_deed cdv A outer s H E) (fun cls d _ H => E cls d H) := takes_of rfl rfl rfl rfl
  exact (rss_cons (rs_if (rt_cmp (o_eq hr.units) (rv 10) re_int (nomark _)) (rss_one (rs_raise rfl T.ref T.e_BadCount hr tk_ re_int)) rss_nil) (rss_cons (rs_set (i := 11) sc_round_deed.nd rfl (.inl rfl) (re_callR (RunAt.ok O_rest (hr.mono (by decide))) T.m_rest T.F_rest.kp (bd_rest T) tk_ (ra_cons (re_op o_sub re_int (rv 3)) (ra_cons (rv 0) ra_nil)) (len_cons (len_cons len_nil)))) (rss_cons (rs_if (rt_cmp o_gt (rv 10) re_int (nomark _)) (rss_one (rs_ret (re_tup (ra_cons (re_gstr T.g_ROUND.choose_spec rfl) (ra_cons (rv 2) (ra_cons (rv 1) (ra_cons (rv 11) (ra_cons (rv 4) (ra_cons (rv 5) (ra_cons (re_callR (RunAt.ok O_rest (hr.mono (by decide))) T.m_rest T.F_rest.kp (bd_rest T) tk_ (ra_cons (rv 6) (ra_cons (rv 0) ra_nil)) (len_cons (len_cons len_nil))) (ra_cons (rv 7) (ra_cons (re_callR (RunAt.ok O_rest (hr.mono (by decide))) T.m_rest T.F_rest.kp (bd_rest T) tk_ (ra_cons (re_op o_sub re_int (rv 8)) (ra_cons (rv 0) ra_nil)) (len_cons (len_cons len_nil))) (ra_cons (rv 9) (ra_cons re_int (ra_cons (rv 10) ra_nil))))))))))))))) rss_nil) (rss_one (rs_ret (re_tup (ra_cons (re_gstr T.g_ROUND.choose_spec rfl) (ra_cons (rv 2) (ra_cons (rv 1) (ra_cons (rv 11) (ra_cons (rv 4) (ra_cons (rv 5) (ra_cons (re_callR (RunAt.ok O_rest (hr.mono (by decide))) T.m_rest T.F_rest.kp (bd_rest T) tk_ (ra_cons (rv 8) (ra_cons (rv 0) ra_nil)) (len_cons (len_cons len_nil))) (ra_cons (rv 9) (ra_cons (re_callR (RunAt.ok O_rest (hr.mono (by decide))) T.m_rest T.F_rest.kp (bd_rest T) tk_ (ra_cons (re_op o_sub re_int (rv 6)) (ra_cons (rv 0) ra_nil)) (len_cons (len_cons len_nil))) (ra_cons (rv 7) (ra_cons re_int (ra_cons (re_op o_sub re_int (rv 10)) ra_nil))))))))))))))))))
theorem ok__law_pool (T : Txt PP K mg fI cc cda C_Refused C_BadWheel C_BadCount a_want_wheel a_left a_rest a_slides_in a_slides_of a_round_deed a__law_pool a__law_take a__law_one a__law_rest a__law_laid a__law_add a__law_told a__law_length a__law_head a__law_threads a__law_three_coats a__law_places a__law_lets a__law_is_deed a__law_walk a__law_led a__law_rounds a__law_lengthened a__law_right a__law_deed a__law_none_refused a_law fd_want_wheel fd_left fd_rest fd_slides_in fd_slides_of fd_round_deed fd__law_pool fd__law_take fd__law_one fd__law_rest fd__law_laid fd__law_add fd__law_told fd__law_length fd__law_head fd__law_threads fd__law_three_coats fd__law_places fd__law_lets fd__law_is_deed fd__law_walk fd__law_led fd__law_rounds fd__law_lengthened fd__law_right fd__law_deed fd__law_none_refused fd_law)  : FnOk PP w K mg base (L2.CX PP w) 1 a__law_pool fd__law_pool ["script", "k"] (spF K mg 2 (f__law_pool)) := by
  refine fn_ok T.F__law_pool sc__law_pool fun cdv A outer s H E hr => ?_
  have tk_ : Takes (cxOf (L2.CX PP w) PP w K mg base ["script", "k", "cell", "big", "mixed"] "_law_pool" (defScope s__law_pool) a__law_pool cdv A outer s H E) (fun cls d _ H => E cls d H) := takes_of rfl rfl rfl rfl
  exact (rss_cons (rs_set (i := 2) sc__law_pool.nd rfl (.inl rfl) re_int) (rss_cons (rs_if (rt_cmp o_lt (rv 1) (re_cb c_len T.b_len boot_len_ (ra_cons (rv 0) ra_nil)) (nomark _)) (rss_one (rs_set (i := 2) sc__law_pool.nd rfl (.inl rfl) (re_ix o_ix (rv 0) (rv 1)))) (rss_one (rs_if (rt_tru (rv 0)) (rss_one (rs_set (i := 2) sc__law_pool.nd rfl (.inl rfl) (re_ix o_ix (rv 0) re_int))) rss_nil))) (rss_cons (rs_set (i := 3) sc__law_pool.nd rfl (.inl rfl) (re_cb (c_max2 rfl) T.b_max boot_max_ (ra_cons (re_ct c_int T.b_int boot_int_ (ra_cons (rv 2) ra_nil)) (ra_cons (re_ct c_int T.b_int boot_int_ (ra_cons (re_op o_sub (re_un o_neg re_int) (rv 2)) ra_nil)) ra_nil)))) (rss_cons (rs_set (i := 4) sc__law_pool.nd rfl (.inl rfl) (re_op o_mod (re_ct c_int T.b_int boot_int_ (ra_cons (re_op o_mul (re_op o_add (re_op o_add (re_op o_add (re_op o_mod (re_ct c_int T.b_int boot_int_ (ra_cons (rv 3) ra_nil)) re_int) (re_op o_mul (re_op o_mul re_int (rv 1)) (rv 1))) (re_op o_mul re_int (rv 1))) re_int) re_int) ra_nil)) re_int)) (rss_one (rs_ret (re_lst (ra_cons (re_op o_mul (rv 3) (re_ct c_int T.b_int boot_int_ (ra_cons (re_cmp o_ge (rv 3) (re_op o_pow re_int re_int) (nomark _)) ra_nil))) (ra_cons (rv 4) ra_nil)))))))))
theorem ok__law_take (T : Txt PP K mg fI cc cda C_Refused C_BadWheel C_BadCount a_want_wheel a_left a_rest a_slides_in a_slides_of a_round_deed a__law_pool a__law_take a__law_one a__law_rest a__law_laid a__law_add a__law_told a__law_length a__law_head a__law_threads a__law_three_coats a__law_places a__law_lets a__law_is_deed a__law_walk a__law_led a__law_rounds a__law_lengthened a__law_right a__law_deed a__law_none_refused a_law fd_want_wheel fd_left fd_rest fd_slides_in fd_slides_of fd_round_deed fd__law_pool fd__law_take fd__law_one fd__law_rest fd__law_laid fd__law_add fd__law_told fd__law_length fd__law_head fd__law_threads fd__law_three_coats fd__law_places fd__law_lets fd__law_is_deed fd__law_walk fd__law_led fd__law_rounds fd__law_lengthened fd__law_right fd__law_deed fd__law_none_refused fd_law)  : FnOk PP w K mg base (L2.CX PP w) 1 a__law_take fd__law_take ["source", "top"] (spF K mg 2 (f__law_take)) := by
  refine fn_ok T.F__law_take sc__law_take fun cdv A outer s H E hr => ?_
  have tk_ : Takes (cxOf (L2.CX PP w) PP w K mg base ["source", "top", "drawn"] "_law_take" (defScope s__law_take) a__law_take cdv A outer s H E) (fun cls d _ H => E cls d H) := takes_of rfl rfl rfl rfl
  exact (rss_cons (rs_if (rt_cmp o_gt (re_ix o_ix (rv 0) re_int) re_int (nomark _)) (rss_cons (rs_set (i := 2) sc__law_take.nd rfl (.inl rfl) (re_op o_mod (re_ct c_int T.b_int boot_int_ (ra_cons (re_ix o_ix (rv 0) re_int) ra_nil)) (rv 1))) (rss_cons (rs_asg (re_op o_div (re_ix o_ix (rv 0) re_int) (rv 1)) (rg_sub (W := fun cls d _ H => E cls d H) (rv 0) re_int)) (rss_one (rs_ret (rv 2))))) rss_nil) (rss_cons (rs_asg (re_op o_mod (re_ct c_int T.b_int boot_int_ (ra_cons (re_op o_add (re_op o_mul (re_ix o_ix (rv 0) re_int) re_int) re_int) ra_nil)) re_int) (rg_sub (W := fun cls d _ H => E cls d H) (rv 0) re_int)) (rss_one (rs_ret (re_op o_mod (re_ct c_int T.b_int boot_int_ (ra_cons (re_op o_div (re_op o_mod (re_ct c_int T.b_int boot_int_ (ra_cons (re_op o_mul (re_ix o_ix (rv 0) re_int) (re_ix o_ix (rv 0) re_int)) ra_nil)) re_int) re_int) ra_nil)) (rv 1))))))
theorem ok__law_one (T : Txt PP K mg fI cc cda C_Refused C_BadWheel C_BadCount a_want_wheel a_left a_rest a_slides_in a_slides_of a_round_deed a__law_pool a__law_take a__law_one a__law_rest a__law_laid a__law_add a__law_told a__law_length a__law_head a__law_threads a__law_three_coats a__law_places a__law_lets a__law_is_deed a__law_walk a__law_led a__law_rounds a__law_lengthened a__law_right a__law_deed a__law_none_refused a_law fd_want_wheel fd_left fd_rest fd_slides_in fd_slides_of fd_round_deed fd__law_pool fd__law_take fd__law_one fd__law_rest fd__law_laid fd__law_add fd__law_told fd__law_length fd__law_head fd__law_threads fd__law_three_coats fd__law_places fd__law_lets fd__law_is_deed fd__law_walk fd__law_led fd__law_rounds fd__law_lengthened fd__law_right fd__law_deed fd__law_none_refused fd_law) (O__law_take : FnOk PP w K mg base (L2.CX PP w) 1 a__law_take fd__law_take ["source", "top"] (spF K mg 2 (f__law_take))) : FnOk PP w K mg base (L2.CX PP w) 2 a__law_one fd__law_one ["source", "things"] (spF K mg 2 (f__law_one)) := by
  refine fn_ok T.F__law_one sc__law_one fun cdv A outer s H E hr => ?_
  have tk_ : Takes (cxOf (L2.CX PP w) PP w K mg base ["source", "things"] "_law_one" (defScope s__law_one) a__law_one cdv A outer s H E) (fun cls d _ H => E cls d H) := takes_of rfl rfl rfl rfl
  exact (rss_one (rs_ret (re_ix o_ix (rv 1) (re_callR (RunAt.ok O__law_take (hr.mono (by decide))) T.m__law_take T.F__law_take.kp (bd__law_take T) tk_ (ra_cons (rv 0) (ra_cons (re_cb c_len T.b_len boot_len_ (ra_cons (rv 1) ra_nil)) ra_nil)) (len_cons (len_cons len_nil))))))
theorem ok__law_rest (T : Txt PP K mg fI cc cda C_Refused C_BadWheel C_BadCount a_want_wheel a_left a_rest a_slides_in a_slides_of a_round_deed a__law_pool a__law_take a__law_one a__law_rest a__law_laid a__law_add a__law_told a__law_length a__law_head a__law_threads a__law_three_coats a__law_places a__law_lets a__law_is_deed a__law_walk a__law_led a__law_rounds a__law_lengthened a__law_right a__law_deed a__law_none_refused a_law fd_want_wheel fd_left fd_rest fd_slides_in fd_slides_of fd_round_deed fd__law_pool fd__law_take fd__law_one fd__law_rest fd__law_laid fd__law_add fd__law_told fd__law_length fd__law_head fd__law_threads fd__law_three_coats fd__law_places fd__law_lets fd__law_is_deed fd__law_walk fd__law_led fd__law_rounds fd__law_lengthened fd__law_right fd__law_deed fd__law_none_refused fd_law)  : FnOk PP w K mg base (L2.CX PP w) 1 a__law_rest fd__law_rest ["x", "wheel"] (spF K mg 2 (f__law_rest)) := by
  refine fn_ok T.F__law_rest sc__law_rest fun cdv A outer s H E hr => ?_
  have tk_ : Takes (cxOf (L2.CX PP w) PP w K mg base ["x", "wheel"] "_law_rest" (defScope s__law_rest) a__law_rest cdv A outer s H E) (fun cls d _ H => E cls d H) := takes_of rfl rfl rfl rfl
  exact (rss_one (rs_ret (re_if (rt_cmp (o_eq hr.units) (rv 1) re_int (nomark _)) (rv 0) (re_op o_mod (re_ct c_int T.b_int boot_int_ (ra_cons (rv 0) ra_nil)) (rv 1)))))
theorem ok__law_laid (T : Txt PP K mg fI cc cda C_Refused C_BadWheel C_BadCount a_want_wheel a_left a_rest a_slides_in a_slides_of a_round_deed a__law_pool a__law_take a__law_one a__law_rest a__law_laid a__law_add a__law_told a__law_length a__law_head a__law_threads a__law_three_coats a__law_places a__law_lets a__law_is_deed a__law_walk a__law_led a__law_rounds a__law_lengthened a__law_right a__law_deed a__law_none_refused a_law fd_want_wheel fd_left fd_rest fd_slides_in fd_slides_of fd_round_deed fd__law_pool fd__law_take fd__law_one fd__law_rest fd__law_laid fd__law_add fd__law_told fd__law_length fd__law_head fd__law_threads fd__law_three_coats fd__law_places fd__law_lets fd__law_is_deed fd__law_walk fd__law_led fd__law_rounds fd__law_lengthened fd__law_right fd__law_deed fd__law_none_refused fd_law) (O__law_rest : FnOk PP w K mg base (L2.CX PP w) 1 a__law_rest fd__law_rest ["x", "wheel"] (spF K mg 2 (f__law_rest))) : FnOk PP w K mg base (L2.CX PP w) 2 a__law_laid fd__law_laid ["u", "v", "length", "coat", "wheel"] (spF K mg 5 (f__law_laid)) := by
  refine fn_ok T.F__law_laid sc__law_laid fun cdv A outer s H E hr => ?_
  have tk_ : Takes (cxOf (L2.CX PP w) PP w K mg base ["u", "v", "length", "coat", "wheel"] "_law_laid" (defScope s__law_laid) a__law_laid cdv A outer s H E) (fun cls d _ H => E cls d H) := takes_of rfl rfl rfl rfl
  exact (rss_cons (rs_if (rt_cmp o_lt (rv 0) (rv 1) (nomark _)) (rss_one (rs_ret (re_tup (ra_cons (rv 0) (ra_cons (rv 1) (ra_cons (re_callR (RunAt.ok O__law_rest (hr.mono (by decide))) T.m__law_rest T.F__law_rest.kp (bd__law_rest T) tk_ (ra_cons (rv 2) (ra_cons (rv 4) ra_nil)) (len_cons (len_cons len_nil))) (ra_cons (rv 3) ra_nil))))))) rss_nil) (rss_one (rs_ret (re_tup (ra_cons (rv 1) (ra_cons (rv 0) (ra_cons (re_callR (RunAt.ok O__law_rest (hr.mono (by decide))) T.m__law_rest T.F__law_rest.kp (bd__law_rest T) tk_ (ra_cons (re_un o_neg (rv 2)) (ra_cons (rv 4) ra_nil)) (len_cons (len_cons len_nil))) (ra_cons (rv 3) ra_nil))))))))
theorem ok__law_add (T : Txt PP K mg fI cc cda C_Refused C_BadWheel C_BadCount a_want_wheel a_left a_rest a_slides_in a_slides_of a_round_deed a__law_pool a__law_take a__law_one a__law_rest a__law_laid a__law_add a__law_told a__law_length a__law_head a__law_threads a__law_three_coats a__law_places a__law_lets a__law_is_deed a__law_walk a__law_led a__law_rounds a__law_lengthened a__law_right a__law_deed a__law_none_refused a_law fd_want_wheel fd_left fd_rest fd_slides_in fd_slides_of fd_round_deed fd__law_pool fd__law_take fd__law_one fd__law_rest fd__law_laid fd__law_add fd__law_told fd__law_length fd__law_head fd__law_threads fd__law_three_coats fd__law_places fd__law_lets fd__law_is_deed fd__law_walk fd__law_led fd__law_rounds fd__law_lengthened fd__law_right fd__law_deed fd__law_none_refused fd_law)  : FnOk PP w K mg base (L2.CX PP w) 1 a__law_add fd__law_add ["counts", "thread", "count"] (spF K mg 3 (f__law_add)) := by
  refine fn_ok T.F__law_add sc__law_add fun cdv A outer s H E hr => ?_
  have tk_ : Takes (cxOf (L2.CX PP w) PP w K mg base ["counts", "thread", "count"] "_law_add" (defScope s__law_add) a__law_add cdv A outer s H E) (fun cls d _ H => E cls d H) := takes_of rfl rfl rfl rfl
  exact (rss_one (rs_asg (re_op o_add (re_dget2 hr.units (rv 0) (rv 1) re_int) (rv 2)) (rg_subD (W := fun cls d _ H => E cls d H) hr.units (rv 0) (rv 1))))
theorem ok__law_told (T : Txt PP K mg fI cc cda C_Refused C_BadWheel C_BadCount a_want_wheel a_left a_rest a_slides_in a_slides_of a_round_deed a__law_pool a__law_take a__law_one a__law_rest a__law_laid a__law_add a__law_told a__law_length a__law_head a__law_threads a__law_three_coats a__law_places a__law_lets a__law_is_deed a__law_walk a__law_led a__law_rounds a__law_lengthened a__law_right a__law_deed a__law_none_refused a_law fd_want_wheel fd_left fd_rest fd_slides_in fd_slides_of fd_round_deed fd__law_pool fd__law_take fd__law_one fd__law_rest fd__law_laid fd__law_add fd__law_told fd__law_length fd__law_head fd__law_threads fd__law_three_coats fd__law_places fd__law_lets fd__law_is_deed fd__law_walk fd__law_led fd__law_rounds fd__law_lengthened fd__law_right fd__law_deed fd__law_none_refused fd_law)  : FnOk PP w K mg base (L2.CX PP w) 1 a__law_told fd__law_told ["counts"] (spF K mg 1 (f__law_told)) := by
  refine fn_ok T.F__law_told sc__law_told fun cdv A outer s H E hr => ?_
  have tk_ : Takes (cxOf (L2.CX PP w) PP w K mg base ["counts", "thread"] "_law_told" (defScope s__law_told) a__law_told cdv A outer s H E) (fun cls d _ H => E cls d H) := takes_of rfl rfl rfl rfl
  exact (rss_one (rs_ret (re_ct c_tuple T.b_tuple boot_tuple_ (ra_cons (re_lc (own := [("thread", 1)]) (c := (CT.one 1)) rfl sc__law_told.nd (ri_seq (re_cb (c_sorted rfl) T.b_sorted boot_sorted_ (ra_cons (rv 0) ra_nil))) (blkOk_by (N := ["counts", "thread"]) (sc := defScope s__law_told) (by decide +kernel)) (by decide) (fun _ _ _ _ _ => (pg_name sc__law_told.nd rfl (.inl rfl))) (fun _ _ _ _ _ => rts_one (rt_cmp o_gt (re_ix (o_dix hr.units) (rv 0) (rv 1)) re_int (nomark _))) (fun _ _ _ _ _ => (re_op o_add (rv 1) (re_tup (ra_cons (re_ix (o_dix hr.units) (rv 0) (rv 1)) ra_nil))))) ra_nil))))
theorem ok__law_length (T : Txt PP K mg fI cc cda C_Refused C_BadWheel C_BadCount a_want_wheel a_left a_rest a_slides_in a_slides_of a_round_deed a__law_pool a__law_take a__law_one a__law_rest a__law_laid a__law_add a__law_told a__law_length a__law_head a__law_threads a__law_three_coats a__law_places a__law_lets a__law_is_deed a__law_walk a__law_led a__law_rounds a__law_lengthened a__law_right a__law_deed a__law_none_refused a_law fd_want_wheel fd_left fd_rest fd_slides_in fd_slides_of fd_round_deed fd__law_pool fd__law_take fd__law_one fd__law_rest fd__law_laid fd__law_add fd__law_told fd__law_length fd__law_head fd__law_threads fd__law_three_coats fd__law_places fd__law_lets fd__law_is_deed fd__law_walk fd__law_led fd__law_rounds fd__law_lengthened fd__law_right fd__law_deed fd__law_none_refused fd_law) (O__law_take : FnOk PP w K mg base (L2.CX PP w) 1 a__law_take fd__law_take ["source", "top"] (spF K mg 2 (f__law_take))) (O__law_one : FnOk PP w K mg base (L2.CX PP w) 2 a__law_one fd__law_one ["source", "things"] (spF K mg 2 (f__law_one))) : FnOk PP w K mg base (L2.CX PP w) 3 a__law_length fd__law_length ["source", "wheel"] (spF K mg 2 (f__law_length)) := by
  refine fn_ok T.F__law_length sc__law_length fun cdv A outer s H E hr => ?_
  have tk_ : Takes (cxOf (L2.CX PP w) PP w K mg base ["source", "wheel"] "_law_length" (defScope s__law_length) a__law_length cdv A outer s H E) (fun cls d _ H => E cls d H) := takes_of rfl rfl rfl rfl
  exact (rss_cons (rs_if (rt_cmp o_gt (rv 1) re_int (nomark _)) (rss_one (rs_ret (re_callR (RunAt.ok O__law_take (hr.mono (by decide))) T.m__law_take T.F__law_take.kp (bd__law_take T) tk_ (ra_cons (rv 0) (ra_cons (rv 1) ra_nil)) (len_cons (len_cons len_nil))))) rss_nil) (rss_cons (rs_if (rt_cmp (o_eq hr.units) (re_callR (RunAt.ok O__law_take (hr.mono (by decide))) T.m__law_take T.F__law_take.kp (bd__law_take T) tk_ (ra_cons (rv 0) (ra_cons re_int ra_nil)) (len_cons (len_cons len_nil))) re_int (nomark _)) (rss_one (rs_ret (re_op o_mul (re_callR (RunAt.ok O__law_one (hr.mono (by decide))) T.m__law_one T.F__law_one.kp (bd__law_one T) tk_ (ra_cons (rv 0) (ra_cons (re_lst (ra_cons re_int (ra_cons (re_un o_neg re_int) ra_nil))) ra_nil)) (len_cons (len_cons len_nil))) (re_op o_sub (re_op o_pow re_int re_int) (re_callR (RunAt.ok O__law_take (hr.mono (by decide))) T.m__law_take T.F__law_take.kp (bd__law_take T) tk_ (ra_cons (rv 0) (ra_cons re_int ra_nil)) (len_cons (len_cons len_nil))))))) rss_nil) (rss_one (rs_ret (re_op o_sub (re_callR (RunAt.ok O__law_take (hr.mono (by decide))) T.m__law_take T.F__law_take.kp (bd__law_take T) tk_ (ra_cons (rv 0) (ra_cons re_int ra_nil)) (len_cons (len_cons len_nil))) re_int)))))
theorem ok__law_head (T : Txt PP K mg fI cc cda C_Refused C_BadWheel C_BadCount a_want_wheel a_left a_rest a_slides_in a_slides_of a_round_deed a__law_pool a__law_take a__law_one a__law_rest a__law_laid a__law_add a__law_told a__law_length a__law_head a__law_threads a__law_three_coats a__law_places a__law_lets a__law_is_deed a__law_walk a__law_led a__law_rounds a__law_lengthened a__law_right a__law_deed a__law_none_refused a_law fd_want_wheel fd_left fd_rest fd_slides_in fd_slides_of fd_round_deed fd__law_pool fd__law_take fd__law_one fd__law_rest fd__law_laid fd__law_add fd__law_told fd__law_length fd__law_head fd__law_threads fd__law_three_coats fd__law_places fd__law_lets fd__law_is_deed fd__law_walk fd__law_led fd__law_rounds fd__law_lengthened fd__law_right fd__law_deed fd__law_none_refused fd_law) (O__law_one : FnOk PP w K mg base (L2.CX PP w) 2 a__law_one fd__law_one ["source", "things"] (spF K mg 2 (f__law_one))) (O__law_take : FnOk PP w K mg base (L2.CX PP w) 1 a__law_take fd__law_take ["source", "top"] (spF K mg 2 (f__law_take))) : FnOk PP w K mg base (L2.CX PP w) 3 a__law_head fd__law_head ["source", "rule"] (spF K mg 2 (f__law_head)) := by
  refine fn_ok T.F__law_head sc__law_head fun cdv A outer s H E hr => ?_
  have tk_ : Takes (cxOf (L2.CX PP w) PP w K mg base ["source", "rule", "n", "wheel"] "_law_head" (defScope s__law_head) a__law_head cdv A outer s H E) (fun cls d _ H => E cls d H) := takes_of rfl rfl rfl rfl
  exact (rss_cons (rs_par (i := 2) (j := 3) rfl sc__law_head.nd rfl rfl rfl rfl (ra_cons (re_callR (RunAt.ok O__law_one (hr.mono (by decide))) T.m__law_one T.F__law_one.kp (bd__law_one T) tk_ (ra_cons (rv 0) (ra_cons (re_lst (ra_cons re_int (ra_cons re_int (ra_cons re_int (ra_cons re_int (ra_cons re_int (ra_cons re_int ra_nil))))))) ra_nil)) (len_cons (len_cons len_nil))) (ra_cons (re_callR (RunAt.ok O__law_one (hr.mono (by decide))) T.m__law_one T.F__law_one.kp (bd__law_one T) tk_ (ra_cons (rv 0) (ra_cons (re_lst (ra_cons re_int (ra_cons re_int (ra_cons re_int (ra_cons re_int (ra_cons re_int (ra_cons re_int (ra_cons re_int (ra_cons re_int (ra_cons re_int (ra_cons (re_callR (RunAt.ok O__law_take (hr.mono (by decide))) T.m__law_take T.F__law_take.kp (bd__law_take T) tk_ (ra_cons (rv 0) (ra_cons re_int ra_nil)) (len_cons (len_cons len_nil))) ra_nil))))))))))) ra_nil)) (len_cons (len_cons len_nil))) ra_nil))) (rss_one (rs_ret (re_tup (ra_cons (rv 2) (ra_cons (rv 3) (ra_cons (re_cb (c_max2 rfl) T.b_max boot_max_ (ra_cons (re_callR (RunAt.ok O__law_one (hr.mono (by decide))) T.m__law_one T.F__law_one.kp (bd__law_one T) tk_ (ra_cons (rv 0) (ra_cons (re_lst (ra_cons re_int (ra_cons re_int (ra_cons re_int (ra_cons re_int (ra_cons re_int ra_nil)))))) ra_nil)) (len_cons (len_cons len_nil))) (ra_cons (re_op o_add re_int (re_ct c_int T.b_int boot_int_ (ra_cons (re_cmp (o_eq hr.units) (rv 1) re_str (nomark _)) ra_nil))) ra_nil))) (ra_cons (rv 1) ra_nil))))))))
theorem ok__law_threads (T : Txt PP K mg fI cc cda C_Refused C_BadWheel C_BadCount a_want_wheel a_left a_rest a_slides_in a_slides_of a_round_deed a__law_pool a__law_take a__law_one a__law_rest a__law_laid a__law_add a__law_told a__law_length a__law_head a__law_threads a__law_three_coats a__law_places a__law_lets a__law_is_deed a__law_walk a__law_led a__law_rounds a__law_lengthened a__law_right a__law_deed a__law_none_refused a_law fd_want_wheel fd_left fd_rest fd_slides_in fd_slides_of fd_round_deed fd__law_pool fd__law_take fd__law_one fd__law_rest fd__law_laid fd__law_add fd__law_told fd__law_length fd__law_head fd__law_threads fd__law_three_coats fd__law_places fd__law_lets fd__law_is_deed fd__law_walk fd__law_led fd__law_rounds fd__law_lengthened fd__law_right fd__law_deed fd__law_none_refused fd_law) (O__law_take : FnOk PP w K mg base (L2.CX PP w) 1 a__law_take fd__law_take ["source", "top"] (spF K mg 2 (f__law_take))) (O__law_laid : FnOk PP w K mg base (L2.CX PP w) 2 a__law_laid fd__law_laid ["u", "v", "length", "coat", "wheel"] (spF K mg 5 (f__law_laid))) (O__law_add : FnOk PP w K mg base (L2.CX PP w) 1 a__law_add fd__law_add ["counts", "thread", "count"] (spF K mg 3 (f__law_add))) (O__law_length : FnOk PP w K mg base (L2.CX PP w) 3 a__law_length fd__law_length ["source", "wheel"] (spF K mg 2 (f__law_length))) (O__law_one : FnOk PP w K mg base (L2.CX PP w) 2 a__law_one fd__law_one ["source", "things"] (spF K mg 2 (f__law_one))) : FnOk PP w K mg base (L2.CX PP w) 4 a__law_threads fd__law_threads ["source", "head", "counts", "many"] (spF K mg 4 (f__law_threads)) := by
  refine fn_ok T.F__law_threads sc__law_threads fun cdv A outer s H E hr => ?_
  have tk_ : Takes (cxOf (L2.CX PP w) PP w K mg base ["source", "head", "counts", "many", "n", "wheel", "coats", "rule", "turn", "u", "v", "thread"] "_law_threads" (defScope s__law_threads) a__law_threads cdv A outer s H E) (fun cls d _ H => E cls d H) := takes_of rfl rfl rfl rfl
  exact (rss_cons (rs_asg (rv 1) (rg_tup rfl (rgs_cons (rg_name (i := 4) sc__law_threads.nd rfl (.inl rfl)) (rgs_cons (rg_name (i := 5) sc__law_threads.nd rfl (.inl rfl)) (rgs_cons (rg_name (i := 6) sc__law_threads.nd rfl (.inl rfl)) (rgs_cons (rg_name (i := 7) sc__law_threads.nd rfl (.inl rfl)) rgs_nil)))))) (rss_one (rs_for (passes_of rfl) rfl (ri_range1 T.b_range (ra_cons (rv 3) ra_nil)) (rg_name (i := 8) sc__law_threads.nd rfl (.inl rfl)) (rss_cons (rs_set (i := 9) sc__law_threads.nd rfl (.inl rfl) (re_callR (RunAt.ok O__law_take (hr.mono (by decide))) T.m__law_take T.F__law_take.kp (bd__law_take T) tk_ (ra_cons (rv 0) (ra_cons (rv 4) ra_nil)) (len_cons (len_cons len_nil)))) (rss_cons (rs_set (i := 10) sc__law_threads.nd rfl (.inl rfl) (re_op o_mod (re_ct c_int T.b_int boot_int_ (ra_cons (re_op o_add (re_op o_add (rv 9) re_int) (re_callR (RunAt.ok O__law_take (hr.mono (by decide))) T.m__law_take T.F__law_take.kp (bd__law_take T) tk_ (ra_cons (rv 0) (ra_cons (re_op o_sub (rv 4) re_int) ra_nil)) (len_cons (len_cons len_nil)))) ra_nil)) (rv 4))) (rss_cons (rs_set (i := 11) sc__law_threads.nd rfl (.inl rfl) (re_callR (RunAt.ok O__law_laid (hr.mono (by decide))) T.m__law_laid T.F__law_laid.kp (bd__law_laid T) tk_ (ra_cons (rv 9) (ra_cons (rv 10) (ra_cons (re_callR (RunAt.ok O__law_length (hr.mono (by decide))) T.m__law_length T.F__law_length.kp (bd__law_length T) tk_ (ra_cons (rv 0) (ra_cons (rv 5) ra_nil)) (len_cons (len_cons len_nil))) (ra_cons (re_callR (RunAt.ok O__law_take (hr.mono (by decide))) T.m__law_take T.F__law_take.kp (bd__law_take T) tk_ (ra_cons (rv 0) (ra_cons (rv 6) ra_nil)) (len_cons (len_cons len_nil))) (ra_cons (rv 5) ra_nil))))) (len_cons (len_cons (len_cons (len_cons (len_cons len_nil))))))) (rss_one (rs_expr (re_callR (RunAt.ok O__law_add (hr.mono (by decide))) T.m__law_add T.F__law_add.kp (bd__law_add T) tk_ (ra_cons (rv 2) (ra_cons (rv 11) (ra_cons (re_callR (RunAt.ok O__law_one (hr.mono (by decide))) T.m__law_one T.F__law_one.kp (bd__law_one T) tk_ (ra_cons (rv 0) (ra_cons (re_lst (ra_cons re_int (ra_cons re_int (ra_cons re_int (ra_cons re_int (ra_cons re_int ra_nil)))))) ra_nil)) (len_cons (len_cons len_nil))) ra_nil))) (len_cons (len_cons (len_cons len_nil))))))))))))
theorem ok__law_three_coats (T : Txt PP K mg fI cc cda C_Refused C_BadWheel C_BadCount a_want_wheel a_left a_rest a_slides_in a_slides_of a_round_deed a__law_pool a__law_take a__law_one a__law_rest a__law_laid a__law_add a__law_told a__law_length a__law_head a__law_threads a__law_three_coats a__law_places a__law_lets a__law_is_deed a__law_walk a__law_led a__law_rounds a__law_lengthened a__law_right a__law_deed a__law_none_refused a_law fd_want_wheel fd_left fd_rest fd_slides_in fd_slides_of fd_round_deed fd__law_pool fd__law_take fd__law_one fd__law_rest fd__law_laid fd__law_add fd__law_told fd__law_length fd__law_head fd__law_threads fd__law_three_coats fd__law_places fd__law_lets fd__law_is_deed fd__law_walk fd__law_led fd__law_rounds fd__law_lengthened fd__law_right fd__law_deed fd__law_none_refused fd_law) (O__law_take : FnOk PP w K mg base (L2.CX PP w) 1 a__law_take fd__law_take ["source", "top"] (spF K mg 2 (f__law_take))) : FnOk PP w K mg base (L2.CX PP w) 2 a__law_three_coats fd__law_three_coats ["source", "head"] (spF K mg 2 (f__law_three_coats)) := by
  refine fn_ok T.F__law_three_coats sc__law_three_coats fun cdv A outer s H E hr => ?_
  have tk_ : Takes (cxOf (L2.CX PP w) PP w K mg base ["source", "head", "coats", "rule", "coat", "turn"] "_law_three_coats" (defScope s__law_three_coats) a__law_three_coats cdv A outer s H E) (fun cls d _ H => E cls d H) := takes_of rfl rfl rfl rfl
  exact (rss_cons (rs_asg (re_tup (ra_cons (re_ix o_ix (rv 1) re_int) (ra_cons (re_ix o_ix (rv 1) re_int) ra_nil))) (rg_tup rfl (rgs_cons (rg_name (i := 2) sc__law_three_coats.nd rfl (.inr rfl)) (rgs_cons (rg_name (i := 3) sc__law_three_coats.nd rfl (.inl rfl)) rgs_nil)))) (rss_cons (rs_set (i := 4) sc__law_three_coats.nd rfl (.inr rfl) (re_callR (RunAt.ok O__law_take (hr.mono (by decide))) T.m__law_take T.F__law_take.kp (bd__law_take T) tk_ (ra_cons (rv 0) (ra_cons (rv 2) ra_nil)) (len_cons (len_cons len_nil)))) (rss_cons (rs_if (rt_cmp (o_eq hr.units) (rv 3) re_str (nomark _)) (rss_one (rs_ret (re_tup (ra_cons (rv 4) (ra_cons (rv 4) (ra_cons (rv 4) ra_nil)))))) rss_nil) (rss_cons (rs_if (rt_cmp (o_eq hr.units) (rv 3) re_str (nomark _)) (rss_one (rs_ret (re_ct c_tuple T.b_tuple boot_tuple_ (ra_cons (re_op o_add (re_lst (ra_cons (rv 4) ra_nil)) (re_lc (own := [("turn", 5)]) (c := (CT.one 5)) rfl sc__law_three_coats.nd (ri_range1 T.b_range (ra_cons re_int ra_nil)) (blkOk_by (N := ["source", "head", "coats", "rule", "coat", "turn"]) (sc := defScope s__law_three_coats) (by decide +kernel)) (by decide) (fun _ _ _ _ _ => (pg_name sc__law_three_coats.nd rfl (.inl rfl))) (fun _ _ _ _ _ => rts_nil) (fun _ _ _ _ _ => (re_op o_mod (re_ct c_int T.b_int boot_int_ (ra_cons (re_op o_add (re_op o_add (rv 4) re_int) (re_callR (RunAt.ok O__law_take (hr.mono (by decide))) T.m__law_take T.F__law_take.kp (bd__law_take T) L2.takes0 (ra_cons (rv 0) (ra_cons (re_op o_sub (rv 2) re_int) ra_nil)) (len_cons (len_cons len_nil)))) ra_nil)) (rv 2))))) ra_nil)))) rss_nil) (rss_one (rs_ret (re_tup (ra_cons (rv 4) (ra_cons (re_callR (RunAt.ok O__law_take (hr.mono (by decide))) T.m__law_take T.F__law_take.kp (bd__law_take T) tk_ (ra_cons (rv 0) (ra_cons (rv 2) ra_nil)) (len_cons (len_cons len_nil))) (ra_cons (re_callR (RunAt.ok O__law_take (hr.mono (by decide))) T.m__law_take T.F__law_take.kp (bd__law_take T) tk_ (ra_cons (rv 0) (ra_cons (rv 2) ra_nil)) (len_cons (len_cons len_nil))) ra_nil))))))))))
theorem ok__law_places (T : Txt PP K mg fI cc cda C_Refused C_BadWheel C_BadCount a_want_wheel a_left a_rest a_slides_in a_slides_of a_round_deed a__law_pool a__law_take a__law_one a__law_rest a__law_laid a__law_add a__law_told a__law_length a__law_head a__law_threads a__law_three_coats a__law_places a__law_lets a__law_is_deed a__law_walk a__law_led a__law_rounds a__law_lengthened a__law_right a__law_deed a__law_none_refused a_law fd_want_wheel fd_left fd_rest fd_slides_in fd_slides_of fd_round_deed fd__law_pool fd__law_take fd__law_one fd__law_rest fd__law_laid fd__law_add fd__law_told fd__law_length fd__law_head fd__law_threads fd__law_three_coats fd__law_places fd__law_lets fd__law_is_deed fd__law_walk fd__law_led fd__law_rounds fd__law_lengthened fd__law_right fd__law_deed fd__law_none_refused fd_law) (O__law_take : FnOk PP w K mg base (L2.CX PP w) 1 a__law_take fd__law_take ["source", "top"] (spF K mg 2 (f__law_take))) : FnOk PP w K mg base (L2.CX PP w) 2 a__law_places fd__law_places ["source", "n", "many"] (spF K mg 3 (f__law_places)) := by
  refine fn_ok T.F__law_places sc__law_places fun cdv A outer s H E hr => ?_
  have tk_ : Takes (cxOf (L2.CX PP w) PP w K mg base ["source", "n", "many", "left_v", "turn"] "_law_places" (defScope s__law_places) a__law_places cdv A outer s H E) (fun cls d _ H => E cls d H) := takes_of rfl rfl rfl rfl
  exact (rss_cons (rs_set (i := 3) sc__law_places.nd rfl (.inr rfl) (re_lrg1 rfl T.b_list T.b_range (rv 1))) (rss_one (rs_ret (re_lc (own := [("turn", 4)]) (c := (CT.one 4)) rfl sc__law_places.nd (ri_range1 T.b_range (ra_cons (rv 2) ra_nil)) (blkOk_by (N := ["source", "n", "many", "left_v", "turn"]) (sc := defScope s__law_places) (by decide +kernel)) (by decide) (fun _ _ _ _ _ => (pg_name sc__law_places.nd rfl (.inl rfl))) (fun _ _ _ _ _ => rts_nil) (fun _ _ _ _ _ => (re_popAt (rv 3) (ra_cons (re_callR (RunAt.ok O__law_take (hr.mono (by decide))) T.m__law_take T.F__law_take.kp (bd__law_take T) L2.takes0 (ra_cons (rv 0) (ra_cons (re_cb c_len T.b_len boot_len_ (ra_cons (rv 3) ra_nil)) ra_nil)) (len_cons (len_cons len_nil))) ra_nil)))))))
theorem ok__law_lets (T : Txt PP K mg fI cc cda C_Refused C_BadWheel C_BadCount a_want_wheel a_left a_rest a_slides_in a_slides_of a_round_deed a__law_pool a__law_take a__law_one a__law_rest a__law_laid a__law_add a__law_told a__law_length a__law_head a__law_threads a__law_three_coats a__law_places a__law_lets a__law_is_deed a__law_walk a__law_led a__law_rounds a__law_lengthened a__law_right a__law_deed a__law_none_refused a_law fd_want_wheel fd_left fd_rest fd_slides_in fd_slides_of fd_round_deed fd__law_pool fd__law_take fd__law_one fd__law_rest fd__law_laid fd__law_add fd__law_told fd__law_length fd__law_head fd__law_threads fd__law_three_coats fd__law_places fd__law_lets fd__law_is_deed fd__law_walk fd__law_led fd__law_rounds fd__law_lengthened fd__law_right fd__law_deed fd__law_none_refused fd_law)  : FnOk PP w K mg base (L2.CX PP w) 1 a__law_lets fd__law_lets ["rule", "coat", "rails"] (spF K mg 3 (f__law_lets)) := by
  refine fn_ok T.F__law_lets sc__law_lets fun cdv A outer s H E hr => ?_
  have tk_ : Takes (cxOf (L2.CX PP w) PP w K mg base ["rule", "coat", "rails", "rail"] "_law_lets" (defScope s__law_lets) a__law_lets cdv A outer s H E) (fun cls d _ H => E cls d H) := takes_of rfl rfl rfl rfl
  exact (rss_cons (rs_if (rt_cmp (o_eq hr.units) (rv 0) re_str (nomark _)) (rss_one (rs_ret re_bl)) rss_nil) (rss_one (rs_ret (re_cb (c_all rfl) T.b_all boot_all_ (ra_cons (re_lc (own := [("rail", 3)]) (c := (CT.one 3)) rfl sc__law_lets.nd (ri_seq (rv 2)) (blkOk_by (N := ["rule", "coat", "rails", "rail"]) (sc := defScope s__law_lets) (by decide +kernel)) (by decide) (fun _ _ _ _ _ => (pg_name sc__law_lets.nd rfl (.inl rfl))) (fun _ _ _ _ _ => rts_nil) (fun _ _ _ _ _ => (re_cmp (o_eq hr.units) (re_cmp (o_eq hr.units) (rv 1) (re_ix o_ix (rv 3) re_int) (nomark _)) (re_cmp (o_eq hr.units) (rv 0) re_str (nomark _)) (nomark _)))) ra_nil)))))
theorem ok__law_is_deed (T : Txt PP K mg fI cc cda C_Refused C_BadWheel C_BadCount a_want_wheel a_left a_rest a_slides_in a_slides_of a_round_deed a__law_pool a__law_take a__law_one a__law_rest a__law_laid a__law_add a__law_told a__law_length a__law_head a__law_threads a__law_three_coats a__law_places a__law_lets a__law_is_deed a__law_walk a__law_led a__law_rounds a__law_lengthened a__law_right a__law_deed a__law_none_refused a_law fd_want_wheel fd_left fd_rest fd_slides_in fd_slides_of fd_round_deed fd__law_pool fd__law_take fd__law_one fd__law_rest fd__law_laid fd__law_add fd__law_told fd__law_length fd__law_head fd__law_threads fd__law_three_coats fd__law_places fd__law_lets fd__law_is_deed fd__law_walk fd__law_led fd__law_rounds fd__law_lengthened fd__law_right fd__law_deed fd__law_none_refused fd_law)  : FnOk PP w K mg base (L2.CX PP w) 1 a__law_is_deed fd__law_is_deed ["deed"] (spF K mg 1 (f__law_is_deed)) := by
  refine fn_ok T.F__law_is_deed sc__law_is_deed fun cdv A outer s H E hr => ?_
  have tk_ : Takes (cxOf (L2.CX PP w) PP w K mg base ["deed", "part"] "_law_is_deed" (defScope s__law_is_deed) a__law_is_deed cdv A outer s H E) (fun cls d _ H => E cls d H) := takes_of rfl rfl rfl rfl
  exact (rss_cons (rs_if (rt_w (rw_or (rt_not (rt_tru (re_isB (rv 0) T.b_isinstance T.b_tuple boot_tuple_ boot_isinstance_))) (rw_or1 (rt_cmp (o_notin (u80 hr)) (re_tup (ra_cons (re_sl (rv 0) ro_none (ro_some re_int)) (ra_cons (re_cb c_len T.b_len boot_len_ (ra_cons (rv 0) ra_nil)) ra_nil))) (re_lst (ra_cons (re_tup (ra_cons (re_tup (ra_cons re_str ra_nil)) (ra_cons re_int ra_nil))) (ra_cons (re_tup (ra_cons (re_tup (ra_cons re_str ra_nil)) (ra_cons re_int ra_nil))) ra_nil))) rfl)))) (rss_one (rs_ret re_bl)) rss_nil) (rss_one (rs_ret (re_cb (c_all rfl) T.b_all boot_all_ (ra_cons (re_lc (own := [("part", 1)]) (c := (CT.one 1)) rfl sc__law_is_deed.nd (ri_seq (re_sl (rv 0) (ro_some re_int) ro_none)) (blkOk_by (N := ["deed", "part"]) (sc := defScope s__law_is_deed) (by decide +kernel)) (by decide) (fun _ _ _ _ _ => (pg_name sc__law_is_deed.nd rfl (.inl rfl))) (fun _ _ _ _ _ => rts_nil) (fun _ _ _ _ _ => (re_and (re_isB (rv 1) T.b_isinstance T.b_int boot_int_ boot_isinstance_) (re_one (re_not (re_isB (rv 1) T.b_isinstance T.b_bool boot_bool_ boot_isinstance_)))))) ra_nil)))))
theorem ok__law_walk (T : Txt PP K mg fI cc cda C_Refused C_BadWheel C_BadCount a_want_wheel a_left a_rest a_slides_in a_slides_of a_round_deed a__law_pool a__law_take a__law_one a__law_rest a__law_laid a__law_add a__law_told a__law_length a__law_head a__law_threads a__law_three_coats a__law_places a__law_lets a__law_is_deed a__law_walk a__law_led a__law_rounds a__law_lengthened a__law_right a__law_deed a__law_none_refused a_law fd_want_wheel fd_left fd_rest fd_slides_in fd_slides_of fd_round_deed fd__law_pool fd__law_take fd__law_one fd__law_rest fd__law_laid fd__law_add fd__law_told fd__law_length fd__law_head fd__law_threads fd__law_three_coats fd__law_places fd__law_lets fd__law_is_deed fd__law_walk fd__law_led fd__law_rounds fd__law_lengthened fd__law_right fd__law_deed fd__law_none_refused fd_law) (O__law_laid : FnOk PP w K mg base (L2.CX PP w) 2 a__law_laid fd__law_laid ["u", "v", "length", "coat", "wheel"] (spF K mg 5 (f__law_laid))) (O__law_is_deed : FnOk PP w K mg base (L2.CX PP w) 1 a__law_is_deed fd__law_is_deed ["deed"] (spF K mg 1 (f__law_is_deed))) (O__law_add : FnOk PP w K mg base (L2.CX PP w) 1 a__law_add fd__law_add ["counts", "thread", "count"] (spF K mg 3 (f__law_add))) (O__law_lets : FnOk PP w K mg base (L2.CX PP w) 1 a__law_lets fd__law_lets ["rule", "coat", "rails"] (spF K mg 3 (f__law_lets))) (O__law_rest : FnOk PP w K mg base (L2.CX PP w) 1 a__law_rest fd__law_rest ["x", "wheel"] (spF K mg 2 (f__law_rest))) : FnOk PP w K mg base (L2.CX PP w) 3 a__law_walk fd__law_walk ["counts", "head", "deed"] (spF K mg 3 (f__law_walk)) := by
  refine fn_ok T.F__law_walk sc__law_walk fun cdv A outer s H E hr => ?_
  have tk_ : Takes (cxOf (L2.CX PP w) PP w K mg base ["counts", "head", "deed", "n", "wheel", "coats", "rule", "u", "v", "length", "coat", "w", "out", "outcoat", "rails", "lengths", "many", "turns", "old", "p", "x", "a", "b", "c"] "_law_walk" (defScope s__law_walk) a__law_walk cdv A outer s H E) (fun cls d _ H => E cls d H) := takes_of rfl rfl rfl rfl
  exact (rss_cons (rs_asg (rv 1) (rg_tup rfl (rgs_cons (rg_name (i := 3) sc__law_walk.nd rfl (.inl rfl)) (rgs_cons (rg_name (i := 4) sc__law_walk.nd rfl (.inr rfl)) (rgs_cons (rg_name (i := 5) sc__law_walk.nd rfl (.inl rfl)) (rgs_cons (rg_name (i := 6) sc__law_walk.nd rfl (.inl rfl)) rgs_nil)))))) (rss_cons (rs_if (rt_not (rt_tru (re_callR (RunAt.ok O__law_is_deed (hr.mono (by decide))) T.m__law_is_deed T.F__law_is_deed.kp (bd__law_is_deed T) tk_ (ra_cons (rv 2) ra_nil) (len_cons len_nil)))) (rss_one (rs_ret re_bl)) rss_nil) (rss_cons (rs_asg (re_sl (rv 2) (ro_some re_int) (ro_some re_int)) (rg_tup rfl (rgs_cons (rg_name (i := 7) sc__law_walk.nd rfl (.inr rfl)) (rgs_cons (rg_name (i := 8) sc__law_walk.nd rfl (.inr rfl)) (rgs_cons (rg_name (i := 9) sc__law_walk.nd rfl (.inl rfl)) (rgs_cons (rg_name (i := 10) sc__law_walk.nd rfl (.inl rfl)) (rgs_cons (rg_name (i := 11) sc__law_walk.nd rfl (.inr rfl)) (rgs_cons (rg_name (i := 12) sc__law_walk.nd rfl (.inl rfl)) (rgs_cons (rg_name (i := 13) sc__law_walk.nd rfl (.inl rfl)) rgs_nil))))))))) (rss_cons (rs_asg (re_tup (ra_cons (re_lst (ra_cons (re_tup (ra_cons (rv 8) (ra_cons (rv 11) (ra_cons (rv 12) (ra_cons (rv 13) ra_nil))))) ra_nil)) (ra_cons (re_lst (ra_cons (rv 9) (ra_cons (rv 12) ra_nil))) (ra_cons (re_ix o_ix (rv 2) re_int) (ra_cons re_int ra_nil))))) (rg_tup rfl (rgs_cons (rg_name (i := 14) sc__law_walk.nd rfl (.inl rfl)) (rgs_cons (rg_name (i := 15) sc__law_walk.nd rfl (.inl rfl)) (rgs_cons (rg_name (i := 16) sc__law_walk.nd rfl (.inl rfl)) (rgs_cons (rg_name (i := 17) sc__law_walk.nd rfl (.inl rfl)) rgs_nil)))))) (rss_cons (rs_if (rt_cmp (o_eq hr.units) (re_cb c_len T.b_len boot_len_ (ra_cons (rv 2) ra_nil)) re_int (nomark _)) (rss_one (rs_asg (re_tup (ra_cons (re_op o_add (rv 14) (re_lst (ra_cons (re_tup (ra_cons (rv 11) (ra_cons (rv 8) (ra_cons (re_ix o_ix (rv 2) re_int) (ra_cons (re_ix o_ix (rv 2) re_int) ra_nil))))) ra_nil))) (ra_cons (re_op o_add (rv 15) (re_lst (ra_cons (re_ix o_ix (rv 2) re_int) ra_nil))) (ra_cons (re_ix o_ix (rv 2) re_int) (ra_cons (re_ix o_ix (rv 2) re_int) ra_nil))))) (rg_tup rfl (rgs_cons (rg_name (i := 14) sc__law_walk.nd rfl (.inl rfl)) (rgs_cons (rg_name (i := 15) sc__law_walk.nd rfl (.inl rfl)) (rgs_cons (rg_name (i := 16) sc__law_walk.nd rfl (.inl rfl)) (rgs_cons (rg_name (i := 17) sc__law_walk.nd rfl (.inl rfl)) rgs_nil))))))) rss_nil) (rss_cons (rs_if (rt_w (rw_or (rt_cmp (o_ne hr.units) (re_cb c_len T.b_len boot_len_ (ra_cons (re_lc (own := [("p", 19)]) (c := (CT.one 19)) rfl sc__law_walk.nd (ri_range1 T.b_range (ra_cons (rv 3) ra_nil)) (blkOk_by (N := ["counts", "head", "deed", "n", "wheel", "coats", "rule", "u", "v", "length", "coat", "w", "out", "outcoat", "rails", "lengths", "many", "turns", "old", "p", "x", "a", "b", "c"]) (sc := defScope s__law_walk) (by decide +kernel)) (by decide) (fun _ _ _ _ _ => (pg_name sc__law_walk.nd rfl (.inl rfl))) (fun _ _ _ _ _ => rts_one (rt_cmp (o_in (u80 hr)) (rv 19) (re_tup (ra_cons (rv 7) (ra_cons (rv 8) (ra_cons (rv 11) ra_nil)))) rfl)) (fun _ _ _ _ _ => (rv 19))) ra_nil)) re_int (nomark _)) (rw_or (rt_cmp o_lt (rv 16) re_int (nomark _)) (rw_or1 (rt_not (rt_chain o_le o_lt re_int (rv 17) (re_op o_pow re_int re_int))))))) (rss_one (rs_ret re_bl)) rss_nil) (rss_cons (rs_if (rt_w (rw_or (rt_tru (re_cb (c_any rfl) T.b_any boot_any_ (ra_cons (re_lc (own := [("x", 20)]) (c := (CT.one 20)) rfl sc__law_walk.nd (ri_seq (rv 15)) (blkOk_by (N := ["counts", "head", "deed", "n", "wheel", "coats", "rule", "u", "v", "length", "coat", "w", "out", "outcoat", "rails", "lengths", "many", "turns", "old", "p", "x", "a", "b", "c"]) (sc := defScope s__law_walk) (by decide +kernel)) (by decide) (fun _ _ _ _ _ => (pg_name sc__law_walk.nd rfl (.inl rfl))) (fun _ _ _ _ _ => rts_nil) (fun _ _ _ _ _ => (re_cmp (o_ne hr.units) (re_callR (RunAt.ok O__law_rest (hr.mono (by decide))) T.m__law_rest T.F__law_rest.kp (bd__law_rest T) L2.takes0 (ra_cons (rv 20) (ra_cons (rv 4) ra_nil)) (len_cons (len_cons len_nil))) (rv 20) (nomark _)))) ra_nil))) (rw_or1 (rt_not (rt_tru (re_callR (RunAt.ok O__law_lets (hr.mono (by decide))) T.m__law_lets T.F__law_lets.kp (bd__law_lets T) tk_ (ra_cons (rv 6) (ra_cons (rv 10) (ra_cons (rv 14) ra_nil))) (len_cons (len_cons (len_cons len_nil))))))))) (rss_one (rs_ret re_bl)) rss_nil) (rss_cons (rs_if (rt_tru (re_cb (c_any rfl) T.b_any boot_any_ (ra_cons (re_lc (own := [("a", 21), ("b", 22), ("x", 20), ("c", 23)]) (c := (CT.many [21, 22, 20, 23])) rfl sc__law_walk.nd (ri_seq (rv 14)) (blkOk_by (N := ["counts", "head", "deed", "n", "wheel", "coats", "rule", "u", "v", "length", "coat", "w", "out", "outcoat", "rails", "lengths", "many", "turns", "old", "p", "x", "a", "b", "c"]) (sc := defScope s__law_walk) (by decide +kernel)) (by decide) (fun _ _ _ _ _ => pg_tup rfl (pgs_cons (pg_name sc__law_walk.nd rfl (.inl rfl)) (pgs_cons (pg_name sc__law_walk.nd rfl (.inl rfl)) (pgs_cons (pg_name sc__law_walk.nd rfl (.inl rfl)) (pgs_cons (pg_name sc__law_walk.nd rfl (.inl rfl)) pgs_nil))))) (fun _ _ _ _ _ => rts_nil) (fun _ _ _ _ _ => (re_cmp o_lt (re_dget2 hr.units (rv 0) (re_callR (RunAt.ok O__law_laid (hr.mono (by decide))) T.m__law_laid T.F__law_laid.kp (bd__law_laid T) L2.takes0 (ra_cons (rv 21) (ra_cons (rv 22) (ra_cons (rv 20) (ra_cons (rv 23) (ra_cons (rv 4) ra_nil))))) (len_cons (len_cons (len_cons (len_cons (len_cons len_nil)))))) re_int) re_int (nomark _)))) ra_nil))) (rss_one (rs_ret re_bl)) rss_nil) (rss_cons (rs_set (i := 18) sc__law_walk.nd rfl (.inl rfl) (re_callR (RunAt.ok O__law_laid (hr.mono (by decide))) T.m__law_laid T.F__law_laid.kp (bd__law_laid T) tk_ (ra_cons (rv 7) (ra_cons (rv 8) (ra_cons (rv 9) (ra_cons (rv 10) (ra_cons (rv 4) ra_nil))))) (len_cons (len_cons (len_cons (len_cons (len_cons len_nil))))))) (rss_cons (rs_if (rt_cmp o_lt (re_dget2 hr.units (rv 0) (rv 18) re_int) (rv 16) (nomark _)) (rss_one (rs_ret re_bl)) rss_nil) (rss_cons (rs_asg (re_op o_sub (re_ix (o_dix hr.units) (rv 0) (rv 18)) (rv 16)) (rg_subD (W := fun cls d _ H => E cls d H) hr.units (rv 0) (rv 18))) (rss_cons (rs_if (rt_cmp (o_eq hr.units) (re_cb c_len T.b_len boot_len_ (ra_cons (rv 2) ra_nil)) re_int (nomark _)) (rss_one (rs_expr (re_callR (RunAt.ok O__law_add (hr.mono (by decide))) T.m__law_add T.F__law_add.kp (bd__law_add T) tk_ (ra_cons (rv 0) (ra_cons (re_callR (RunAt.ok O__law_laid (hr.mono (by decide))) T.m__law_laid T.F__law_laid.kp (bd__law_laid T) tk_ (ra_cons (rv 7) (ra_cons (rv 11) (ra_cons (re_op o_add (rv 9) (rv 12)) (ra_cons (rv 10) (ra_cons (rv 4) ra_nil))))) (len_cons (len_cons (len_cons (len_cons (len_cons len_nil)))))) (ra_cons (rv 16) ra_nil))) (len_cons (len_cons (len_cons len_nil)))))) (rss_one (rs_expr (re_callR (RunAt.ok O__law_add (hr.mono (by decide))) T.m__law_add T.F__law_add.kp (bd__law_add T) tk_ (ra_cons (rv 0) (ra_cons (re_callR (RunAt.ok O__law_laid (hr.mono (by decide))) T.m__law_laid T.F__law_laid.kp (bd__law_laid T) tk_ (ra_cons (rv 7) (ra_cons (rv 8) (ra_cons (re_op o_add (rv 9) (re_op o_mul (rv 17) (re_op o_add (rv 12) (re_ix o_ix (rv 2) re_int)))) (ra_cons (rv 10) (ra_cons (rv 4) ra_nil))))) (len_cons (len_cons (len_cons (len_cons (len_cons len_nil)))))) (ra_cons (rv 16) ra_nil))) (len_cons (len_cons (len_cons len_nil))))))) (rss_one (rs_ret re_bl))))))))))))))
theorem ok__law_led (T : Txt PP K mg fI cc cda C_Refused C_BadWheel C_BadCount a_want_wheel a_left a_rest a_slides_in a_slides_of a_round_deed a__law_pool a__law_take a__law_one a__law_rest a__law_laid a__law_add a__law_told a__law_length a__law_head a__law_threads a__law_three_coats a__law_places a__law_lets a__law_is_deed a__law_walk a__law_led a__law_rounds a__law_lengthened a__law_right a__law_deed a__law_none_refused a_law fd_want_wheel fd_left fd_rest fd_slides_in fd_slides_of fd_round_deed fd__law_pool fd__law_take fd__law_one fd__law_rest fd__law_laid fd__law_add fd__law_told fd__law_length fd__law_head fd__law_threads fd__law_three_coats fd__law_places fd__law_lets fd__law_is_deed fd__law_walk fd__law_led fd__law_rounds fd__law_lengthened fd__law_right fd__law_deed fd__law_none_refused fd_law) (O__law_walk : FnOk PP w K mg base (L2.CX PP w) 3 a__law_walk fd__law_walk ["counts", "head", "deed"] (spF K mg 3 (f__law_walk))) : FnOk PP w K mg base (L2.CX PP w) 4 a__law_led fd__law_led ["counts", "head", "run"] (spF K mg 3 (f__law_led)) := by
  refine fn_ok T.F__law_led sc__law_led fun cdv A outer s H E hr => ?_
  have tk_ : Takes (cxOf (L2.CX PP w) PP w K mg base ["counts", "head", "run", "now", "deed", "thread"] "_law_led" (defScope s__law_led) a__law_led cdv A outer s H E) (fun cls d _ H => E cls d H) := takes_of rfl rfl rfl rfl
  exact (rss_cons (rs_set (i := 3) sc__law_led.nd rfl (.inl rfl) (re_ct (c_dict rfl hr.units) T.b_dict boot_dict_ (ra_cons (re_lcD (own := [("thread", 5)]) (c := (CT.one 5)) rfl sc__law_led.nd (rv 0) (blkOk_by (N := ["counts", "head", "run", "now", "deed", "thread"]) (sc := defScope s__law_led) (by decide +kernel)) (by decide) (fun _ _ _ _ _ => (pg_name sc__law_led.nd rfl (.inl rfl))) (fun _ _ _ _ _ => rts_nil) (fun _ _ _ _ _ => (re_tup (ra_cons (rv 5) (ra_cons (re_ix (o_dix hr.units) (rv 0) (rv 5)) ra_nil))))) ra_nil))) (rss_cons (rs_if (rt_not (rt_tru (re_isB (rv 2) T.b_isinstance T.b_tuple boot_tuple_ boot_isinstance_))) (rss_one (rs_ret re_non)) rss_nil) (rss_cons (rs_for (passes_of rfl) rfl (ri_seq (rv 2)) (rg_name (i := 4) sc__law_led.nd rfl (.inl rfl)) (rss_one (rs_if (rt_not (rt_tru (re_callR (RunAt.ok O__law_walk (hr.mono (by decide))) T.m__law_walk T.F__law_walk.kp (bd__law_walk T) tk_ (ra_cons (rv 3) (ra_cons (rv 1) (ra_cons (rv 4) ra_nil))) (len_cons (len_cons (len_cons len_nil)))))) (rss_one (rs_ret re_non)) rss_nil))) (rss_one (rs_ret (rv 3))))))
theorem ok__law_rounds (T : Txt PP K mg fI cc cda C_Refused C_BadWheel C_BadCount a_want_wheel a_left a_rest a_slides_in a_slides_of a_round_deed a__law_pool a__law_take a__law_one a__law_rest a__law_laid a__law_add a__law_told a__law_length a__law_head a__law_threads a__law_three_coats a__law_places a__law_lets a__law_is_deed a__law_walk a__law_led a__law_rounds a__law_lengthened a__law_right a__law_deed a__law_none_refused a_law fd_want_wheel fd_left fd_rest fd_slides_in fd_slides_of fd_round_deed fd__law_pool fd__law_take fd__law_one fd__law_rest fd__law_laid fd__law_add fd__law_told fd__law_length fd__law_head fd__law_threads fd__law_three_coats fd__law_places fd__law_lets fd__law_is_deed fd__law_walk fd__law_led fd__law_rounds fd__law_lengthened fd__law_right fd__law_deed fd__law_none_refused fd_law) (O__law_take : FnOk PP w K mg base (L2.CX PP w) 1 a__law_take fd__law_take ["source", "top"] (spF K mg 2 (f__law_take))) (O__law_one : FnOk PP w K mg base (L2.CX PP w) 2 a__law_one fd__law_one ["source", "things"] (spF K mg 2 (f__law_one))) : FnOk PP w K mg base (L2.CX PP w) 3 a__law_rounds fd__law_rounds ["source"] (spF K mg 1 (f__law_rounds)) := by
  refine fn_ok T.F__law_rounds sc__law_rounds fun cdv A outer s H E hr => ?_
  have tk_ : Takes (cxOf (L2.CX PP w) PP w K mg base ["source"] "_law_rounds" (defScope s__law_rounds) a__law_rounds cdv A outer s H E) (fun cls d _ H => E cls d H) := takes_of rfl rfl rfl rfl
  exact (rss_cons (rs_if (rt_cmp (o_eq hr.units) (re_callR (RunAt.ok O__law_take (hr.mono (by decide))) T.m__law_take T.F__law_take.kp (bd__law_take T) tk_ (ra_cons (rv 0) (ra_cons re_int ra_nil)) (len_cons (len_cons len_nil))) re_int (nomark _)) (rss_one (rs_ret (re_op o_mul (re_callR (RunAt.ok O__law_one (hr.mono (by decide))) T.m__law_one T.F__law_one.kp (bd__law_one T) tk_ (ra_cons (rv 0) (ra_cons (re_lst (ra_cons re_int (ra_cons (re_un o_neg re_int) ra_nil))) ra_nil)) (len_cons (len_cons len_nil))) (re_op o_sub (re_op o_sub (re_op o_pow re_int re_int) re_int) (re_callR (RunAt.ok O__law_take (hr.mono (by decide))) T.m__law_take T.F__law_take.kp (bd__law_take T) tk_ (ra_cons (rv 0) (ra_cons (re_op o_pow re_int re_int) ra_nil)) (len_cons (len_cons len_nil))))))) rss_nil) (rss_one (rs_ret (re_op o_mul (re_callR (RunAt.ok O__law_one (hr.mono (by decide))) T.m__law_one T.F__law_one.kp (bd__law_one T) tk_ (ra_cons (rv 0) (ra_cons (re_lst (ra_cons re_int (ra_cons (re_un o_neg re_int) ra_nil))) ra_nil)) (len_cons (len_cons len_nil))) (re_op o_add re_int (re_callR (RunAt.ok O__law_take (hr.mono (by decide))) T.m__law_take T.F__law_take.kp (bd__law_take T) tk_ (ra_cons (rv 0) (ra_cons re_int ra_nil)) (len_cons (len_cons len_nil))))))))
theorem ok__law_lengthened (T : Txt PP K mg fI cc cda C_Refused C_BadWheel C_BadCount a_want_wheel a_left a_rest a_slides_in a_slides_of a_round_deed a__law_pool a__law_take a__law_one a__law_rest a__law_laid a__law_add a__law_told a__law_length a__law_head a__law_threads a__law_three_coats a__law_places a__law_lets a__law_is_deed a__law_walk a__law_led a__law_rounds a__law_lengthened a__law_right a__law_deed a__law_none_refused a_law fd_want_wheel fd_left fd_rest fd_slides_in fd_slides_of fd_round_deed fd__law_pool fd__law_take fd__law_one fd__law_rest fd__law_laid fd__law_add fd__law_told fd__law_length fd__law_head fd__law_threads fd__law_three_coats fd__law_places fd__law_lets fd__law_is_deed fd__law_walk fd__law_led fd__law_rounds fd__law_lengthened fd__law_right fd__law_deed fd__law_none_refused fd_law) (O__law_add : FnOk PP w K mg base (L2.CX PP w) 1 a__law_add fd__law_add ["counts", "thread", "count"] (spF K mg 3 (f__law_add))) (O__law_laid : FnOk PP w K mg base (L2.CX PP w) 2 a__law_laid fd__law_laid ["u", "v", "length", "coat", "wheel"] (spF K mg 5 (f__law_laid))) : FnOk PP w K mg base (L2.CX PP w) 3 a__law_lengthened fd__law_lengthened ["counts", "wheel", "old", "by"] (spF K mg 4 (f__law_lengthened)) := by
  refine fn_ok T.F__law_lengthened sc__law_lengthened fun cdv A outer s H E hr => ?_
  have tk_ : Takes (cxOf (L2.CX PP w) PP w K mg base ["counts", "wheel", "old", "by", "now", "s", "z", "length", "coat", "thread"] "_law_lengthened" (defScope s__law_lengthened) a__law_lengthened cdv A outer s H E) (fun cls d _ H => E cls d H) := takes_of rfl rfl rfl rfl
  exact (rss_cons (rs_set (i := 4) sc__law_lengthened.nd rfl (.inl rfl) (re_ct (c_dict rfl hr.units) T.b_dict boot_dict_ (ra_cons (re_lcD (own := [("thread", 9)]) (c := (CT.one 9)) rfl sc__law_lengthened.nd (rv 0) (blkOk_by (N := ["counts", "wheel", "old", "by", "now", "s", "z", "length", "coat", "thread"]) (sc := defScope s__law_lengthened) (by decide +kernel)) (by decide) (fun _ _ _ _ _ => (pg_name sc__law_lengthened.nd rfl (.inl rfl))) (fun _ _ _ _ _ => rts_nil) (fun _ _ _ _ _ => (re_tup (ra_cons (rv 9) (ra_cons (re_ix (o_dix hr.units) (rv 0) (rv 9)) ra_nil))))) ra_nil))) (rss_cons (rs_asg (rv 2) (rg_tup rfl (rgs_cons (rg_name (i := 5) sc__law_lengthened.nd rfl (.inl rfl)) (rgs_cons (rg_name (i := 6) sc__law_lengthened.nd rfl (.inl rfl)) (rgs_cons (rg_name (i := 7) sc__law_lengthened.nd rfl (.inl rfl)) (rgs_cons (rg_name (i := 8) sc__law_lengthened.nd rfl (.inl rfl)) rgs_nil)))))) (rss_cons (rs_expr (re_callR (RunAt.ok O__law_add (hr.mono (by decide))) T.m__law_add T.F__law_add.kp (bd__law_add T) tk_ (ra_cons (rv 4) (ra_cons (re_callR (RunAt.ok O__law_laid (hr.mono (by decide))) T.m__law_laid T.F__law_laid.kp (bd__law_laid T) tk_ (ra_cons (rv 5) (ra_cons (rv 6) (ra_cons (rv 7) (ra_cons (rv 8) (ra_cons (rv 1) ra_nil))))) (len_cons (len_cons (len_cons (len_cons (len_cons len_nil)))))) (ra_cons (re_un o_neg re_int) ra_nil))) (len_cons (len_cons (len_cons len_nil))))) (rss_cons (rs_expr (re_callR (RunAt.ok O__law_add (hr.mono (by decide))) T.m__law_add T.F__law_add.kp (bd__law_add T) tk_ (ra_cons (rv 4) (ra_cons (re_callR (RunAt.ok O__law_laid (hr.mono (by decide))) T.m__law_laid T.F__law_laid.kp (bd__law_laid T) tk_ (ra_cons (rv 5) (ra_cons (rv 6) (ra_cons (re_op o_add (rv 7) (rv 3)) (ra_cons (rv 8) (ra_cons (rv 1) ra_nil))))) (len_cons (len_cons (len_cons (len_cons (len_cons len_nil)))))) (ra_cons re_int ra_nil))) (len_cons (len_cons (len_cons len_nil))))) (rss_one (rs_ret (rv 4)))))))
theorem ok__law_right (T : Txt PP K mg fI cc cda C_Refused C_BadWheel C_BadCount a_want_wheel a_left a_rest a_slides_in a_slides_of a_round_deed a__law_pool a__law_take a__law_one a__law_rest a__law_laid a__law_add a__law_told a__law_length a__law_head a__law_threads a__law_three_coats a__law_places a__law_lets a__law_is_deed a__law_walk a__law_led a__law_rounds a__law_lengthened a__law_right a__law_deed a__law_none_refused a_law fd_want_wheel fd_left fd_rest fd_slides_in fd_slides_of fd_round_deed fd__law_pool fd__law_take fd__law_one fd__law_rest fd__law_laid fd__law_add fd__law_told fd__law_length fd__law_head fd__law_threads fd__law_three_coats fd__law_places fd__law_lets fd__law_is_deed fd__law_walk fd__law_led fd__law_rounds fd__law_lengthened fd__law_right fd__law_deed fd__law_none_refused fd_law) (O__law_led : FnOk PP w K mg base (L2.CX PP w) 4 a__law_led fd__law_led ["counts", "head", "run"] (spF K mg 3 (f__law_led))) (O__law_told : FnOk PP w K mg base (L2.CX PP w) 1 a__law_told fd__law_told ["counts"] (spF K mg 1 (f__law_told))) (O_slides_of : FnOk PP w K mg base (L2.CX PP w) 2 a_slides_of fd_slides_of ["run"] (spF K mg 1 (f_slides_of))) : FnOk PP w K mg base (L2.CX PP w) 5 a__law_right fd__law_right ["counts", "head", "deed", "due", "many"] (spF K mg 5 (f__law_right)) := by
  refine fn_ok T.F__law_right sc__law_right fun cdv A outer s H E hr => ?_
  have tk_ : Takes (cxOf (L2.CX PP w) PP w K mg base ["counts", "head", "deed", "due", "many", "led"] "_law_right" (defScope s__law_right) a__law_right cdv A outer s H E) (fun cls d _ H => E cls d H) := takes_of rfl rfl rfl rfl
  exact (rss_cons (rs_set (i := 5) sc__law_right.nd rfl (.inl rfl) (re_callR (RunAt.ok O__law_led (hr.mono (by decide))) T.m__law_led T.F__law_led.kp (bd__law_led T) tk_ (ra_cons (rv 0) (ra_cons (rv 1) (ra_cons (re_tup (ra_cons (rv 2) ra_nil)) ra_nil))) (len_cons (len_cons (len_cons len_nil))))) (rss_one (rs_ret (re_and (re_cmp o_notN (rv 5) re_non (nomark _)) (re_and (re_cmp (o_eq hr.units) (re_callR (RunAt.ok O__law_told (hr.mono (by decide))) T.m__law_told T.F__law_told.kp (bd__law_told T) tk_ (ra_cons (rv 5) ra_nil) (len_cons len_nil)) (re_callR (RunAt.ok O__law_told (hr.mono (by decide))) T.m__law_told T.F__law_told.kp (bd__law_told T) tk_ (ra_cons (rv 3) ra_nil) (len_cons len_nil)) (nomark _)) (re_one (re_cmp (o_eq hr.units) (re_callR (RunAt.ok O_slides_of (hr.mono (by decide))) T.m_slides_of T.F_slides_of.kp (bd_slides_of T) tk_ (ra_cons (re_tup (ra_cons (rv 2) ra_nil)) ra_nil) (len_cons len_nil)) (re_op o_mul re_int (rv 4)) (nomark _))))))))
theorem ok__law_deed (T : Txt PP K mg fI cc cda C_Refused C_BadWheel C_BadCount a_want_wheel a_left a_rest a_slides_in a_slides_of a_round_deed a__law_pool a__law_take a__law_one a__law_rest a__law_laid a__law_add a__law_told a__law_length a__law_head a__law_threads a__law_three_coats a__law_places a__law_lets a__law_is_deed a__law_walk a__law_led a__law_rounds a__law_lengthened a__law_right a__law_deed a__law_none_refused a_law fd_want_wheel fd_left fd_rest fd_slides_in fd_slides_of fd_round_deed fd__law_pool fd__law_take fd__law_one fd__law_rest fd__law_laid fd__law_add fd__law_told fd__law_length fd__law_head fd__law_threads fd__law_three_coats fd__law_places fd__law_lets fd__law_is_deed fd__law_walk fd__law_led fd__law_rounds fd__law_lengthened fd__law_right fd__law_deed fd__law_none_refused fd_law) (O__law_rest : FnOk PP w K mg base (L2.CX PP w) 1 a__law_rest fd__law_rest ["x", "wheel"] (spF K mg 2 (f__law_rest))) : FnOk PP w K mg base (L2.CX PP w) 2 a__law_deed fd__law_deed ["wheel", "s", "z", "first", "keeper", "spare", "many"] (spF K mg 7 (f__law_deed)) := by
  refine fn_ok T.F__law_deed sc__law_deed fun cdv A outer s H E hr => ?_
  have tk_ : Takes (cxOf (L2.CX PP w) PP w K mg base ["wheel", "s", "z", "first", "keeper", "spare", "many", "x", "hx", "cx", "length", "coat", "out", "back"] "_law_deed" (defScope s__law_deed) a__law_deed cdv A outer s H E) (fun cls d _ H => E cls d H) := takes_of rfl rfl rfl rfl
  exact (rss_cons (rs_asg (rv 4) (rg_tup rfl (rgs_cons (rg_name (i := 7) sc__law_deed.nd rfl (.inl rfl)) (rgs_cons (rg_name (i := 8) sc__law_deed.nd rfl (.inl rfl)) (rgs_cons (rg_name (i := 9) sc__law_deed.nd rfl (.inl rfl)) rgs_nil))))) (rss_cons (rs_asg (rv 5) (rg_tup rfl (rgs_cons (rg_name (i := 7) sc__law_deed.nd rfl (.inl rfl)) (rgs_cons (rg_name (i := 10) sc__law_deed.nd rfl (.inl rfl)) (rgs_cons (rg_name (i := 11) sc__law_deed.nd rfl (.inl rfl)) rgs_nil))))) (rss_cons (rs_par (i := 12) (j := 13) rfl sc__law_deed.nd rfl rfl rfl rfl (ra_cons (re_callR (RunAt.ok O__law_rest (hr.mono (by decide))) T.m__law_rest T.F__law_rest.kp (bd__law_rest T) tk_ (ra_cons (rv 8) (ra_cons (rv 0) ra_nil)) (len_cons (len_cons len_nil))) (ra_cons (re_callR (RunAt.ok O__law_rest (hr.mono (by decide))) T.m__law_rest T.F__law_rest.kp (bd__law_rest T) tk_ (ra_cons (re_un o_neg (rv 10)) (ra_cons (rv 0) ra_nil)) (len_cons (len_cons len_nil))) ra_nil))) (rss_cons (rs_if (rt_cmp o_gt (rv 6) re_int (nomark _)) (rss_one (rs_ret (re_tup (ra_cons re_str (ra_cons (rv 2) (ra_cons (rv 1) (ra_cons (re_callR (RunAt.ok O__law_rest (hr.mono (by decide))) T.m__law_rest T.F__law_rest.kp (bd__law_rest T) tk_ (ra_cons (re_un o_neg (re_ix o_ix (rv 3) re_int)) (ra_cons (rv 0) ra_nil)) (len_cons (len_cons len_nil))) (ra_cons (re_ix o_ix (rv 3) re_int) (ra_cons (rv 7) (ra_cons (rv 12) (ra_cons (rv 9) (ra_cons (rv 13) (ra_cons (rv 11) (ra_cons re_int (ra_cons (rv 6) ra_nil))))))))))))))) rss_nil) (rss_cons (rs_par (i := 12) (j := 13) rfl sc__law_deed.nd rfl rfl rfl rfl (ra_cons (re_callR (RunAt.ok O__law_rest (hr.mono (by decide))) T.m__law_rest T.F__law_rest.kp (bd__law_rest T) tk_ (ra_cons (rv 10) (ra_cons (rv 0) ra_nil)) (len_cons (len_cons len_nil))) (ra_cons (re_callR (RunAt.ok O__law_rest (hr.mono (by decide))) T.m__law_rest T.F__law_rest.kp (bd__law_rest T) tk_ (ra_cons (re_un o_neg (rv 8)) (ra_cons (rv 0) ra_nil)) (len_cons (len_cons len_nil))) ra_nil))) (rss_one (rs_ret (re_tup (ra_cons re_str (ra_cons (rv 2) (ra_cons (rv 1) (ra_cons (re_callR (RunAt.ok O__law_rest (hr.mono (by decide))) T.m__law_rest T.F__law_rest.kp (bd__law_rest T) tk_ (ra_cons (re_un o_neg (re_ix o_ix (rv 3) re_int)) (ra_cons (rv 0) ra_nil)) (len_cons (len_cons len_nil))) (ra_cons (re_ix o_ix (rv 3) re_int) (ra_cons (rv 7) (ra_cons (rv 12) (ra_cons (rv 11) (ra_cons (rv 13) (ra_cons (rv 9) (ra_cons re_int (ra_cons (re_un o_neg (rv 6)) ra_nil))))))))))))))))))))
theorem ok__law_none_refused (T : Txt PP K mg fI cc cda C_Refused C_BadWheel C_BadCount a_want_wheel a_left a_rest a_slides_in a_slides_of a_round_deed a__law_pool a__law_take a__law_one a__law_rest a__law_laid a__law_add a__law_told a__law_length a__law_head a__law_threads a__law_three_coats a__law_places a__law_lets a__law_is_deed a__law_walk a__law_led a__law_rounds a__law_lengthened a__law_right a__law_deed a__law_none_refused a_law fd_want_wheel fd_left fd_rest fd_slides_in fd_slides_of fd_round_deed fd__law_pool fd__law_take fd__law_one fd__law_rest fd__law_laid fd__law_add fd__law_told fd__law_length fd__law_head fd__law_threads fd__law_three_coats fd__law_places fd__law_lets fd__law_is_deed fd__law_walk fd__law_led fd__law_rounds fd__law_lengthened fd__law_right fd__law_deed fd__law_none_refused fd_law) (O_round_deed : FnOk PP w K mg base (L2.CX PP w) 6 a_round_deed fd_round_deed ["wheel", "s", "z", "l", "c", "x", "hx", "cx", "length", "coat", "q"] (spF K mg 11 (f_round_deed))) : FnOk PP w K mg base (L2.CX PP w) 7 a__law_none_refused fd__law_none_refused ["wheel", "s", "z", "x", "long"] (spF K mg 5 (f__law_none_refused)) := by
  refine fn_ok T.F__law_none_refused sc__law_none_refused fun cdv A outer s H E hr => ?_
  have tk_ : Takes (cxOf (L2.CX PP w) PP w K mg base ["wheel", "s", "z", "x", "long", "e"] "_law_none_refused" (defScope s__law_none_refused) a__law_none_refused cdv A outer s H E) (fun cls d _ H => E cls d H) := takes_of rfl rfl rfl rfl
  have ER := errs_of (X := cxOf (L2.CX PP w) PP w K mg base ["wheel", "s", "z", "x", "long", "e"] "_law_none_refused" (defScope s__law_none_refused) a__law_none_refused cdv A outer s H E) rfl rfl T
  exact (rss_cons (rs_tryN (errs := errs_) rfl rfl sc__law_none_refused.nd tk_ (fun W2 pn2 xe2 tk2_ po2 => (rss_one (rs_expr (re_callK0 (ix := [10, 9, 8, 7, 6, 5, 4, 3, 2, 1, 0]) (n := 11) (RunAt.ok O_round_deed (hr.mono (by decide))) T.m_round_deed T.F_round_deed.kp tk2_ (rk_cons re_int (rk_cons re_int (rk_cons (rv 4) (rk_cons re_int (rk_cons (rv 4) (rk_cons (rv 3) (rk_cons re_int (rk_cons (rv 4) (rk_cons (rv 2) (rk_cons (rv 1) (rk_cons (rv 0) rk_nil))))))))))) (len_cons (len_cons (len_cons (len_cons (len_cons (len_cons (len_cons (len_cons (len_cons (len_cons (len_cons len_nil))))))))))) (by decide) rfl (kb_round_deed_0_q_coat_length_cx_hx_x_c_l_z_s_wheel T))))) (.cons (q := some 5) (sub := subOf "BadCount") rfl (by decide) T.e_BadCount.gC ⟨rfl, rfl⟩ (fun c C h1 h2 => T.exm_BadCount c C h1 h2) (fun z ob cls d pn hz hv => pss_one (ps_ret (heo_eq ER hz hv rfl (.inl rfl)))) (cr_retO (i := 5) (f := wEq 0)) (.cons (q := none) (sub := subOf "Refused") rfl (by decide) T.e_Refused.gC trivial (fun c C h1 h2 => T.exm_Refused c C h1 h2) (fun z ob cls d pn hz hv => (rss_one (rs_ret re_bl))) (cr_bare (m := (sRet (eC (.bl false))))) .nil))) (rss_one (rs_ret re_bl)))
theorem ok_law (T : Txt PP K mg fI cc cda C_Refused C_BadWheel C_BadCount a_want_wheel a_left a_rest a_slides_in a_slides_of a_round_deed a__law_pool a__law_take a__law_one a__law_rest a__law_laid a__law_add a__law_told a__law_length a__law_head a__law_threads a__law_three_coats a__law_places a__law_lets a__law_is_deed a__law_walk a__law_led a__law_rounds a__law_lengthened a__law_right a__law_deed a__law_none_refused a_law fd_want_wheel fd_left fd_rest fd_slides_in fd_slides_of fd_round_deed fd__law_pool fd__law_take fd__law_one fd__law_rest fd__law_laid fd__law_add fd__law_told fd__law_length fd__law_head fd__law_threads fd__law_three_coats fd__law_places fd__law_lets fd__law_is_deed fd__law_walk fd__law_led fd__law_rounds fd__law_lengthened fd__law_right fd__law_deed fd__law_none_refused fd_law) (O__law_head : FnOk PP w K mg base (L2.CX PP w) 3 a__law_head fd__law_head ["source", "rule"] (spF K mg 2 (f__law_head))) (O__law_threads : FnOk PP w K mg base (L2.CX PP w) 4 a__law_threads fd__law_threads ["source", "head", "counts", "many"] (spF K mg 4 (f__law_threads))) (O__law_places : FnOk PP w K mg base (L2.CX PP w) 2 a__law_places fd__law_places ["source", "n", "many"] (spF K mg 3 (f__law_places))) (O__law_three_coats : FnOk PP w K mg base (L2.CX PP w) 2 a__law_three_coats fd__law_three_coats ["source", "head"] (spF K mg 2 (f__law_three_coats))) (O__law_rest : FnOk PP w K mg base (L2.CX PP w) 1 a__law_rest fd__law_rest ["x", "wheel"] (spF K mg 2 (f__law_rest))) (O__law_lengthened : FnOk PP w K mg base (L2.CX PP w) 3 a__law_lengthened fd__law_lengthened ["counts", "wheel", "old", "by"] (spF K mg 4 (f__law_lengthened))) (O_round_deed : FnOk PP w K mg base (L2.CX PP w) 6 a_round_deed fd_round_deed ["wheel", "s", "z", "l", "c", "x", "hx", "cx", "length", "coat", "q"] (spF K mg 11 (f_round_deed))) (O__law_pool : FnOk PP w K mg base (L2.CX PP w) 1 a__law_pool fd__law_pool ["script", "k"] (spF K mg 2 (f__law_pool))) (O__law_one : FnOk PP w K mg base (L2.CX PP w) 2 a__law_one fd__law_one ["source", "things"] (spF K mg 2 (f__law_one))) (O__law_take : FnOk PP w K mg base (L2.CX PP w) 1 a__law_take fd__law_take ["source", "top"] (spF K mg 2 (f__law_take))) (O__law_length : FnOk PP w K mg base (L2.CX PP w) 3 a__law_length fd__law_length ["source", "wheel"] (spF K mg 2 (f__law_length))) (O__law_rounds : FnOk PP w K mg base (L2.CX PP w) 3 a__law_rounds fd__law_rounds ["source"] (spF K mg 1 (f__law_rounds))) (O__law_add : FnOk PP w K mg base (L2.CX PP w) 1 a__law_add fd__law_add ["counts", "thread", "count"] (spF K mg 3 (f__law_add))) (O__law_deed : FnOk PP w K mg base (L2.CX PP w) 2 a__law_deed fd__law_deed ["wheel", "s", "z", "first", "keeper", "spare", "many"] (spF K mg 7 (f__law_deed))) (O__law_right : FnOk PP w K mg base (L2.CX PP w) 5 a__law_right fd__law_right ["counts", "head", "deed", "due", "many"] (spF K mg 5 (f__law_right))) (O__law_none_refused : FnOk PP w K mg base (L2.CX PP w) 7 a__law_none_refused fd__law_none_refused ["wheel", "s", "z", "x", "long"] (spF K mg 5 (f__law_none_refused))) (O__law_laid : FnOk PP w K mg base (L2.CX PP w) 2 a__law_laid fd__law_laid ["u", "v", "length", "coat", "wheel"] (spF K mg 5 (f__law_laid))) : FnOk PP w K mg base (L2.CX PP w) 8 a_law fd_law ["script"] (spF K mg 1 (f_law)) := by
  refine fn_ok T.F_law sc_law fun cdv A outer s H E hr => ?_
  have tk_ : Takes (cxOf (L2.CX PP w) PP w K mg base ["script", "turn", "source", "counts", "head", "n", "wheel", "coats", "rule", "s", "z", "x", "c", "cx", "coat", "long", "hx", "many", "length", "end", "far", "dyed", "due", "deed", "great", "now"] "law" (defScope s_law) a_law cdv A outer s H E) (fun cls d _ H => E cls d H) := takes_of rfl rfl rfl rfl
  exact (rss_cons (rs_for (passes_of rfl) rfl (ri_range1 T.b_range (ra_cons re_int ra_nil)) (rg_name (i := 1) sc_law.nd rfl (.inl rfl)) (rss_cons (rs_par (i := 2) (j := 3) rfl sc_law.nd rfl rfl rfl rfl (ra_cons (re_callR (RunAt.ok O__law_pool (hr.mono (by decide))) T.m__law_pool T.F__law_pool.kp (bd__law_pool T) tk_ (ra_cons (rv 0) (ra_cons (rv 1) ra_nil)) (len_cons (len_cons len_nil))) (ra_cons (re_ct (c_dict rfl hr.units) T.b_dict boot_dict_ (ra_cons (re_lst ra_nil) ra_nil)) ra_nil))) (rss_cons (rs_set (i := 4) sc_law.nd rfl (.inl rfl) (re_callR (RunAt.ok O__law_head (hr.mono (by decide))) T.m__law_head T.F__law_head.kp (bd__law_head T) tk_ (ra_cons (rv 2) (ra_cons (re_callR (RunAt.ok O__law_one (hr.mono (by decide))) T.m__law_one T.F__law_one.kp (bd__law_one T) tk_ (ra_cons (rv 2) (ra_cons (re_lst (ra_cons re_str (ra_cons re_str (ra_cons re_str ra_nil)))) ra_nil)) (len_cons (len_cons len_nil))) ra_nil)) (len_cons (len_cons len_nil)))) (rss_cons (rs_asg (rv 4) (rg_tup rfl (rgs_cons (rg_name (i := 5) sc_law.nd rfl (.inl rfl)) (rgs_cons (rg_name (i := 6) sc_law.nd rfl (.inl rfl)) (rgs_cons (rg_name (i := 7) sc_law.nd rfl (.inl rfl)) (rgs_cons (rg_name (i := 8) sc_law.nd rfl (.inl rfl)) rgs_nil)))))) (rss_cons (rs_expr (re_callR (RunAt.ok O__law_threads (hr.mono (by decide))) T.m__law_threads T.F__law_threads.kp (bd__law_threads T) tk_ (ra_cons (rv 2) (ra_cons (rv 4) (ra_cons (rv 3) (ra_cons (re_callR (RunAt.ok O__law_take (hr.mono (by decide))) T.m__law_take T.F__law_take.kp (bd__law_take T) tk_ (ra_cons (rv 2) (ra_cons re_int ra_nil)) (len_cons (len_cons len_nil))) ra_nil)))) (len_cons (len_cons (len_cons (len_cons len_nil)))))) (rss_cons (rs_asg (re_callR (RunAt.ok O__law_places (hr.mono (by decide))) T.m__law_places T.F__law_places.kp (bd__law_places T) tk_ (ra_cons (rv 2) (ra_cons (rv 5) (ra_cons re_int ra_nil))) (len_cons (len_cons (len_cons len_nil)))) (rg_tup rfl (rgs_cons (rg_name (i := 9) sc_law.nd rfl (.inl rfl)) (rgs_cons (rg_name (i := 10) sc_law.nd rfl (.inl rfl)) (rgs_cons (rg_name (i := 11) sc_law.nd rfl (.inl rfl)) rgs_nil))))) (rss_cons (rs_asg (re_callR (RunAt.ok O__law_three_coats (hr.mono (by decide))) T.m__law_three_coats T.F__law_three_coats.kp (bd__law_three_coats T) tk_ (ra_cons (rv 2) (ra_cons (rv 4) ra_nil)) (len_cons (len_cons len_nil))) (rg_tup rfl (rgs_cons (rg_name (i := 12) sc_law.nd rfl (.inl rfl)) (rgs_cons (rg_name (i := 13) sc_law.nd rfl (.inl rfl)) (rgs_cons (rg_name (i := 14) sc_law.nd rfl (.inl rfl)) rgs_nil))))) (rss_cons (rs_par3 (i := 15) (j := 16) (l := 17) rfl sc_law.nd rfl rfl rfl rfl rfl rfl (ra_cons (re_callR (RunAt.ok O__law_length (hr.mono (by decide))) T.m__law_length T.F__law_length.kp (bd__law_length T) tk_ (ra_cons (rv 2) (ra_cons (rv 6) ra_nil)) (len_cons (len_cons len_nil))) (ra_cons (re_callR (RunAt.ok O__law_length (hr.mono (by decide))) T.m__law_length T.F__law_length.kp (bd__law_length T) tk_ (ra_cons (rv 2) (ra_cons (rv 6) ra_nil)) (len_cons (len_cons len_nil))) (ra_cons (re_callR (RunAt.ok O__law_rounds (hr.mono (by decide))) T.m__law_rounds T.F__law_rounds.kp (bd__law_rounds T) tk_ (ra_cons (rv 2) ra_nil) (len_cons len_nil)) ra_nil)))) (rss_cons (rs_set (i := 18) sc_law.nd rfl (.inl rfl) (re_callR (RunAt.ok O__law_rest (hr.mono (by decide))) T.m__law_rest T.F__law_rest.kp (bd__law_rest T) tk_ (ra_cons (re_op o_add (rv 16) (re_callR (RunAt.ok O__law_one (hr.mono (by decide))) T.m__law_one T.F__law_one.kp (bd__law_one T) tk_ (ra_cons (rv 2) (ra_cons (re_lst (ra_cons re_int (ra_cons re_int (ra_cons (re_callR (RunAt.ok O__law_length (hr.mono (by decide))) T.m__law_length T.F__law_length.kp (bd__law_length T) tk_ (ra_cons (rv 2) (ra_cons (rv 6) ra_nil)) (len_cons (len_cons len_nil))) ra_nil)))) ra_nil)) (len_cons (len_cons len_nil)))) (ra_cons (rv 6) ra_nil)) (len_cons (len_cons len_nil)))) (rss_cons (rs_for (passes_of rfl) rfl (ri_seq (re_lst (ra_cons (re_tup (ra_cons (rv 10) (ra_cons (rv 15) (ra_cons (rv 12) ra_nil)))) (ra_cons (re_tup (ra_cons (rv 11) (ra_cons (rv 16) (ra_cons (rv 13) ra_nil)))) (ra_cons (re_tup (ra_cons (rv 11) (ra_cons (rv 18) (ra_cons (rv 14) ra_nil)))) ra_nil))))) (rg_tup rfl (rgs_cons (rg_name (i := 19) sc_law.nd rfl (.inl rfl)) (rgs_cons (rg_name (i := 20) sc_law.nd rfl (.inl rfl)) (rgs_cons (rg_name (i := 21) sc_law.nd rfl (.inl rfl)) rgs_nil)))) (rss_one (rs_expr (re_callR (RunAt.ok O__law_add (hr.mono (by decide))) T.m__law_add T.F__law_add.kp (bd__law_add T) tk_ (ra_cons (rv 3) (ra_cons (re_callR (RunAt.ok O__law_laid (hr.mono (by decide))) T.m__law_laid T.F__law_laid.kp (bd__law_laid T) tk_ (ra_cons (rv 9) (ra_cons (rv 19) (ra_cons (rv 20) (ra_cons (rv 21) (ra_cons (rv 6) ra_nil))))) (len_cons (len_cons (len_cons (len_cons (len_cons len_nil)))))) (ra_cons re_int ra_nil))) (len_cons (len_cons (len_cons len_nil))))))) (rss_cons (rs_set (i := 22) sc_law.nd rfl (.inl rfl) (re_callR (RunAt.ok O__law_lengthened (hr.mono (by decide))) T.m__law_lengthened T.F__law_lengthened.kp (bd__law_lengthened T) tk_ (ra_cons (rv 3) (ra_cons (rv 6) (ra_cons (re_tup (ra_cons (rv 9) (ra_cons (rv 10) (ra_cons (rv 15) (ra_cons (rv 12) ra_nil))))) (ra_cons (re_op o_mul (rv 17) (re_op o_sub (rv 18) (rv 16))) ra_nil)))) (len_cons (len_cons (len_cons (len_cons len_nil)))))) (rss_cons (rs_set (i := 23) sc_law.nd rfl (.inl rfl) (re_callK (ix := [0, 1, 2, 3, 4, 5, 6, 7, 8, 9, 10]) (n1 := 10) (n := 1) (RunAt.ok O_round_deed (hr.mono (by decide))) T.m_round_deed T.F_round_deed.kp tk_ (ra_cons (rv 6) (ra_cons (rv 9) (ra_cons (rv 10) (ra_cons (rv 15) (ra_cons (rv 12) (ra_cons (rv 11) (ra_cons (rv 16) (ra_cons (rv 13) (ra_cons (rv 18) (ra_cons (rv 14) ra_nil)))))))))) (len_cons (len_cons (len_cons (len_cons (len_cons (len_cons (len_cons (len_cons (len_cons (len_cons len_nil)))))))))) (rk_cons (rv 17) rk_nil) (len_cons len_nil) (by decide) rfl (kb_round_deed_10_q T))) (rss_cons (rs_if (rt_cmp (o_ne hr.units) (rv 23) (re_callR (RunAt.ok O__law_deed (hr.mono (by decide))) T.m__law_deed T.F__law_deed.kp (bd__law_deed T) tk_ (ra_cons (rv 6) (ra_cons (rv 9) (ra_cons (rv 10) (ra_cons (re_tup (ra_cons (rv 15) (ra_cons (rv 12) ra_nil))) (ra_cons (re_tup (ra_cons (rv 11) (ra_cons (rv 16) (ra_cons (rv 13) ra_nil)))) (ra_cons (re_tup (ra_cons (rv 11) (ra_cons (rv 18) (ra_cons (rv 14) ra_nil)))) (ra_cons (rv 17) ra_nil))))))) (len_cons (len_cons (len_cons (len_cons (len_cons (len_cons (len_cons len_nil)))))))) (nomark _)) (rss_one (rs_ret re_bl)) rss_nil) (rss_cons (rs_if (rt_not (rt_tru (re_callR (RunAt.ok O__law_right (hr.mono (by decide))) T.m__law_right T.F__law_right.kp (bd__law_right T) tk_ (ra_cons (rv 3) (ra_cons (rv 4) (ra_cons (rv 23) (ra_cons (rv 22) (ra_cons (re_cb c_abs T.b_abs boot_abs_ (ra_cons (rv 17) ra_nil)) ra_nil))))) (len_cons (len_cons (len_cons (len_cons (len_cons len_nil)))))))) (rss_one (rs_ret re_bl)) rss_nil) (rss_cons (rs_set (i := 24) sc_law.nd rfl (.inl rfl) (re_op o_mul (rv 17) (re_op o_pow re_int re_int))) (rss_cons (rs_set (i := 23) sc_law.nd rfl (.inl rfl) (re_callK (ix := [0, 1, 2, 3, 4, 5, 6, 7, 8, 9, 10]) (n1 := 10) (n := 1) (RunAt.ok O_round_deed (hr.mono (by decide))) T.m_round_deed T.F_round_deed.kp tk_ (ra_cons (rv 6) (ra_cons (rv 9) (ra_cons (rv 10) (ra_cons (rv 15) (ra_cons (rv 12) (ra_cons (rv 11) (ra_cons (rv 16) (ra_cons (rv 13) (ra_cons (rv 18) (ra_cons (rv 14) ra_nil)))))))))) (len_cons (len_cons (len_cons (len_cons (len_cons (len_cons (len_cons (len_cons (len_cons (len_cons len_nil)))))))))) (rk_cons (rv 24) rk_nil) (len_cons len_nil) (by decide) rfl (kb_round_deed_10_q T))) (rss_cons (rs_if (rt_cmp (o_ne hr.units) (rv 23) (re_callR (RunAt.ok O__law_deed (hr.mono (by decide))) T.m__law_deed T.F__law_deed.kp (bd__law_deed T) tk_ (ra_cons (rv 6) (ra_cons (rv 9) (ra_cons (rv 10) (ra_cons (re_tup (ra_cons (rv 15) (ra_cons (rv 12) ra_nil))) (ra_cons (re_tup (ra_cons (rv 11) (ra_cons (rv 16) (ra_cons (rv 13) ra_nil)))) (ra_cons (re_tup (ra_cons (rv 11) (ra_cons (rv 18) (ra_cons (rv 14) ra_nil)))) (ra_cons (rv 24) ra_nil))))))) (len_cons (len_cons (len_cons (len_cons (len_cons (len_cons (len_cons len_nil)))))))) (nomark _)) (rss_one (rs_ret re_bl)) rss_nil) (rss_cons (rs_set (i := 25) sc_law.nd rfl (.inl rfl) (re_callR (RunAt.ok O__law_rest (hr.mono (by decide))) T.m__law_rest T.F__law_rest.kp (bd__law_rest T) tk_ (ra_cons (re_op o_add (rv 15) (re_op o_mul (rv 17) (re_op o_sub (rv 18) (rv 16)))) (ra_cons (rv 6) ra_nil)) (len_cons (len_cons len_nil)))) (rss_cons (rs_set (i := 23) sc_law.nd rfl (.inl rfl) (re_callK (ix := [0, 1, 2, 3, 4, 5, 6, 7, 8, 9, 10]) (n1 := 10) (n := 1) (RunAt.ok O_round_deed (hr.mono (by decide))) T.m_round_deed T.F_round_deed.kp tk_ (ra_cons (rv 6) (ra_cons (rv 9) (ra_cons (rv 10) (ra_cons (rv 25) (ra_cons (rv 12) (ra_cons (rv 11) (ra_cons (rv 16) (ra_cons (rv 13) (ra_cons (rv 18) (ra_cons (rv 14) ra_nil)))))))))) (len_cons (len_cons (len_cons (len_cons (len_cons (len_cons (len_cons (len_cons (len_cons (len_cons len_nil)))))))))) (rk_cons (re_un o_neg (rv 17)) rk_nil) (len_cons len_nil) (by decide) rfl (kb_round_deed_10_q T))) (rss_cons (rs_if (rt_not (rt_tru (re_callR (RunAt.ok O__law_right (hr.mono (by decide))) T.m__law_right T.F__law_right.kp (bd__law_right T) tk_ (ra_cons (rv 22) (ra_cons (rv 4) (ra_cons (rv 23) (ra_cons (rv 3) (ra_cons (re_cb c_abs T.b_abs boot_abs_ (ra_cons (rv 17) ra_nil)) ra_nil))))) (len_cons (len_cons (len_cons (len_cons (len_cons len_nil)))))))) (rss_one (rs_ret re_bl)) rss_nil) (rss_cons (rs_set (i := 22) sc_law.nd rfl (.inl rfl) (re_callR (RunAt.ok O__law_lengthened (hr.mono (by decide))) T.m__law_lengthened T.F__law_lengthened.kp (bd__law_lengthened T) tk_ (ra_cons (rv 3) (ra_cons (rv 6) (ra_cons (re_tup (ra_cons (rv 9) (ra_cons (rv 10) (ra_cons (rv 15) (ra_cons (rv 12) ra_nil))))) (ra_cons (re_op o_sub (rv 18) (rv 16)) ra_nil)))) (len_cons (len_cons (len_cons (len_cons len_nil)))))) (rss_cons (rs_if (rt_not (rt_tru (re_callR (RunAt.ok O__law_right (hr.mono (by decide))) T.m__law_right T.F__law_right.kp (bd__law_right T) tk_ (ra_cons (rv 3) (ra_cons (rv 4) (ra_cons (re_callRD (dl := [D.int 1]) (dv := [V.int 1]) (n := 10) (RunAt.ok O_round_deed (hr.mono (by decide))) T.m_round_deed T.F_round_deed.kp (kd_round_deed T) (rep_i1 1 _) tk_ (ra_cons (rv 6) (ra_cons (rv 9) (ra_cons (rv 10) (ra_cons (rv 15) (ra_cons (rv 12) (ra_cons (rv 11) (ra_cons (rv 16) (ra_cons (rv 13) (ra_cons (rv 18) (ra_cons (rv 14) ra_nil)))))))))) (len_cons (len_cons (len_cons (len_cons (len_cons (len_cons (len_cons (len_cons (len_cons (len_cons len_nil)))))))))) rfl) (ra_cons (rv 22) (ra_cons re_int ra_nil))))) (len_cons (len_cons (len_cons (len_cons (len_cons len_nil)))))))) (rss_one (rs_ret re_bl)) rss_nil) (rss_one (rs_if (rt_not (rt_tru (re_callR (RunAt.ok O__law_none_refused (hr.mono (by decide))) T.m__law_none_refused T.F__law_none_refused.kp (bd__law_none_refused T) tk_ (ra_cons (rv 6) (ra_cons (rv 9) (ra_cons (rv 10) (ra_cons (rv 11) (ra_cons (rv 15) ra_nil))))) (len_cons (len_cons (len_cons (len_cons (len_cons len_nil)))))))) (rss_one (rs_ret re_bl)) rss_nil)))))))))))))))))))))))) (rss_one (rs_ret re_bl)))
end
end Wk
namespace Wk
open PySem PySem.Spec PyProof.Rows L2 SKX SK LamX
/-! ### the law's own drawing -/
/-- a source of draws stands at n -/
def SrcAt (n : Nat) (oh : OH) : Prop := ∃ a m : Int, oh[n]? = some (.lst [.int a, .int m]) ∧ 0 ≤ a ∧ 0 ≤ m ∧ m < 2147483647
/-- another heap that differs at the source alone -/
def Src2 (n : Nat) (oh oh' : OH) : Prop := ∃ c, oh' = oh.set n c
theorem take_ok {oh : OH} {n : Nat} {top : Int} (h : SrcAt n oh) (ht : 0 < top) (ht2 : top < 2 ^ 64) : ∃ d oh', f__law_take [.ref n, .int top] oh = .ok (.int d) oh' ∧ 0 ≤ d ∧ d < top ∧ SrcAt n oh' ∧ Src2 n oh oh' := by
  obtain ⟨a, m, hn, ha, hm, hm2⟩ := h
  have i0 : ∀ s, itemsOf (oh.set n (.lst s)) (.ref n) = some s := fun s => z_itl (get_set hn)
  have il := z_itl hn
  by_cases hp : 0 < a
  · refine ⟨a % top, oh.set n (.lst [.int (a / top), .int m]), ?_, Int.emod_nonneg _ (by omega), Int.emod_lt_of_pos _ ht, ⟨a / top, m, get_set hn, Int.ediv_nonneg ha (by omega), hm, hm2⟩, _, rfl⟩
    simp [f__law_take, m__law_take, z_ixd il (i := 0) (by omega) rfl, hp, z_mod ht, z_div ht ht2, z_seti (i := 0) hn (by omega) (by simp)]
  · have e1 := z_ixd (i := 1) il (by omega) rfl
    have hb : 0 ≤ (m * 39373 + 7) % 2147483647 ∧ (m * 39373 + 7) % 2147483647 < 2147483647 := ⟨Int.emod_nonneg _ (by omega), Int.emod_lt_of_pos _ (by omega)⟩
    generalize hM : (m * 39373 + 7) % 2147483647 = M at hb
    refine ⟨(M * M % 2147483629 / 32) % top, oh.set n (.lst [.int a, .int M]), ?_, Int.emod_nonneg _ (by omega), Int.emod_lt_of_pos _ ht, ⟨a, M, get_set hn, ha, hb.1, hb.2⟩, _, rfl⟩
    simp [f__law_take, m__law_take, z_ixd il (i := 0) (by omega) rfl, hp, e1, z_mulr (i := m) (j := 39373) (by omega) (by omega), z_mod (j := 2147483647) (by omega), hM, z_seti (i := 1) hn (by omega) (by simp), z_ixd (i0 [.int a, .int M]) (i := 1) (by omega) rfl,
      z_mulr (i := M) (j := M) (by omega) (by omega), z_mod (j := 2147483629) (by omega), z_div (j := 32) (by omega) (by omega), z_mod ht]
theorem pool_ok {ns : List Int} {t : OH} {k : Int} (h0 : 0 ≤ k) (h1 : k < 100) : ∃ a m : Int, f__law_pool [.ref 0, .int k] (.ro (ns.map D.int) :: t) = .ok (.ref (t.length + 1)) ((.ro (ns.map D.int) :: t) ++ [.lst [.int a, .int m]]) ∧ 0 ≤ a ∧ 0 ≤ m ∧ m < 2147483647 := by
  have il : itemsOf (.ro (ns.map D.int) :: t) (.ref 0) = some (ns.map D.int) := z_itr rfl
  have key : ∃ cell : Int, (sSeq (sSet 2 (eC (.int 0))) (sIf (tB1 (e2 (pLt) (eVar 1) (eCB bLen (aCons (eVar 0) aNil)))) (sSet 2 (e2 pIx (eVar 0) (eVar 1))) (sIf (tTru (eVar 0)) (sSet 2 (e2 pIx (eVar 0) (eC (.int 0)))) sSkip))) [some (.ref 0), some (.int k), none, none, none] (.ro (ns.map D.int) :: t) = .nx [some (.ref 0), some (.int k), some (.int cell), none, none] (.ro (ns.map D.int) :: t) := by
    by_cases hk : k < ns.length
    · obtain ⟨d, hd, e⟩ := z_ix (i := k) il h0 (by simpa using hk)
      rw [List.getElem?_map] at hd
      cases hg : ns[k.toNat]? with
      | none => rw [hg] at hd; cases hd
      | some v =>
        rw [hg] at hd
        cases hd
        exact ⟨v, by simp [z_len il, hk, e]⟩
    · cases ns with
      | nil =>
        have il : itemsOf (.ro [] :: t) (.ref 0) = some [] := z_itr rfl
        have hk : ¬ k < 0 := by omega
        exact ⟨0, by simp [z_len il, hk, truD]⟩
      | cons v r =>
        refine ⟨v, ?_⟩
        have e := z_ixd (i := 0) il (by omega) rfl
        simp only [List.map_cons] at il e ⊢
        have hk : ¬ k < (r.length : Int) + 1 := by simpa using hk
        simp [z_len il, hk, truD, e]
  obtain ⟨cell, hc⟩ := key
  generalize hB : (if -1 - cell > cell then -1 - cell else cell) = B
  have hB0 : 0 ≤ B := by subst hB; split <;> omega
  refine ⟨B * (if (10 ^ 18 : Int) ≤ B then 1 else 0), ((B % 2147483629 + 7919 * k * k + 31 * k + 17) * 48271) % 2147483647, ?_, ?_, Int.emod_nonneg _ (by omega), Int.emod_lt_of_pos _ (by omega)⟩
  · have hbnd : -(2 ^ 64) < (7919 * k : Int) ∧ (7919 * k : Int) < 2 ^ 64 := by omega
    have hbnd2 : -(2 ^ 64) < (31 : Int) ∧ (31 : Int) < 2 ^ 64 := by omega
    have e : ∀ (a b c : SM) s oh, (sSeq a (sSeq b c)) s oh = (sSeq (sSeq a b) c) s oh := fun a b c s oh => by
      simp only [z_seq]
      cases a s oh <;> rfl
    have hp : pPow (.int 10) (.int 18) (.ro (ns.map D.int) :: t) = some (.int (10 ^ 18), .ro (ns.map D.int) :: t) := rfl
    unfold f__law_pool m__law_pool
    rw [z_fn, e, z_seq]
    simp only [List.map_cons, List.map_nil, List.length_cons, List.length_nil, List.replicate, List.cons_append, List.nil_append, Nat.zero_add, Nat.reduceAdd, Nat.reduceSub, hc]
    have hq : pMul (.int B) (.int (if (10 ^ 18 : Int) ≤ B then 1 else 0)) (.ro (ns.map D.int) :: t) = some (.int (B * (if (10 ^ 18 : Int) ≤ B then 1 else 0)), .ro (ns.map D.int) :: t) := z_mulr (by split <;> omega) (by split <;> omega)
    simp only [Int.reducePow] at hq hp
    simp [hB, z_mod (j := 2147483629) (by omega), z_mull (i := 7919) (by omega) (by omega), z_mull hbnd.1 hbnd.2, z_mull (i := 31) (by omega) (by omega), z_mulr (j := 48271) (by omega) (by omega), z_mod (j := 2147483647) (by omega), hp, hq, sizeLine]
  · split <;> omega
theorem pool_src {ns : List Int} {t : OH} {k : Int} (h0 : 0 ≤ k) (h1 : k < 100) : ∃ oh', f__law_pool [.ref 0, .int k] (.ro (ns.map D.int) :: t) = .ok (.ref (t.length + 1)) (.ro (ns.map D.int) :: t ++ [oh']) ∧ SrcAt (t.length + 1) (.ro (ns.map D.int) :: t ++ [oh']) := by
  obtain ⟨a, m, h, h2, h3, h4⟩ := pool_ok (ns := ns) (t := t) h0 h1
  exact ⟨_, h, a, m, by simp, h2, h3, h4⟩
theorem one_ok {oh : OH} {n : Nat} {d : D} {l : List D} (h : SrcAt n oh) (hd : ∀ c, itemsOf (oh.set n c) d = some l) (hz : itemsOf oh d = some l) (hl : 0 < l.length) (hl2 : l.length < 2 ^ 62) : ∃ x oh', f__law_one [.ref n, d] oh = .ok x oh' ∧ x ∈ l ∧ SrcAt n oh' ∧ Src2 n oh oh' := by
  obtain ⟨v, oh', e, h0, h1, hs, c, rfl⟩ := take_ok (top := (l.length : Int)) h (by omega) (by omega)
  obtain ⟨x, hx, e2⟩ := z_ix (hd c) h0 h1
  refine ⟨x, _, ?_, List.mem_of_getElem? hx, hs, c, rfl⟩
  simp [f__law_one, m__law_one, z_len hz, e, e2]
end Wk
namespace Wk
open PySem PySem.Spec PyProof.Rows L2 SKX SK LamX TZ
theorem sz0 : (0 ≤ sizeLine) = True := eq_true (size_le (by decide))
theorem sz1 : (1 ≤ sizeLine) = True := eq_true (size_le (by decide))
theorem sz2 : (2 ≤ sizeLine) = True := eq_true (size_le (by decide))
theorem sz3 : (3 ≤ sizeLine) = True := eq_true (size_le (by decide))
theorem sz4 : (4 ≤ sizeLine) = True := eq_true (size_le (by decide))
theorem sz5 : (5 ≤ sizeLine) = True := eq_true (size_le (by decide))
theorem sz6 : (6 ≤ sizeLine) = True := eq_true (size_le (by decide))
theorem sz9 : (9 ≤ sizeLine) = True := eq_true (size_le (by decide))
theorem sz10 : (10 ≤ sizeLine) = True := eq_true (size_le (by decide))
theorem sz12 : (12 ≤ sizeLine) = True := eq_true (size_le (by decide))
theorem z_isBv {T : String} {m : Ev → M D} {s : Ev} {oh : OH} : eIsB T m s oh = (m s oh).bnd fun d oh => match isD oh T d with | some b => .ok (.bl b) oh | none => .bad := nrfl
theorem is_tup (oh : OH) (l : List D) : isD oh "tuple" (.tup l) = some true := by
  show kitB "tuple" "tuple" = some true
  decide +kernel
theorem z_dec {i : Prop} [Decidable i] (h : i) : decide i = true := decide_eq_true h
/-- a def ends -/
theorem fn_ret {n : Nat} {body : SM} {ds : List D} {s : Ev} {oh oh2 : OH} {d : D} (hs : ds.map some ++ List.replicate (n - ds.length) none = s) (h : body s oh = .rt d oh2) : mkFn n body ds oh = .ok d oh2 := by
  subst hs
  rw [z_fn, h]
theorem fn_nx {n : Nat} {body : SM} {ds : List D} {s s2 : Ev} {oh oh2 : OH} (hs : ds.map some ++ List.replicate (n - ds.length) none = s) (h : body s oh = .nx s2 oh2) : mkFn n body ds oh = .ok .non oh2 := by
  subst hs
  rw [z_fn, h]
/-! ### rests, threads, counts -/
theorem rest_ok {x w : Int} (hw : 0 ≤ w) (oh : OH) : f__law_rest [.int x, .int w] oh = .ok (.int (x % w)) oh := by
  refine fn_ret (s := [some (.int x), some (.int w)]) rfl ?_
  unfold m__law_rest
  by_cases h : w = 0
  · subst h
    simp only [z_seq, z_set, z_if, z_asg, z_par, z_expr, z_ret, z_retn, z_skip, z_nx, z_rt, z_sok, z_bok, z_tb, z_tru, z_and, z_or, z_not, z_eif, z_e1, z_e2, z_lf, z_var, z_c, z_ch, z_sub, z_lt, z_le, z_gt, z_ge, z_add, z_neg, z_eqi, z_nei, z_eqs, z_nes, z_nil, z_cons, z_notv, z_tup, z_lst, z_cb, z_int, z_intb, z_max, z_min, z_abs, z_itt, z_call, z_gn, z_gnil, z_gcons, z_gtt, z_gttt, z_gsub, z_gsubd, z_ival, z_yes, z_onone, z_osome, z_sl, z_k0, List.getElem?_cons_succ, List.getElem?_cons_zero, List.set_cons_succ, List.set_cons_zero, eq_self, if_true, Bool.false_eq_true, if_false, List.length_cons, List.length_nil, Nat.zero_add, Nat.reduceAdd, Nat.reduceSub, List.map_cons, List.map_nil, List.cons_append, List.nil_append, Option.map_some, Bool.not_true, Bool.not_false, sz0, sz1, sz2, sz3, sz4, sz5, sz6, sz9, sz10, sz12, decide_true, Int.emod_zero]
  · simp only [z_seq, z_set, z_if, z_asg, z_par, z_expr, z_ret, z_retn, z_skip, z_nx, z_rt, z_sok, z_bok, z_tb, z_tru, z_and, z_or, z_not, z_eif, z_e1, z_e2, z_lf, z_var, z_c, z_ch, z_sub, z_lt, z_le, z_gt, z_ge, z_add, z_neg, z_eqi, z_nei, z_eqs, z_nes, z_nil, z_cons, z_notv, z_tup, z_lst, z_cb, z_int, z_intb, z_max, z_min, z_abs, z_itt, z_call, z_gn, z_gnil, z_gcons, z_gtt, z_gttt, z_gsub, z_gsubd, z_ival, z_yes, z_onone, z_osome, z_sl, z_k0, List.getElem?_cons_succ, List.getElem?_cons_zero, List.set_cons_succ, List.set_cons_zero, eq_self, if_true, Bool.false_eq_true, if_false, List.length_cons, List.length_nil, Nat.zero_add, Nat.reduceAdd, Nat.reduceSub, List.map_cons, List.map_nil, List.cons_append, List.nil_append, Option.map_some, Bool.not_true, Bool.not_false, sz0, sz1, sz2, sz3, sz4, sz5, sz6, sz9, sz10, sz12, decide_eq_false h, z_mod (show 0 < w by omega)]
def laidZ (u v l c w : Int) : List Int := if u < v then [u, v, l % w, c] else [v, u, (-l) % w, c]
theorem laid_len (u v l c w : Int) : (laidZ u v l c w).length = 4 := by
  unfold laidZ
  split <;> rfl
theorem laid_ok {u v l c w : Int} (hw : 0 ≤ w) (oh : OH) : f__law_laid [.int u, .int v, .int l, .int c, .int w] oh = .ok (tupI (laidZ u v l c w)) oh := by
  refine fn_ret (s := [some (.int u), some (.int v), some (.int l), some (.int c), some (.int w)]) rfl ?_
  unfold m__law_laid laidZ
  by_cases h : u < v
  · simp only [z_seq, z_set, z_if, z_asg, z_par, z_expr, z_ret, z_retn, z_skip, z_nx, z_rt, z_sok, z_bok, z_tb, z_tru, z_and, z_or, z_not, z_eif, z_e1, z_e2, z_lf, z_var, z_c, z_ch, z_sub, z_lt, z_le, z_gt, z_ge, z_add, z_neg, z_eqi, z_nei, z_eqs, z_nes, z_nil, z_cons, z_notv, z_tup, z_lst, z_cb, z_int, z_intb, z_max, z_min, z_abs, z_itt, z_call, z_gn, z_gnil, z_gcons, z_gtt, z_gttt, z_gsub, z_gsubd, z_ival, z_yes, z_onone, z_osome, z_sl, z_k0, List.getElem?_cons_succ, List.getElem?_cons_zero, List.set_cons_succ, List.set_cons_zero, eq_self, if_true, Bool.false_eq_true, if_false, List.length_cons, List.length_nil, Nat.zero_add, Nat.reduceAdd, Nat.reduceSub, List.map_cons, List.map_nil, List.cons_append, List.nil_append, Option.map_some, Bool.not_true, Bool.not_false, sz0, sz1, sz2, sz3, sz4, sz5, sz6, sz9, sz10, sz12, decide_eq_true h, rest_ok hw, if_pos h]
    rfl
  · simp only [z_seq, z_set, z_if, z_asg, z_par, z_expr, z_ret, z_retn, z_skip, z_nx, z_rt, z_sok, z_bok, z_tb, z_tru, z_and, z_or, z_not, z_eif, z_e1, z_e2, z_lf, z_var, z_c, z_ch, z_sub, z_lt, z_le, z_gt, z_ge, z_add, z_neg, z_eqi, z_nei, z_eqs, z_nes, z_nil, z_cons, z_notv, z_tup, z_lst, z_cb, z_int, z_intb, z_max, z_min, z_abs, z_itt, z_call, z_gn, z_gnil, z_gcons, z_gtt, z_gttt, z_gsub, z_gsubd, z_ival, z_yes, z_onone, z_osome, z_sl, z_k0, List.getElem?_cons_succ, List.getElem?_cons_zero, List.set_cons_succ, List.set_cons_zero, eq_self, if_true, Bool.false_eq_true, if_false, List.length_cons, List.length_nil, Nat.zero_add, Nat.reduceAdd, Nat.reduceSub, List.map_cons, List.map_nil, List.cons_append, List.nil_append, Option.map_some, Bool.not_true, Bool.not_false, sz0, sz1, sz2, sz3, sz4, sz5, sz6, sz9, sz10, sz12, decide_eq_false h, rest_ok hw, if_neg h]
    rfl
theorem add_ok {oh : OH} {m : Nat} {M : CM} {k : List Int} {c : Int} (h : oh[m]? = some (cD M)) (n : NdM M) (hl : M.length ≤ 2 ^ 20) : f__law_add [.ref m, tupI k, .int c] oh = .ok .non (oh.set m (cD (cadd M k c))) := by
  refine fn_nx (s := [some (.ref m), some (tupI k), some (.int c)]) (s2 := [some (.ref m), some (tupI k), some (.int c)]) rfl ?_
  have hg := z_dget0 (s := [some (.ref m), some (tupI k), some (.int c)]) (mo := eVar 0) (mk := eVar 1) rfl h rfl h
  unfold m__law_add
  simp only [z_seq, z_set, z_if, z_asg, z_par, z_expr, z_ret, z_retn, z_skip, z_nx, z_rt, z_sok, z_bok, z_tb, z_tru, z_and, z_or, z_not, z_eif, z_e1, z_e2, z_lf, z_var, z_c, z_ch, z_sub, z_lt, z_le, z_gt, z_ge, z_add, z_neg, z_eqi, z_nei, z_eqs, z_nes, z_nil, z_cons, z_notv, z_tup, z_lst, z_cb, z_int, z_intb, z_max, z_min, z_abs, z_itt, z_call, z_gn, z_gnil, z_gcons, z_gtt, z_gttt, z_gsub, z_gsubd, z_ival, z_yes, z_onone, z_osome, z_sl, z_k0, List.getElem?_cons_succ, List.getElem?_cons_zero, List.set_cons_succ, List.set_cons_zero, eq_self, if_true, Bool.false_eq_true, if_false, List.length_cons, List.length_nil, Nat.zero_add, Nat.reduceAdd, Nat.reduceSub, List.map_cons, List.map_nil, List.cons_append, List.nil_append, Option.map_some, Bool.not_true, Bool.not_false, sz0, sz1, sz2, sz3, sz4, sz5, sz6, sz9, sz10, sz12, hg, z_setd h n (size_lt hl)]
  rfl
theorem told_f {oh : OH} {m : Nat} {M : CM} (h : oh[m]? = some (cD M)) (ok : OkM M 63) : ∃ oh', f__law_told [.ref m] oh = .ok (.tup (toldL M)) oh' ∧ Fr [] oh oh' := by
  obtain ⟨oh', e, f⟩ := told_ok h ok
  refine ⟨oh', fn_ret (s := [some (.ref m), none]) rfl ?_, f⟩
  unfold m__law_told
  rw [z_ret, e, z_sok]
/-! ### the sources -/
def GN (ns : List Int) (n : Nat) (oh : OH) : Prop := oh[0]? = some (.ro (ns.map D.int)) ∧ SrcAt n oh ∧ 0 < n
theorem GN.fr {ns : List Int} {n : Nat} {S : List Nat} {a b : OH} (u : Fr S a b) (h0 : 0 ∉ S) (hn : n ∉ S) (h : GN ns n a) : GN ns n b := by
  obtain ⟨h1, ⟨x, m, h2, h3⟩, h4⟩ := h
  exact ⟨u.at h0 h1, ⟨x, m, u.at hn h2, h3⟩, h4⟩
theorem GN.lt {ns : List Int} {n : Nat} {a : OH} (h : GN ns n a) : n < a.length := by
  obtain ⟨h1, ⟨x, m, h2, h3⟩, h4⟩ := h
  exact lt_of_get h2
theorem GN.src {ns : List Int} {n : Nat} {a b : OH} (h : GN ns n a) (h2 : SrcAt n b) (h3 : Src2 n a b) : GN ns n b := by
  obtain ⟨c, rfl⟩ := h3
  exact ⟨by rw [List.getElem?_set_ne (by have := h.2.2; omega)]; exact h.1, h2, h.2.2⟩
theorem src_fr {n : Nat} {a b : OH} (h3 : Src2 n a b) : Fr [n] a b := by
  obtain ⟨c, rfl⟩ := h3
  exact Fr.set List.mem_cons_self
theorem take_n {ns : List Int} {n : Nat} {oh : OH} {top : Int} (h : GN ns n oh) (ht : 0 < top) (ht2 : top < 2 ^ 64) : ∃ d oh', f__law_take [.ref n, .int top] oh = .ok (.int d) oh' ∧ 0 ≤ d ∧ d < top ∧ GN ns n oh' ∧ Fr [n] oh oh' := by
  obtain ⟨d, o, e, h1, h2, g, s⟩ := take_ok h.2.1 ht ht2
  exact ⟨d, o, e, h1, h2, h.src g s, src_fr s⟩
theorem one_l {ns : List Int} {n : Nat} {oh : OH} {l : List D} (h : GN ns n oh) (hl : 0 < l.length) (hl2 : l.length < 2 ^ 62) : ∃ x oh', f__law_one [.ref n, .ref oh.length] (oh ++ [.lst l]) = .ok x oh' ∧ x ∈ l ∧ GN ns n oh' ∧ Fr [n] oh oh' := by
  have hn : n ≠ oh.length := by have := h.lt; omega
  have h' : GN ns n (oh ++ [.lst l]) := h.fr (Fr.app [] _ _) (by simp) (by simp)
  obtain ⟨x, o, e, hx, g, s⟩ := one_ok (oh := oh ++ [.lst l]) (n := n) (d := .ref oh.length) (l := l) h'.2.1 (fun c => z_itl (by rw [List.getElem?_set_ne hn]; exact get_new _ _)) (z_itl (get_new _ _)) hl hl2
  exact ⟨x, o, e, hx, h'.src g s, (Fr.app [n] _ _).trans (src_fr s)⟩
theorem pool_n {ns : List Int} {o : OH} {k : Int} (h : o[0]? = some (.ro (ns.map D.int))) (h0 : 0 ≤ k) (h1 : k < 100) : ∃ sc, f__law_pool [.ref 0, .int k] o = .ok (.ref o.length) (o ++ [sc]) ∧ GN ns o.length (o ++ [sc]) := by
  cases o with
  | nil => cases h
  | cons c t =>
    have h : c = .ro (ns.map D.int) := Option.some.inj h
    subst h
    obtain ⟨sc, e, g⟩ := pool_src (ns := ns) (t := t) h0 h1
    exact ⟨sc, e, rfl, g, Nat.succ_pos _⟩
/-- a length by a wheel -/
def LenZ (w z : Int) : Prop := (0 < w → 0 ≤ z ∧ z < w) ∧ -1000000000000 ≤ z ∧ z ≤ 1000000000000
theorem length_f {ns : List Int} {n : Nat} {oh : OH} {w : Int} (h : GN ns n oh) (hw : 0 ≤ w) (hw2 : w ≤ 1000) : ∃ z oh', f__law_length [.ref n, .int w] oh = .ok (.int z) oh' ∧ LenZ w z ∧ GN ns n oh' ∧ Fr [n] oh oh' := by
  by_cases h0 : 0 < w
  · obtain ⟨d, o, e, d0, d1, g, f⟩ := take_n (top := w) h h0 (by omega)
    refine ⟨d, o, fn_ret (s := [some (.ref n), some (.int w)]) rfl ?_, ⟨fun _ => ⟨d0, d1⟩, by omega, by omega⟩, g, f⟩
    unfold m__law_length
    simp only [z_seq, z_set, z_if, z_asg, z_par, z_expr, z_ret, z_retn, z_skip, z_nx, z_rt, z_sok, z_bok, z_tb, z_tru, z_and, z_or, z_not, z_eif, z_e1, z_e2, z_lf, z_var, z_c, z_ch, z_sub, z_lt, z_le, z_gt, z_ge, z_add, z_neg, z_eqi, z_nei, z_eqs, z_nes, z_nil, z_cons, z_notv, z_tup, z_lst, z_cb, z_int, z_intb, z_max, z_min, z_abs, z_itt, z_call, z_gn, z_gnil, z_gcons, z_gtt, z_gttt, z_gsub, z_gsubd, z_ival, z_yes, z_onone, z_osome, z_sl, z_k0, List.getElem?_cons_succ, List.getElem?_cons_zero, List.set_cons_succ, List.set_cons_zero, eq_self, if_true, Bool.false_eq_true, if_false, List.length_cons, List.length_nil, Nat.zero_add, Nat.reduceAdd, Nat.reduceSub, List.map_cons, List.map_nil, List.cons_append, List.nil_append, Option.map_some, Bool.not_true, Bool.not_false, sz0, sz1, sz2, sz3, sz4, sz5, sz6, sz9, sz10, sz12, decide_eq_true h0, e]
  · obtain ⟨d, o, e, d0, d1, g, f⟩ := take_n (top := 8) h (by omega) (by omega)
    by_cases hd : d = 0
    · subst hd
      obtain ⟨x, o2, e2', hx, g2, f2⟩ := one_l (l := [.int 1, .int (-1)]) g (by simp) (by simp)
      obtain ⟨d3, o3, e3, d30, d31, g3, f3⟩ := take_n (top := 1000) g2 (by omega) (by omega)
      have hp : pPow (.int 10) (.int 11) o2 = some (.int (10 ^ 11), o2) := rfl
      simp only [List.mem_cons, List.not_mem_nil, or_false] at hx
      have : ∃ z : Int, pMul x (.int (10 ^ 11 - d3)) o3 = some (.int z, o3) ∧ -1000000000000 ≤ z ∧ z ≤ 1000000000000 := by
        rcases hx with rfl | rfl
        · exact ⟨_, z_mull (by omega) (by omega), by omega, by omega⟩
        · exact ⟨_, z_mull (by omega) (by omega), by omega, by omega⟩
      obtain ⟨z, ez, z0, z1⟩ := this
      refine ⟨z, o3, fn_ret (s := [some (.ref n), some (.int w)]) rfl ?_, ⟨fun q => absurd q h0, z0, z1⟩, g3, f.trans (f2.trans f3)⟩
      unfold m__law_length
      simp only [z_seq, z_set, z_if, z_asg, z_par, z_expr, z_ret, z_retn, z_skip, z_nx, z_rt, z_sok, z_bok, z_tb, z_tru, z_and, z_or, z_not, z_eif, z_e1, z_e2, z_lf, z_var, z_c, z_ch, z_sub, z_lt, z_le, z_gt, z_ge, z_add, z_neg, z_eqi, z_nei, z_eqs, z_nes, z_nil, z_cons, z_notv, z_tup, z_lst, z_cb, z_int, z_intb, z_max, z_min, z_abs, z_itt, z_call, z_gn, z_gnil, z_gcons, z_gtt, z_gttt, z_gsub, z_gsubd, z_ival, z_yes, z_onone, z_osome, z_sl, z_k0, List.getElem?_cons_succ, List.getElem?_cons_zero, List.set_cons_succ, List.set_cons_zero, eq_self, if_true, Bool.false_eq_true, if_false, List.length_cons, List.length_nil, Nat.zero_add, Nat.reduceAdd, Nat.reduceSub, List.map_cons, List.map_nil, List.cons_append, List.nil_append, Option.map_some, Bool.not_true, Bool.not_false, sz0, sz1, sz2, sz3, sz4, sz5, sz6, sz9, sz10, sz12, decide_eq_false h0, e, decide_true, e2', hp, e3, ez]
    · obtain ⟨d3, o3, e3, d30, d31, g3, f3⟩ := take_n (top := 13) g (by omega) (by omega)
      refine ⟨d3 - 6, o3, fn_ret (s := [some (.ref n), some (.int w)]) rfl ?_, ⟨fun q => absurd q h0, by omega, by omega⟩, g3, f.trans f3⟩
      unfold m__law_length
      simp only [z_seq, z_set, z_if, z_asg, z_par, z_expr, z_ret, z_retn, z_skip, z_nx, z_rt, z_sok, z_bok, z_tb, z_tru, z_and, z_or, z_not, z_eif, z_e1, z_e2, z_lf, z_var, z_c, z_ch, z_sub, z_lt, z_le, z_gt, z_ge, z_add, z_neg, z_eqi, z_nei, z_eqs, z_nes, z_nil, z_cons, z_notv, z_tup, z_lst, z_cb, z_int, z_intb, z_max, z_min, z_abs, z_itt, z_call, z_gn, z_gnil, z_gcons, z_gtt, z_gttt, z_gsub, z_gsubd, z_ival, z_yes, z_onone, z_osome, z_sl, z_k0, List.getElem?_cons_succ, List.getElem?_cons_zero, List.set_cons_succ, List.set_cons_zero, eq_self, if_true, Bool.false_eq_true, if_false, List.length_cons, List.length_nil, Nat.zero_add, Nat.reduceAdd, Nat.reduceSub, List.map_cons, List.map_nil, List.cons_append, List.nil_append, Option.map_some, Bool.not_true, Bool.not_false, sz0, sz1, sz2, sz3, sz4, sz5, sz6, sz9, sz10, sz12, decide_eq_false h0, e, decide_eq_false hd, e3]
/-- the head of a web: places, wheel, coats, rule -/
structure Hd (N W C : Int) (rule : Str) : Prop where
  n3 : 3 ≤ N
  n5 : N ≤ 5
  w0 : 0 ≤ W
  w12 : W ≤ 12
  c1 : 1 ≤ C
  c4 : C ≤ 4
  oth : rule = "others" → 2 ≤ C
def hdD (N W C : Int) (rule : Str) : D := .tup [.int N, .int W, .int C, .str rule]
theorem head_f {ns : List Int} {n : Nat} {oh : OH} {rule : Str} (h : GN ns n oh) : ∃ N W C oh', f__law_head [.ref n, .str rule] oh = .ok (hdD N W C rule) oh' ∧ Hd N W C rule ∧ GN ns n oh' ∧ Fr [n] oh oh' := by
  obtain ⟨x1, o1, q1, m1, g1, f1⟩ := one_l (l := [.int 3, .int 3, .int 3, .int 4, .int 4, .int 5]) h (by simp) (by simp)
  obtain ⟨d, o2, q2, d0, d1, g2, f2⟩ := take_n (top := 13) g1 (by omega) (by omega)
  obtain ⟨x3, o3, q3, m3, g3, f3⟩ := one_l (l := [.int 0, .int 1, .int 2, .int 3, .int 4, .int 5, .int 6, .int 8, .int 12, .int d]) g2 (by simp) (by simp)
  obtain ⟨x4, o4, q4, m4, g4, f4⟩ := one_l (l := [.int 1, .int 2, .int 2, .int 3, .int 4]) g3 (by simp) (by simp)
  have hN : ∃ N : Int, x1 = .int N ∧ 3 ≤ N ∧ N ≤ 5 := by
    simp only [List.mem_cons, List.not_mem_nil, or_false] at m1
    rcases m1 with rfl | rfl | rfl | rfl | rfl | rfl <;> exact ⟨_, rfl, by omega, by omega⟩
  have hW : ∃ W : Int, x3 = .int W ∧ 0 ≤ W ∧ W ≤ 12 := by
    simp only [List.mem_cons, List.not_mem_nil, or_false] at m3
    rcases m3 with rfl | rfl | rfl | rfl | rfl | rfl | rfl | rfl | rfl | rfl <;> exact ⟨_, rfl, by omega, by omega⟩
  have hC : ∃ C : Int, x4 = .int C ∧ 1 ≤ C ∧ C ≤ 4 := by
    simp only [List.mem_cons, List.not_mem_nil, or_false] at m4
    rcases m4 with rfl | rfl | rfl | rfl | rfl <;> exact ⟨_, rfl, by omega, by omega⟩
  obtain ⟨N, rfl, N3, N5⟩ := hN
  obtain ⟨W, rfl, W0, W12⟩ := hW
  obtain ⟨C, rfl, C1, C4⟩ := hC
  refine ⟨N, W, if (1 + if decide (rule = "others") then 1 else 0 : Int) > C then (1 + if decide (rule = "others") then 1 else 0) else C, o4, fn_ret (s := [some (.ref n), some (.str rule), none, none]) rfl ?_, ⟨N3, N5, W0, W12, ?_, ?_, fun hr => ?_⟩, g4, f1.trans (f2.trans (f3.trans f4))⟩
  · unfold m__law_head hdD
    simp only [z_seq, z_set, z_if, z_asg, z_par, z_expr, z_ret, z_retn, z_skip, z_nx, z_rt, z_sok, z_bok, z_tb, z_tru, z_and, z_or, z_not, z_eif, z_e1, z_e2, z_lf, z_var, z_c, z_ch, z_sub, z_lt, z_le, z_gt, z_ge, z_add, z_neg, z_eqi, z_nei, z_eqs, z_nes, z_nil, z_cons, z_notv, z_tup, z_lst, z_cb, z_int, z_intb, z_max, z_min, z_abs, z_itt, z_call, z_gn, z_gnil, z_gcons, z_gtt, z_gttt, z_gsub, z_gsubd, z_ival, z_yes, z_onone, z_osome, z_sl, z_k0, List.getElem?_cons_succ, List.getElem?_cons_zero, List.set_cons_succ, List.set_cons_zero, eq_self, if_true, Bool.false_eq_true, if_false, List.length_cons, List.length_nil, Nat.zero_add, Nat.reduceAdd, Nat.reduceSub, List.map_cons, List.map_nil, List.cons_append, List.nil_append, Option.map_some, Bool.not_true, Bool.not_false, sz0, sz1, sz2, sz3, sz4, sz5, sz6, sz9, sz10, sz12, q1, q2, q3, q4]
  · split <;> split <;> omega
  · split <;> split <;> omega
  · rw [hr]
    simp only [decide_true, if_true]
    split <;> omega
end Wk
namespace Wk
open PySem PySem.Spec PyProof.Rows L2 SKX SK LamX TZ
/-! ### drawn bundles -/
/-- no count below 0 -/
def NNM (M : CM) : Prop := ∀ k, 0 ≤ cget M k
theorem NNM.add {M : CM} {k : List Int} {c : Int} (h : NNM M) (hc : 0 ≤ c) : NNM (cadd M k c) := fun j => by
  rw [cget_cadd]
  have := h j
  split <;> omega
theorem okm_add {M : CM} {n : Nat} {k : List Int} {v : Int} (h : OkM M n) (hk : k.length = 4) : OkM (cadd M k v) (n + 1) := h.put hk
theorem threads_f {ns : List Int} {n m : Nat} {oh : OH} {N W C : Int} {rule : Str} (h : GN ns n oh) (hd : Hd N W C rule) (hm : oh[m]? = some (cD [])) (hnm : n ≠ m) {k : Int} (k0 : 0 ≤ k) (k9 : k ≤ 9) :
    ∃ M oh', f__law_threads [.ref n, hdD N W C rule, .ref m, .int k] oh = .ok .non oh' ∧ oh'[m]? = some (cD M) ∧ OkM M 9 ∧ NNM M ∧ GN ns n oh' ∧ Fr [n, m] oh oh' ∧ ∀ j, cget M j ≤ 27 := by
  have n3 := hd.n3; have n5 := hd.n5; have w0 := hd.w0; have w12 := hd.w12; have c1 := hd.c1; have c4 := hd.c4
  let st : Option D → Option D → Option D → Option D → Ev := fun a b c d => [some (.ref n), some (hdD N W C rule), some (.ref m), some (.int k), some (.int N), some (.int W), some (.int C), some (.str rule), a, b, c, d]
  have hr := z_r1 (ms := aCons (eVar 3) aNil) (s := st none none none none) (oh := oh) (oh' := oh) (j := k) (by simp only [st]; simp only [z_seq, z_set, z_if, z_asg, z_par, z_expr, z_ret, z_retn, z_skip, z_nx, z_rt, z_sok, z_bok, z_tb, z_tru, z_and, z_or, z_not, z_eif, z_e1, z_e2, z_lf, z_var, z_c, z_ch, z_sub, z_lt, z_le, z_gt, z_ge, z_add, z_neg, z_eqi, z_nei, z_eqs, z_nes, z_nil, z_cons, z_notv, z_tup, z_lst, z_cb, z_int, z_intb, z_max, z_min, z_abs, z_itt, z_call, z_gn, z_gnil, z_gcons, z_gtt, z_gttt, z_gsub, z_gsubd, z_ival, z_yes, z_onone, z_osome, z_sl, z_k0, List.getElem?_cons_succ, List.getElem?_cons_zero, List.set_cons_succ, List.set_cons_zero, eq_self, if_true, Bool.false_eq_true, if_false, List.length_cons, List.length_nil, Nat.zero_add, Nat.reduceAdd, Nat.reduceSub, List.map_cons, List.map_nil, List.cons_append, List.nil_append, Option.map_some, Bool.not_true, Bool.not_false, sz0, sz1, sz2, sz3, sz4, sz5, sz6, sz9, sz10, sz12]) (by omega) (by omega)
  obtain ⟨s', o', e, a, b, c, d, M, hs, h1, h2, h3, h4, h5, h6⟩ := forN_ind (g := SK.gN 8) (body := sSeq (sSet 9 (eCall f__law_take (aCons (eVar 0) (aCons (eVar 4) aNil)))) (sSeq (sSet 10 (SK.e2 pMod (eCB bInt (aCons (SK.e2 pAdd (SK.e2 pAdd (eVar 9) (eC (.int 1))) (eCall f__law_take (aCons (eVar 0) (aCons (SK.e2 pSub (eVar 4) (eC (.int 1))) aNil)))) aNil)) (eVar 4))) (sSeq (sSet 11 (eCall f__law_laid (aCons (eVar 9) (aCons (eVar 10) (aCons (eCall f__law_length (aCons (eVar 0) (aCons (eVar 5) aNil))) (aCons (eCall f__law_take (aCons (eVar 0) (aCons (eVar 6) aNil))) (aCons (eVar 5) aNil))))))) (sExpr (eCall f__law_add (aCons (eVar 2) (aCons (eVar 11) (aCons (eCall f__law_one (aCons (eVar 0) (aCons (eLst (aCons (eC (.int 1)) (aCons (eC (.int 1)) (aCons (eC (.int 1)) (aCons (eC (.int 2)) (aCons (eC (.int 3)) aNil)))))) aNil))) aNil))))))))
    hr (fun i s o => ∃ a b c d M, s = st a b c d ∧ o[m]? = some (cD M) ∧ OkM M i ∧ NNM M ∧ GN ns n o ∧ Fr [n, m] oh o ∧ ∀ j, cget M j ≤ 3 * (i : Int))
    ⟨none, none, none, none, [], rfl, hm, ⟨List.nodup_nil, fun j hj => (by cases hj), Nat.le_refl _⟩, fun j => (by simp [cget]), h, Fr.refl _ _, fun j => (by simp [cget])⟩
    (fun i s o hi ⟨a, b, c, d, M, hs, h1, h2, h3, h4, h5, h6⟩ => by
      subst hs
      obtain ⟨u, o1, q1, u0, u1, g1, f1⟩ := take_n (top := N) h4 (by omega) (by omega)
      obtain ⟨v, o2, q2, v0, v1, g2, f2⟩ := take_n (top := N - 1) g1 (by omega) (by omega)
      obtain ⟨z, o3, q3, hz, g3, f3⟩ := length_f (w := W) g2 w0 (by omega)
      obtain ⟨cc, o4, q4, cc0, cc1, g4, f4⟩ := take_n (top := C) g3 (by omega) (by omega)
      obtain ⟨x, o5, q5, mx, g5, f5⟩ := one_l (l := [.int 1, .int 1, .int 1, .int 2, .int 3]) g4 (by simp) (by simp)
      have hx : ∃ y : Int, x = .int y ∧ 0 ≤ y ∧ y ≤ 3 := by
        simp only [List.mem_cons, List.not_mem_nil, or_false] at mx
        rcases mx with rfl | rfl | rfl | rfl | rfl <;> exact ⟨_, rfl, by omega, by omega⟩
      obtain ⟨y, rfl, y0, y3⟩ := hx
      have ff := f1.trans (f2.trans (f3.trans (f4.trans f5)))
      have hm5 : o5[m]? = some (cD M) := ff.at (by simp [Ne.symm hnm]) h1
      have qa := add_ok (k := laidZ u ((u + 1 + v) % N) z cc W) (c := y) hm5 h2.nd (by have := h2.few; omega)
      have ql := laid_ok (u := u) (v := (u + 1 + v) % N) (l := z) (c := cc) w0 o4
      refine ⟨st (some (.int (0 + (i : Int)))) b c d, o, rfl, st (some (.int (0 + (i : Int)))) (some (.int u)) (some (.int ((u + 1 + v) % N))) (some (tupI (laidZ u ((u + 1 + v) % N) z cc W))), o5.set m (cD (cadd M (laidZ u ((u + 1 + v) % N) z cc W) y)), ?_, _, _, _, _, _, rfl, get_set hm5, okm_add h2 (laid_len ..), h3.add y0, ?_, ?_, fun j => ?_⟩
      · simp only [st]
        simp only [z_seq, z_set, z_if, z_asg, z_par, z_expr, z_ret, z_retn, z_skip, z_nx, z_rt, z_sok, z_bok, z_tb, z_tru, z_and, z_or, z_not, z_eif, z_e1, z_e2, z_lf, z_var, z_c, z_ch, z_sub, z_lt, z_le, z_gt, z_ge, z_add, z_neg, z_eqi, z_nei, z_eqs, z_nes, z_nil, z_cons, z_notv, z_tup, z_lst, z_cb, z_int, z_intb, z_max, z_min, z_abs, z_itt, z_call, z_gn, z_gnil, z_gcons, z_gtt, z_gttt, z_gsub, z_gsubd, z_ival, z_yes, z_onone, z_osome, z_sl, z_k0, List.getElem?_cons_succ, List.getElem?_cons_zero, List.set_cons_succ, List.set_cons_zero, eq_self, if_true, Bool.false_eq_true, if_false, List.length_cons, List.length_nil, Nat.zero_add, Nat.reduceAdd, Nat.reduceSub, List.map_cons, List.map_nil, List.cons_append, List.nil_append, Option.map_some, Bool.not_true, Bool.not_false, sz0, sz1, sz2, sz3, sz4, sz5, sz6, sz9, sz10, sz12, q1, q2, q3, q4, q5, ql, qa, z_mod (show 0 < N by omega)]
      · exact g5.fr (Fr.set (S := [m]) (by simp)) (by
          have := h.1
          intro z
          simp at z
          rw [← z, this] at hm
          cases hm) (by simpa using hnm)
      · exact h5.trans ((ff.mono (by simp)).trans (Fr.set (by simp)))
      · rw [cget_cadd]
        have := h6 j
        split <;> omega)
  subst hs
  refine ⟨M, o', fn_nx (s := [some (.ref n), some (hdD N W C rule), some (.ref m), some (.int k), none, none, none, none, none, none, none, none]) (s2 := st a b c d) rfl ?_, h1, h2.mono (by omega), h3, h4, h5, fun j => by have := h6 j; omega⟩
  unfold m__law_threads
  simp only [z_seq, z_set, z_if, z_asg, z_par, z_expr, z_ret, z_retn, z_skip, z_nx, z_rt, z_sok, z_bok, z_tb, z_tru, z_and, z_or, z_not, z_eif, z_e1, z_e2, z_lf, z_var, z_c, z_ch, z_sub, z_lt, z_le, z_gt, z_ge, z_add, z_neg, z_eqi, z_nei, z_eqs, z_nes, z_nil, z_cons, z_notv, z_tup, z_lst, z_cb, z_int, z_intb, z_max, z_min, z_abs, z_itt, z_call, z_gn, z_gnil, z_gcons, z_gtt, z_gttt, z_gsub, z_gsubd, z_ival, z_yes, z_onone, z_osome, z_sl, z_k0, List.getElem?_cons_succ, List.getElem?_cons_zero, List.set_cons_succ, List.set_cons_zero, eq_self, if_true, Bool.false_eq_true, if_false, List.length_cons, List.length_nil, Nat.zero_add, Nat.reduceAdd, Nat.reduceSub, List.map_cons, List.map_nil, List.cons_append, List.nil_append, Option.map_some, Bool.not_true, Bool.not_false, sz0, sz1, sz2, sz3, sz4, sz5, sz6, sz9, sz10, sz12, hdD]
  exact e
theorem map_erase {α β : Type} (f : α → β) : ∀ (l : List α) (i : Nat), (l.map f).eraseIdx i = (l.eraseIdx i).map f
  | [], _ => by simp
  | x :: l, 0 => rfl
  | x :: l, i + 1 => by
    show f x :: (l.map f).eraseIdx i = f x :: (l.eraseIdx i).map f
    rw [map_erase f l i]
theorem perm_erase {α : Type} : ∀ (l : List α) (i : Nat) (h : i < l.length), (l[i] :: l.eraseIdx i).Perm l
  | x :: l, 0, _ => List.Perm.refl _
  | x :: l, i + 1, h => by
    have hi : i < l.length := by simpa using h
    show (l[i] :: x :: l.eraseIdx i).Perm (x :: l)
    exact (List.Perm.swap ..).trans ((perm_erase l i hi).cons x)
/-! ### three places -/
theorem places_f {ns : List Int} {n : Nat} {oh : OH} {N : Int} (h : GN ns n oh) (n3 : 3 ≤ N) (n5 : N ≤ 5) : ∃ a b c r oh', f__law_places [.ref n, .int N, .int 3] oh = .ok (.ref r) oh' ∧ oh'[r]? = some (.lst [.int a, .int b, .int c]) ∧ 0 ≤ a ∧ a < N ∧ 0 ≤ b ∧ b < N ∧ 0 ≤ c ∧ c < N ∧ a ≠ b ∧ a ≠ c ∧ b ≠ c ∧ GN ns n oh' ∧ Fr [n] oh oh' := by
  have hnl := h.lt
  obtain ⟨o1, ho1⟩ : ∃ o1, o1 = oh ++ [.lst ((List.range N.toNat).map fun (i : Nat) => D.int i)] := ⟨_, rfl⟩
  have hr := z_r1 (ms := aCons (eVar 2) aNil) (s := [some (.ref n), some (.int N), some (.int 3), some (.ref oh.length), none]) (oh := o1) (oh' := o1) (j := 3) (by simp only [z_seq, z_set, z_if, z_asg, z_par, z_expr, z_ret, z_retn, z_skip, z_nx, z_rt, z_sok, z_bok, z_tb, z_tru, z_and, z_or, z_not, z_eif, z_e1, z_e2, z_lf, z_var, z_c, z_ch, z_sub, z_lt, z_le, z_gt, z_ge, z_add, z_neg, z_eqi, z_nei, z_eqs, z_nes, z_nil, z_cons, z_notv, z_tup, z_lst, z_cb, z_int, z_intb, z_max, z_min, z_abs, z_itt, z_call, z_gn, z_gnil, z_gcons, z_gtt, z_gttt, z_gsub, z_gsubd, z_ival, z_yes, z_onone, z_osome, z_sl, z_k0, List.getElem?_cons_succ, List.getElem?_cons_zero, List.set_cons_succ, List.set_cons_zero, eq_self, if_true, Bool.false_eq_true, if_false, List.length_cons, List.length_nil, Nat.zero_add, Nat.reduceAdd, Nat.reduceSub, List.map_cons, List.map_nil, List.cons_append, List.nil_append, Option.map_some, Bool.not_true, Bool.not_false, sz0, sz1, sz2, sz3, sz4, sz5, sz6, sz9, sz10, sz12]) (by omega) (by omega)
  have l1 : o1.length = oh.length + 1 := by rw [ho1]; simp
  have f1 : Fr [n] oh o1 := by rw [ho1]; exact Fr.app _ _ _
  have g1 : GN ns n o1 := by rw [ho1]; exact h.fr (Fr.app [] _ _) (by simp) (by simp)
  have n1 : o1[oh.length]? = some (.lst (((List.range N.toNat).map fun (i : Nat) => (i : Int)).map D.int)) := by
    rw [ho1, get_new, List.map_map]
    rfl
  obtain ⟨o', acc, e, A, L, q1, q2, q3, q4, q5, q6, q7⟩ := lcN_ind (g := (CT.one 4).g) (t := tYesD) (el := ePopAt (eVar 3) (aCons (eCall f__law_take (aCons (eVar 0) (aCons (eCB bLen (aCons (eVar 3) aNil)) aNil))) aNil)) (vs := [4]) hr
    (fun rest acc o => ∃ A L : List Int, rest.length + A.length = 3 ∧ acc = A.map D.int ∧ (A ++ L).Perm ((List.range N.toNat).map fun (i : Nat) => (i : Int)) ∧ o[oh.length]? = some (.lst (L.map D.int)) ∧ o[o1.length]? = some (.lst acc) ∧ GN ns n o ∧ Fr [n] oh o)
    ⟨[], (List.range N.toNat).map fun (i : Nat) => (i : Int), by simp, rfl, List.Perm.refl _, Up.app _ _ _ _ n1, get_new _ _, g1.fr (Fr.app [] _ _) (by simp) (by simp), f1.trans (Fr.app [n] _ _)⟩
    (fun d r acc o ⟨A, L, q1, q2, q3, q4, q5, q6, q7⟩ => by
      have hlen : A.length + L.length = N.toNat := by
        have := q3.length_eq
        simpa using this
      have hL : 0 < L.length := by
        rw [List.length_cons] at q1
        omega
      obtain ⟨j, o2, t1, j0, j1, g2, f2⟩ := take_n (top := ((L.map D.int).length : Int)) q6 (by rw [List.length_map]; omega) (by rw [List.length_map]; omega)
      rw [List.length_map] at j1
      have hjl : j.toNat < L.length := by omega
      have q4' : o2[oh.length]? = some (.lst (L.map D.int)) := f2.at (by simp; omega) q4
      have q5' : o2[o1.length]? = some (.lst acc) := f2.at (by simp; omega) q5
      have ix : ixN (L.map D.int).length j = some j.toNat := by
        unfold ixN
        rw [List.length_map, if_pos j0, if_pos (by omega)]
      have gx : (L.map D.int)[j.toNat]? = some (.int L[j.toNat]) := by
        rw [List.getElem?_map, List.getElem?_eq_getElem hjl]
        rfl
      have pp : pPopAt oh.length [.int j] o2 = some (.int L[j.toNat], o2.set oh.length (.lst ((L.map D.int).eraseIdx j.toNat))) := by
        unfold pPopAt
        dsimp only
        rw [q4']
        dsimp only
        rw [if_pos ⟨by omega, by omega⟩, ix]
        dsimp only
        rw [gx]
      have er : (L.map D.int).eraseIdx j.toNat = (L.eraseIdx j.toNat).map D.int := map_erase ..
      rw [er] at pp
      have hl2 : (bLen [D.ref oh.length] o) = some (.int ((L.map D.int).length : Int), o) := z_len (z_itl q4)
      have hlst : isLst o oh.length = true := by unfold isLst; rw [q4]
      refine ⟨[some (.ref n), some (.int N), some (.int 3), some (.ref oh.length), some d], o, rfl, true, o, rfl, .inr ⟨rfl, .int L[j.toNat], o2.set oh.length (.lst ((L.eraseIdx j.toNat).map D.int)), ?_, ?_, ?_, A ++ [L[j.toNat]], L.eraseIdx j.toNat, ?_, ?_, ?_, ?_, ?_, ?_, ?_⟩⟩
      · unfold ePopAt
        simp only [z_seq, z_set, z_if, z_asg, z_par, z_expr, z_ret, z_retn, z_skip, z_nx, z_rt, z_sok, z_bok, z_tb, z_tru, z_and, z_or, z_not, z_eif, z_e1, z_e2, z_lf, z_var, z_c, z_ch, z_sub, z_lt, z_le, z_gt, z_ge, z_add, z_neg, z_eqi, z_nei, z_eqs, z_nes, z_nil, z_cons, z_notv, z_tup, z_lst, z_cb, z_int, z_intb, z_max, z_min, z_abs, z_itt, z_call, z_gn, z_gnil, z_gcons, z_gtt, z_gttt, z_gsub, z_gsubd, z_ival, z_yes, z_onone, z_osome, z_sl, z_k0, List.getElem?_cons_succ, List.getElem?_cons_zero, List.set_cons_succ, List.set_cons_zero, eq_self, if_true, Bool.false_eq_true, if_false, List.length_cons, List.length_nil, Nat.zero_add, Nat.reduceAdd, Nat.reduceSub, List.map_cons, List.map_nil, List.cons_append, List.nil_append, Option.map_some, Bool.not_true, Bool.not_false, sz0, sz1, sz2, sz3, sz4, sz5, sz6, sz9, sz10, sz12, hlst, hl2, t1, pp]
      · rw [List.getElem?_set_ne (by omega)]
        exact q5'
      · rw [q2, List.length_map]
        exact size_lt (by rw [List.length_cons] at q1; omega)
      · rw [List.length_cons] at q1
        simp
        omega
      · rw [q2, List.map_append]
        rfl
      · refine List.Perm.trans ?_ q3
        rw [List.append_assoc]
        refine List.Perm.append_left A ?_
        exact (perm_erase L j.toNat hjl)
      · rw [List.getElem?_set_ne (by omega)]
        exact get_set q4'
      · refine get_set (c := .lst acc) ?_
        rw [List.getElem?_set_ne (by omega)]
        exact q5'
      · exact (g2.fr (Fr.set (S := [oh.length]) (by simp)) (by simp; omega) (by simp; omega)).fr (Fr.set (S := [o1.length]) (by simp)) (by simp; omega) (by simp; omega)
      · have f3 : Fr [oh.length, o1.length, n] o2 ((o2.set oh.length (.lst ((L.eraseIdx j.toNat).map D.int))).set o1.length (.lst (acc ++ [.int L[j.toNat]]))) := (SK.Fr.set (by simp)).trans (SK.Fr.set (by simp))
        have f4 : Fr [n] oh o2 := q7.trans f2
        exact ⟨Nat.le_trans f4.1 f3.1, fun k c hk hc => f3.2 k c (by
          have := lt_of_get hc
          simp only [List.mem_cons, List.not_mem_nil, or_false] at hk ⊢
          omega) (f4.2 k c hk hc)⟩)
  have h3 : A.length = 3 := by simpa using q1
  match A, h3 with
  | [a, b, c], _ =>
    have nd : ([a, b, c] ++ L).Nodup := q3.nodup_iff.mpr (by
      rw [List.nodup_iff_pairwise_ne, List.pairwise_map]
      exact List.nodup_range.imp fun {a b} hab z => hab (by omega))
    have rg : ∀ x ∈ [a, b, c] ++ L, 0 ≤ x ∧ x < N := fun x hx => by
      have := q3.mem_iff.mp hx
      obtain ⟨i, hi, rfl⟩ := List.mem_map.mp this
      have := List.mem_range.mp hi
      omega
    have ra := rg a (by simp)
    have rb := rg b (by simp)
    have rc := rg c (by simp)
    simp only [List.cons_append, List.nil_append, List.nodup_cons, List.mem_cons, not_or] at nd
    refine ⟨a, b, c, o1.length, o', fn_ret (s := [some (.ref n), some (.int N), some (.int 3), none, none]) rfl ?_, by rw [q5, q2]; rfl, ra.1, ra.2, rb.1, rb.2, rc.1, rc.2, nd.1.1, nd.1.2.1, nd.2.1.1, q6, q7⟩
    unfold m__law_places
    have hlr : eLRg1 (eVar 1) [some (.ref n), some (.int N), some (.int 3), none, none] oh = .ok (.ref oh.length) o1 := by
      unfold eLRg1
      simp only [z_seq, z_set, z_if, z_asg, z_par, z_expr, z_ret, z_retn, z_skip, z_nx, z_rt, z_sok, z_bok, z_tb, z_tru, z_and, z_or, z_not, z_eif, z_e1, z_e2, z_lf, z_var, z_c, z_ch, z_sub, z_lt, z_le, z_gt, z_ge, z_add, z_neg, z_eqi, z_nei, z_eqs, z_nes, z_nil, z_cons, z_notv, z_tup, z_lst, z_cb, z_int, z_intb, z_max, z_min, z_abs, z_itt, z_call, z_gn, z_gnil, z_gcons, z_gtt, z_gttt, z_gsub, z_gsubd, z_ival, z_yes, z_onone, z_osome, z_sl, z_k0, List.getElem?_cons_succ, List.getElem?_cons_zero, List.set_cons_succ, List.set_cons_zero, eq_self, if_true, Bool.false_eq_true, if_false, List.length_cons, List.length_nil, Nat.zero_add, Nat.reduceAdd, Nat.reduceSub, List.map_cons, List.map_nil, List.cons_append, List.nil_append, Option.map_some, Bool.not_true, Bool.not_false, sz0, sz1, sz2, sz3, sz4, sz5, sz6, sz9, sz10, sz12]
      rw [if_pos ⟨by omega, by omega⟩, ho1]
    simp only [z_seq, z_set, z_if, z_asg, z_par, z_expr, z_ret, z_retn, z_skip, z_nx, z_rt, z_sok, z_bok, z_tb, z_tru, z_and, z_or, z_not, z_eif, z_e1, z_e2, z_lf, z_var, z_c, z_ch, z_sub, z_lt, z_le, z_gt, z_ge, z_add, z_neg, z_eqi, z_nei, z_eqs, z_nes, z_nil, z_cons, z_notv, z_tup, z_lst, z_cb, z_int, z_intb, z_max, z_min, z_abs, z_itt, z_call, z_gn, z_gnil, z_gcons, z_gtt, z_gttt, z_gsub, z_gsubd, z_ival, z_yes, z_onone, z_osome, z_sl, z_k0, List.getElem?_cons_succ, List.getElem?_cons_zero, List.set_cons_succ, List.set_cons_zero, eq_self, if_true, Bool.false_eq_true, if_false, List.length_cons, List.length_nil, Nat.zero_add, Nat.reduceAdd, Nat.reduceSub, List.map_cons, List.map_nil, List.cons_append, List.nil_append, Option.map_some, Bool.not_true, Bool.not_false, sz0, sz1, sz2, sz3, sz4, sz5, sz6, sz9, sz10, sz12, hlr]
    exact congrArg (fun z => R.st _ z fun d oh => RS.rt d oh) e
end Wk
namespace Wk
open PySem PySem.Spec PyProof.Rows L2 SKX SK LamX TZ
/-! ### coats that let one another -/
def LetZ (rule : Str) (a b : Int) : Prop := rule = "all" ∨ (rule = "own" ∧ b = a) ∨ (rule = "others" ∧ b ≠ a)
def Rule (rule : Str) : Prop := rule = "all" ∨ rule = "others" ∨ rule = "own"
theorem z_eqb {a b : Bool} {oh : OH} : pEq (.bl a) (.bl b) oh = some (.bl (a == b), oh) := by
  have h1 : ∀ c, toPy oh 60 (.bl c) = some (.bool c) := fun c => rfl
  have h2 : ∀ c, SeqAt.shaped (.bool c) = true := fun c => by simp [SeqAt.shaped, PyData.canLay0, PyData.depth]
  simp only [pEq, eqD, eqS, eqDp, h1, h2, Bool.and_self, if_true, Option.map_some, PyData.eqv]
theorem toBls_const {α : Type} (b : Bool) : ∀ l : List α, toBls (l.map fun _ => D.bl b) = some (l.map fun _ => b)
  | [] => rfl
  | x :: l => by
    simp only [List.map_cons, toBls, toBls_const b l, Option.map_some]
theorem all_const {α : Type} (l : List α) : (l.map fun _ => true).all id = true := by simp
theorem any_const {α : Type} (l : List α) : (l.map fun _ => false).any id = false := by simp
theorem lets_f {oh : OH} {r : Nat} {rule : Str} {c : Int} {rails : List (List Int)} (hr : Rule rule) (h : oh[r]? = some (.lst (rails.map tupI))) (hl : rails.length ≤ 2 ^ 20) (h3 : ∀ k ∈ rails, ∃ y, k[3]? = some y ∧ LetZ rule c y) : ∃ oh', f__law_lets [.str rule, .int c, .ref r] oh = .ok (.bl true) oh' ∧ Fr [] oh oh' := by
  by_cases ha : rule = "all"
  · refine ⟨oh, fn_ret (s := [some (.str rule), some (.int c), some (.ref r), none]) rfl ?_, Fr.refl _ _⟩
    unfold m__law_lets
    simp only [z_seq, z_set, z_if, z_asg, z_par, z_expr, z_ret, z_retn, z_skip, z_nx, z_rt, z_sok, z_bok, z_tb, z_tru, z_and, z_or, z_not, z_eif, z_e1, z_e2, z_lf, z_var, z_c, z_ch, z_sub, z_lt, z_le, z_gt, z_ge, z_add, z_neg, z_eqi, z_nei, z_eqs, z_nes, z_nil, z_cons, z_notv, z_tup, z_lst, z_cb, z_int, z_intb, z_max, z_min, z_abs, z_itt, z_call, z_gn, z_gnil, z_gcons, z_gtt, z_gttt, z_gsub, z_gsubd, z_ival, z_yes, z_onone, z_osome, z_sl, z_k0, List.getElem?_cons_succ, List.getElem?_cons_zero, List.set_cons_succ, List.set_cons_zero, eq_self, if_true, Bool.false_eq_true, if_false, List.length_cons, List.length_nil, Nat.zero_add, Nat.reduceAdd, Nat.reduceSub, List.map_cons, List.map_nil, List.cons_append, List.nil_append, Option.map_some, Bool.not_true, Bool.not_false, sz0, sz1, sz2, sz3, sz4, sz5, sz6, sz9, sz10, sz12, decide_eq_true ha]
  · obtain ⟨o', e, up, hn⟩ := lcR_pure (mi := iVal (eVar 2)) (g := (CT.one 3).g) (t := tYesD) (el := SK.e2 pEq (SK.e2 pEq (eVar 1) (SK.e2 pIx (eVar 3) (eC (.int 3)))) (SK.e2 pEq (eVar 0) (eC (.str "own")))) (vs := [3]) (s := [some (.str rule), some (.int c), some (.ref r), none]) (oh := oh) (oh1 := oh)
      (fun _ => true) (fun _ => .bl true) (by simp only [z_seq, z_set, z_if, z_asg, z_par, z_expr, z_ret, z_retn, z_skip, z_nx, z_rt, z_sok, z_bok, z_tb, z_tru, z_and, z_or, z_not, z_eif, z_e1, z_e2, z_lf, z_var, z_c, z_ch, z_sub, z_lt, z_le, z_gt, z_ge, z_add, z_neg, z_eqi, z_nei, z_eqs, z_nes, z_nil, z_cons, z_notv, z_tup, z_lst, z_cb, z_int, z_intb, z_max, z_min, z_abs, z_itt, z_call, z_gn, z_gnil, z_gcons, z_gtt, z_gttt, z_gsub, z_gsubd, z_ival, z_yes, z_onone, z_osome, z_sl, z_k0, List.getElem?_cons_succ, List.getElem?_cons_zero, List.set_cons_succ, List.set_cons_zero, eq_self, if_true, Bool.false_eq_true, if_false, List.length_cons, List.length_nil, Nat.zero_add, Nat.reduceAdd, Nat.reduceSub, List.map_cons, List.map_nil, List.cons_append, List.nil_append, Option.map_some, Bool.not_true, Bool.not_false, sz0, sz1, sz2, sz3, sz4, sz5, sz6, sz9, sz10, sz12]) (z_itl h) (by rw [List.length_map]; exact hl) (fun d hd o u => by
        obtain ⟨k, hk, rfl⟩ := List.mem_map.mp hd
        obtain ⟨y, ey, hy⟩ := h3 k hk
        have ix : pIx (tupI k) (.int 3) o = some (.int y, o) := z_ixd (l := k.map D.int) rfl (by omega) (by rw [List.getElem?_map, show (3 : Int).toNat = 3 from rfl, ey]; rfl)
        refine ⟨[some (.str rule), some (.int c), some (.ref r), some (tupI k)], rfl, rfl, fun _ => ?_⟩
        have hb : (decide (c = y) == decide (rule = "own")) = true := by
          rcases hy with hy | ⟨e1, e2'⟩ | ⟨e1, e2'⟩
          · exact absurd hy ha
          · simp [e1, e2']
          · have : ¬ c = y := fun z => e2' z.symm
            rw [e1]
            simp [this]
            decide
        simp only [z_seq, z_set, z_if, z_asg, z_par, z_expr, z_ret, z_retn, z_skip, z_nx, z_rt, z_sok, z_bok, z_tb, z_tru, z_and, z_or, z_not, z_eif, z_e1, z_e2, z_lf, z_var, z_c, z_ch, z_sub, z_lt, z_le, z_gt, z_ge, z_add, z_neg, z_eqi, z_nei, z_eqs, z_nes, z_nil, z_cons, z_notv, z_tup, z_lst, z_cb, z_int, z_intb, z_max, z_min, z_abs, z_itt, z_call, z_gn, z_gnil, z_gcons, z_gtt, z_gttt, z_gsub, z_gsubd, z_ival, z_yes, z_onone, z_osome, z_sl, z_k0, List.getElem?_cons_succ, List.getElem?_cons_zero, List.set_cons_succ, List.set_cons_zero, eq_self, if_true, Bool.false_eq_true, if_false, List.length_cons, List.length_nil, Nat.zero_add, Nat.reduceAdd, Nat.reduceSub, List.map_cons, List.map_nil, List.cons_append, List.nil_append, Option.map_some, Bool.not_true, Bool.not_false, sz0, sz1, sz2, sz3, sz4, sz5, sz6, sz9, sz10, sz12, ix, z_eqb, hb])
    have et : ((rails.map tupI).filter fun _ => true).map (fun _ => D.bl true) = rails.map fun _ => D.bl true := by
      rw [List.filter_eq_self.mpr (fun _ _ => rfl), List.map_map]
      rfl
    rw [et] at hn
    have ba : bAll [.ref oh.length] o' = some (.bl true, o') := by
      unfold bAll
      dsimp only
      rw [z_itl hn]
      dsimp only
      rw [toBls_const, Option.map_some, all_const]
    refine ⟨o', fn_ret (s := [some (.str rule), some (.int c), some (.ref r), none]) rfl ?_, up.fr⟩
    unfold m__law_lets
    simp only [z_seq, z_set, z_if, z_asg, z_par, z_expr, z_ret, z_retn, z_skip, z_nx, z_rt, z_sok, z_bok, z_tb, z_tru, z_and, z_or, z_not, z_eif, z_e1, z_e2, z_lf, z_var, z_c, z_ch, z_sub, z_lt, z_le, z_gt, z_ge, z_add, z_neg, z_eqi, z_nei, z_eqs, z_nes, z_nil, z_cons, z_notv, z_tup, z_lst, z_cb, z_int, z_intb, z_max, z_min, z_abs, z_itt, z_call, z_gn, z_gnil, z_gcons, z_gtt, z_gttt, z_gsub, z_gsubd, z_ival, z_yes, z_onone, z_osome, z_sl, z_k0, List.getElem?_cons_succ, List.getElem?_cons_zero, List.set_cons_succ, List.set_cons_zero, eq_self, if_true, Bool.false_eq_true, if_false, List.length_cons, List.length_nil, Nat.zero_add, Nat.reduceAdd, Nat.reduceSub, List.map_cons, List.map_nil, List.cons_append, List.nil_append, Option.map_some, Bool.not_true, Bool.not_false, sz0, sz1, sz2, sz3, sz4, sz5, sz6, sz9, sz10, sz12, decide_eq_false ha, e, ba]
/-! ### the form of a deed -/
def deedD (word : Str) (k : List Int) : D := .tup (.str word :: k.map D.int)
theorem forms_ok {word : Str} {z : Int} (oh : OH) (h : (word = "carry" ∧ z = 9) ∨ (word = "round" ∧ z = 12)) : pNotIn (.tup [.tup [.str word], .int z]) (.ref oh.length) (oh ++ [.lst [.tup [.tup [.str "carry"], .int 9], .tup [.tup [.str "round"], .int 12]]]) = some (.bl false, oh ++ [.lst [.tup [.tup [.str "carry"], .int 9], .tup [.tup [.str "round"], .int 12]]]) := by
  generalize ho : oh ++ [Cell.lst [.tup [.tup [.str "carry"], .int 9], .tup [.tup [.str "round"], .int 12]]] = o
  have hn : o[oh.length]? = some (.lst [.tup [.tup [.str "carry"], .int 9], .tup [.tup [.str "round"], .int 12]]) := by rw [← ho]; exact get_new _ _
  have i1 : ∀ x, inFlat o (.tup x) (.ref oh.length) = none := fun x => by
    unfold inFlat
    rw [z_itl hn]
  have i2 : ∀ x, inDict o x (.ref oh.length) = none := fun x => by
    unfold inDict dictOf
    dsimp only
    rw [hn]
  have p1 : toPy o 60 (.ref oh.length) = some (.list [.tuple [.tuple [.str "carry"], .int 9], .tuple [.tuple [.str "round"], .int 12]]) := by
    unfold toPy
    rw [hn]
    rfl
  have p2 : toPy o 60 (.tup [.tup [.str word], .int z]) = some (.tuple [.tuple [.str word], .int z]) := rfl
  unfold pNotIn inAny inData
  rw [i1, i2, p1, p2]
  rcases h with ⟨rfl, rfl⟩ | ⟨rfl, rfl⟩
  · have : (SeqAt.shaped (.tuple [.tuple [.str "carry"], .int 9]) && SeqAt.shaped (.list [.tuple [.tuple [.str "carry"], .int 9], .tuple [.tuple [.str "round"], .int 12]])) = true := by decide +kernel
    simp only [this, if_true, Option.map_some]
    have : (([.tuple [.tuple [.str "carry"], .int 9], .tuple [.tuple [.str "round"], .int 12]] : List PyData).any fun z => PyData.eqv z (.tuple [.tuple [.str "carry"], .int 9])) = true := by decide +kernel
    rw [this]
    rfl
  · have : (SeqAt.shaped (.tuple [.tuple [.str "round"], .int 12]) && SeqAt.shaped (.list [.tuple [.tuple [.str "carry"], .int 9], .tuple [.tuple [.str "round"], .int 12]])) = true := by decide +kernel
    simp only [this, if_true, Option.map_some]
    have : (([.tuple [.tuple [.str "carry"], .int 9], .tuple [.tuple [.str "round"], .int 12]] : List PyData).any fun z => PyData.eqv z (.tuple [.tuple [.str "round"], .int 12])) = true := by decide +kernel
    rw [this]
    rfl
theorem is_deed_f {word : Str} {k : List Int} (oh : OH) (h : (word = "carry" ∧ k.length = 8) ∨ (word = "round" ∧ k.length = 11)) : ∃ oh', f__law_is_deed [deedD word k] oh = .ok (.bl true) oh' ∧ Fr [] oh oh' := by
  have hk : k.length ≤ 11 := by omega
  have s1 : ∀ o, pSl (deedD word k) none (some 1) o = some (.tup [.str word], o) := fun o => by
    unfold deedD pSl SK.cutD
    simp [HT.sIx]
  have s2 : ∀ o, pSl (deedD word k) (some 1) none o = some (tupI k, o) := fun o => by
    unfold deedD pSl SK.cutD tupI
    simp [HT.sIx]
    exact List.take_of_length_le (by simp)
  have bl : ∀ o, bLen [deedD word k] o = some (.int ((k.length : Int) + 1), o) := fun o => by
    rw [z_len (l := .str word :: k.map D.int) rfl]
    simp
  have fo : pNotIn (.tup [.tup [.str word], .int ((k.length : Int) + 1)]) (.ref oh.length) (oh ++ [.lst [.tup [.tup [.str "carry"], .int 9], .tup [.tup [.str "round"], .int 12]]]) = some (.bl false, oh ++ [.lst [.tup [.tup [.str "carry"], .int 9], .tup [.tup [.str "round"], .int 12]]]) := forms_ok oh (by
    rcases h with ⟨h1, h2⟩ | ⟨h1, h2⟩
    · exact .inl ⟨h1, by omega⟩
    · exact .inr ⟨h1, by omega⟩)
  obtain ⟨o1, ho1⟩ : ∃ o1, o1 = oh ++ [Cell.lst [.tup [.tup [.str "carry"], .int 9], .tup [.tup [.str "round"], .int 12]]] := ⟨_, rfl⟩
  rw [← ho1] at fo
  obtain ⟨o', e, up, hn⟩ := lcT_pure (mi := iVal (eSl (eVar 0) (oSome (eC (.int 1))) oNone)) (g := (CT.one 1).g) (t := tYesD) (el := eAndD (eIsB "int" (eVar 1)) (SK.e1 pNot (eIsB "bool" (eVar 1)))) (vs := [1]) (s := [some (deedD word k), none]) (oh := o1) (oh1 := o1) (l := k.map D.int)
    (fun _ => true) (fun _ => .bl true) (by simp only [z_seq, z_set, z_if, z_asg, z_par, z_expr, z_ret, z_retn, z_skip, z_nx, z_rt, z_sok, z_bok, z_tb, z_tru, z_and, z_or, z_not, z_eif, z_e1, z_e2, z_lf, z_var, z_c, z_ch, z_sub, z_lt, z_le, z_gt, z_ge, z_add, z_neg, z_eqi, z_nei, z_eqs, z_nes, z_nil, z_cons, z_notv, z_tup, z_lst, z_cb, z_int, z_intb, z_max, z_min, z_abs, z_itt, z_call, z_gn, z_gnil, z_gcons, z_gtt, z_gttt, z_gsub, z_gsubd, z_ival, z_yes, z_onone, z_osome, z_sl, z_k0, List.getElem?_cons_succ, List.getElem?_cons_zero, List.set_cons_succ, List.set_cons_zero, eq_self, if_true, Bool.false_eq_true, if_false, List.length_cons, List.length_nil, Nat.zero_add, Nat.reduceAdd, Nat.reduceSub, List.map_cons, List.map_nil, List.cons_append, List.nil_append, Option.map_some, Bool.not_true, Bool.not_false, sz0, sz1, sz2, sz3, sz4, sz5, sz6, sz9, sz10, sz12, s2, tupI]) (by rw [List.length_map]; omega) (fun d hd o u => by
      obtain ⟨i, _, rfl⟩ := List.mem_map.mp hd
      refine ⟨[some (deedD word k), some (.int i)], rfl, rfl, fun _ => ?_⟩
      have h1 : eIsB "int" (eVar 1) [some (deedD word k), some (.int i)] o = .ok (.bl true) o := z_isB (d := .int i) (by simp only [z_seq, z_set, z_if, z_asg, z_par, z_expr, z_ret, z_retn, z_skip, z_nx, z_rt, z_sok, z_bok, z_tb, z_tru, z_and, z_or, z_not, z_eif, z_e1, z_e2, z_lf, z_var, z_c, z_ch, z_sub, z_lt, z_le, z_gt, z_ge, z_add, z_neg, z_eqi, z_nei, z_eqs, z_nes, z_nil, z_cons, z_notv, z_tup, z_lst, z_cb, z_int, z_intb, z_max, z_min, z_abs, z_itt, z_call, z_gn, z_gnil, z_gcons, z_gtt, z_gttt, z_gsub, z_gsubd, z_ival, z_yes, z_onone, z_osome, z_sl, z_k0, List.getElem?_cons_succ, List.getElem?_cons_zero, List.set_cons_succ, List.set_cons_zero, eq_self, if_true, Bool.false_eq_true, if_false, List.length_cons, List.length_nil, Nat.zero_add, Nat.reduceAdd, Nat.reduceSub, List.map_cons, List.map_nil, List.cons_append, List.nil_append, Option.map_some, Bool.not_true, Bool.not_false, sz0, sz1, sz2, sz3, sz4, sz5, sz6, sz9, sz10, sz12]) (is_int o i)
      have h2 : eIsB "bool" (eVar 1) [some (deedD word k), some (.int i)] o = .ok (.bl false) o := z_isB (d := .int i) (by simp only [z_seq, z_set, z_if, z_asg, z_par, z_expr, z_ret, z_retn, z_skip, z_nx, z_rt, z_sok, z_bok, z_tb, z_tru, z_and, z_or, z_not, z_eif, z_e1, z_e2, z_lf, z_var, z_c, z_ch, z_sub, z_lt, z_le, z_gt, z_ge, z_add, z_neg, z_eqi, z_nei, z_eqs, z_nes, z_nil, z_cons, z_notv, z_tup, z_lst, z_cb, z_int, z_intb, z_max, z_min, z_abs, z_itt, z_call, z_gn, z_gnil, z_gcons, z_gtt, z_gttt, z_gsub, z_gsubd, z_ival, z_yes, z_onone, z_osome, z_sl, z_k0, List.getElem?_cons_succ, List.getElem?_cons_zero, List.set_cons_succ, List.set_cons_zero, eq_self, if_true, Bool.false_eq_true, if_false, List.length_cons, List.length_nil, Nat.zero_add, Nat.reduceAdd, Nat.reduceSub, List.map_cons, List.map_nil, List.cons_append, List.nil_append, Option.map_some, Bool.not_true, Bool.not_false, sz0, sz1, sz2, sz3, sz4, sz5, sz6, sz9, sz10, sz12]) (is_intb o i)
      rw [z_eandT h1]
      simp only [z_seq, z_set, z_if, z_asg, z_par, z_expr, z_ret, z_retn, z_skip, z_nx, z_rt, z_sok, z_bok, z_tb, z_tru, z_and, z_or, z_not, z_eif, z_e1, z_e2, z_lf, z_var, z_c, z_ch, z_sub, z_lt, z_le, z_gt, z_ge, z_add, z_neg, z_eqi, z_nei, z_eqs, z_nes, z_nil, z_cons, z_notv, z_tup, z_lst, z_cb, z_int, z_intb, z_max, z_min, z_abs, z_itt, z_call, z_gn, z_gnil, z_gcons, z_gtt, z_gttt, z_gsub, z_gsubd, z_ival, z_yes, z_onone, z_osome, z_sl, z_k0, List.getElem?_cons_succ, List.getElem?_cons_zero, List.set_cons_succ, List.set_cons_zero, eq_self, if_true, Bool.false_eq_true, if_false, List.length_cons, List.length_nil, Nat.zero_add, Nat.reduceAdd, Nat.reduceSub, List.map_cons, List.map_nil, List.cons_append, List.nil_append, Option.map_some, Bool.not_true, Bool.not_false, sz0, sz1, sz2, sz3, sz4, sz5, sz6, sz9, sz10, sz12, h2])
  have et : ((k.map D.int).filter fun _ => true).map (fun _ => D.bl true) = k.map fun _ => D.bl true := by
    rw [List.filter_eq_self.mpr (fun _ _ => rfl), List.map_map]
    rfl
  rw [et] at hn
  have ba : bAll [.ref o1.length] o' = some (.bl true, o') := by
    unfold bAll
    dsimp only
    rw [z_itl hn]
    dsimp only
    rw [toBls_const, Option.map_some, all_const]
  refine ⟨o', fn_ret (s := [some (deedD word k), none]) rfl ?_, ((show Up oh o1 by rw [ho1]; exact Up.app _ _).trans up).fr⟩
  unfold m__law_is_deed
  have h1 : eIsB "tuple" (eVar 0) [some (deedD word k), none] oh = .ok (.bl true) oh := z_isB (d := deedD word k) (by simp only [z_seq, z_set, z_if, z_asg, z_par, z_expr, z_ret, z_retn, z_skip, z_nx, z_rt, z_sok, z_bok, z_tb, z_tru, z_and, z_or, z_not, z_eif, z_e1, z_e2, z_lf, z_var, z_c, z_ch, z_sub, z_lt, z_le, z_gt, z_ge, z_add, z_neg, z_eqi, z_nei, z_eqs, z_nes, z_nil, z_cons, z_notv, z_tup, z_lst, z_cb, z_int, z_intb, z_max, z_min, z_abs, z_itt, z_call, z_gn, z_gnil, z_gcons, z_gtt, z_gttt, z_gsub, z_gsubd, z_ival, z_yes, z_onone, z_osome, z_sl, z_k0, List.getElem?_cons_succ, List.getElem?_cons_zero, List.set_cons_succ, List.set_cons_zero, eq_self, if_true, Bool.false_eq_true, if_false, List.length_cons, List.length_nil, Nat.zero_add, Nat.reduceAdd, Nat.reduceSub, List.map_cons, List.map_nil, List.cons_append, List.nil_append, Option.map_some, Bool.not_true, Bool.not_false, sz0, sz1, sz2, sz3, sz4, sz5, sz6, sz9, sz10, sz12]) (is_tup oh _)
  simp only [z_seq, z_set, z_if, z_asg, z_par, z_expr, z_ret, z_retn, z_skip, z_nx, z_rt, z_sok, z_bok, z_tb, z_tru, z_and, z_or, z_not, z_eif, z_e1, z_e2, z_lf, z_var, z_c, z_ch, z_sub, z_lt, z_le, z_gt, z_ge, z_add, z_neg, z_eqi, z_nei, z_eqs, z_nes, z_nil, z_cons, z_notv, z_tup, z_lst, z_cb, z_int, z_intb, z_max, z_min, z_abs, z_itt, z_call, z_gn, z_gnil, z_gcons, z_gtt, z_gttt, z_gsub, z_gsubd, z_ival, z_yes, z_onone, z_osome, z_sl, z_k0, List.getElem?_cons_succ, List.getElem?_cons_zero, List.set_cons_succ, List.set_cons_zero, eq_self, if_true, Bool.false_eq_true, if_false, List.length_cons, List.length_nil, Nat.zero_add, Nat.reduceAdd, Nat.reduceSub, List.map_cons, List.map_nil, List.cons_append, List.nil_append, Option.map_some, Bool.not_true, Bool.not_false, sz0, sz1, sz2, sz3, sz4, sz5, sz6, sz9, sz10, sz12, h1, truD, s1, bl, ← ho1, fo, e, ba]
/-! ### walking a deed -/
def wk0 : SM := sAsg (eVar 1) (gT 4 (SK.gCons (gN 3) (SK.gCons (gN 4) (SK.gCons (gN 5) (SK.gCons (gN 6) SK.gNil)))))
def wk1 : SM := sIf (tNotD (tTru (eCall f__law_is_deed (aCons (eVar 2) aNil)))) (sRet (eC (.bl false))) sSkip
def wk2 : SM := sAsg (eSl (eVar 2) (oSome (eC (.int 1))) (oSome (eC (.int 8)))) (gT 7 (SK.gCons (gN 7) (SK.gCons (gN 8) (SK.gCons (gN 9) (SK.gCons (gN 10) (SK.gCons (gN 11) (SK.gCons (gN 12) (SK.gCons (gN 13) SK.gNil))))))))
def wk3 : SM := sAsg (eTup (aCons (eLst (aCons (eTup (aCons (eVar 8) (aCons (eVar 11) (aCons (eVar 12) (aCons (eVar 13) aNil))))) aNil)) (aCons (eLst (aCons (eVar 9) (aCons (eVar 12) aNil))) (aCons (SK.e2 pIx (eVar 2) (eC (.int 8))) (aCons (eC (.int 1)) aNil))))) (gT 4 (SK.gCons (gN 14) (SK.gCons (gN 15) (SK.gCons (gN 16) (SK.gCons (gN 17) SK.gNil)))))
def wk4 : SM := sIf (tB1 (SK.e2 pEq (eCB bLen (aCons (eVar 2) aNil)) (eC (.int 12)))) (sAsg (eTup (aCons (SK.e2 pAdd (eVar 14) (eLst (aCons (eTup (aCons (eVar 11) (aCons (eVar 8) (aCons (SK.e2 pIx (eVar 2) (eC (.int 8))) (aCons (SK.e2 pIx (eVar 2) (eC (.int 9))) aNil))))) aNil))) (aCons (SK.e2 pAdd (eVar 15) (eLst (aCons (SK.e2 pIx (eVar 2) (eC (.int 8))) aNil))) (aCons (SK.e2 pIx (eVar 2) (eC (.int 10))) (aCons (SK.e2 pIx (eVar 2) (eC (.int 11))) aNil))))) (gT 4 (SK.gCons (gN 14) (SK.gCons (gN 15) (SK.gCons (gN 16) (SK.gCons (gN 17) SK.gNil)))))) sSkip
def wk5 : SM := sIf (tOrD (tB1 (SK.e2 pNe (eCB bLen (aCons (eLc (iRange1 (aCons (eVar 3) aNil)) (CT.one 19).g (tB1 (SK.e2 pIn (eVar 19) (eTup (aCons (eVar 7) (aCons (eVar 8) (aCons (eVar 11) aNil)))))) (eVar 19) [19]) aNil)) (eC (.int 3)))) (tOrD (tB1 (SK.e2 pLt (eVar 16) (eC (.int 1)))) (tNotD (tB1 (eCh pLe pLt (eC (.int 1)) (eVar 17) (SK.e2 pPow (eC (.int 10)) (eC (.int 40)))))))) (sRet (eC (.bl false))) sSkip
def wk6 : SM := sIf (tOrD (tTru (eCB bAny (aCons (eLc (iVal (eVar 15)) (CT.one 20).g tYesD (SK.e2 pNe (eCall f__law_rest (aCons (eVar 20) (aCons (eVar 4) aNil))) (eVar 20)) [20]) aNil))) (tNotD (tTru (eCall f__law_lets (aCons (eVar 6) (aCons (eVar 10) (aCons (eVar 14) aNil))))))) (sRet (eC (.bl false))) sSkip
def wk7 : SM := sIf (tTru (eCB bAny (aCons (eLc (iVal (eVar 14)) (CT.many [21, 22, 20, 23]).g tYesD (SK.e2 pLt (eDGet2 (eVar 0) (eCall f__law_laid (aCons (eVar 21) (aCons (eVar 22) (aCons (eVar 20) (aCons (eVar 23) (aCons (eVar 4) aNil)))))) (eC (.int 0))) (eC (.int 1))) [21, 22, 20, 23]) aNil))) (sRet (eC (.bl false))) sSkip
def wk8 : SM := sSet 18 (eCall f__law_laid (aCons (eVar 7) (aCons (eVar 8) (aCons (eVar 9) (aCons (eVar 10) (aCons (eVar 4) aNil))))))
def wk9 : SM := sIf (tB1 (SK.e2 pLt (eDGet2 (eVar 0) (eVar 18) (eC (.int 0))) (eVar 16))) (sRet (eC (.bl false))) sSkip
def wk10 : SM := sAsg (SK.e2 pSub (SK.e2 pDIx (eVar 0) (eVar 18)) (eVar 16)) (gSubD (eVar 0) (eVar 18))
def wk11 : SM := sIf (tB1 (SK.e2 pEq (eCB bLen (aCons (eVar 2) aNil)) (eC (.int 9)))) (sExpr (eCall f__law_add (aCons (eVar 0) (aCons (eCall f__law_laid (aCons (eVar 7) (aCons (eVar 11) (aCons (SK.e2 pAdd (eVar 9) (eVar 12)) (aCons (eVar 10) (aCons (eVar 4) aNil)))))) (aCons (eVar 16) aNil))))) (sExpr (eCall f__law_add (aCons (eVar 0) (aCons (eCall f__law_laid (aCons (eVar 7) (aCons (eVar 8) (aCons (SK.e2 pAdd (eVar 9) (SK.e2 pMul (eVar 17) (SK.e2 pAdd (eVar 12) (SK.e2 pIx (eVar 2) (eC (.int 8)))))) (aCons (eVar 10) (aCons (eVar 4) aNil)))))) (aCons (eVar 16) aNil)))))
def wk12 : SM := sRet (eC (.bl true))
def wkall : SM := (sSeq wk0 (sSeq wk1 (sSeq wk2 (sSeq wk3 (sSeq wk4 (sSeq wk5 (sSeq wk6 (sSeq wk7 (sSeq wk8 (sSeq wk9 (sSeq wk10 (sSeq wk11 wk12))))))))))))
theorem wk_eq : m__law_walk = wkall := rfl
end Wk
namespace Wk
open PySem PySem.Spec PyProof.Rows L2 SKX SK LamX TZ
theorem coats_f {ns : List Int} {n : Nat} {oh : OH} {N W C : Int} {rule : Str} (h : GN ns n oh) (hd : Hd N W C rule) (hr : Rule rule) : ∃ a b c oh', f__law_three_coats [.ref n, hdD N W C rule] oh = .ok (.tup [.int a, .int b, .int c]) oh' ∧ LetZ rule a b ∧ LetZ rule a c ∧ GN ns n oh' ∧ Fr [n] oh oh' := by
  have c1 := hd.c1; have c4 := hd.c4
  obtain ⟨a, o1, q1, a0, a1, g1, f1⟩ := take_n (top := C) h (by omega) (by omega)
  have x2 : pIx (hdD N W C rule) (.int 2) oh = some (.int C, oh) := rfl
  have x3 : pIx (hdD N W C rule) (.int 3) oh = some (.str rule, oh) := rfl
  rcases hr with rfl | rfl | rfl
  · obtain ⟨b, o2, q2, b0, b1, g2, f2⟩ := take_n (top := C) g1 (by omega) (by omega)
    obtain ⟨c, o3, q3, _, _, g3, f3⟩ := take_n (top := C) g2 (by omega) (by omega)
    refine ⟨a, b, c, o3, fn_ret (s := [some (.ref n), some (hdD N W C "all"), none, none, none, none]) rfl ?_, .inl rfl, .inl rfl, g3, f1.trans (f2.trans f3)⟩
    unfold m__law_three_coats
    simp only [z_seq, z_set, z_if, z_asg, z_par, z_expr, z_ret, z_retn, z_skip, z_nx, z_rt, z_sok, z_bok, z_tb, z_tru, z_and, z_or, z_not, z_eif, z_e1, z_e2, z_lf, z_var, z_c, z_ch, z_sub, z_lt, z_le, z_gt, z_ge, z_add, z_neg, z_eqi, z_nei, z_eqs, z_nes, z_nil, z_cons, z_notv, z_tup, z_lst, z_cb, z_int, z_intb, z_max, z_min, z_abs, z_itt, z_call, z_gn, z_gnil, z_gcons, z_gtt, z_gttt, z_gsub, z_gsubd, z_ival, z_yes, z_onone, z_osome, z_sl, z_k0, List.getElem?_cons_succ, List.getElem?_cons_zero, List.set_cons_succ, List.set_cons_zero, eq_self, if_true, Bool.false_eq_true, if_false, List.length_cons, List.length_nil, Nat.zero_add, Nat.reduceAdd, Nat.reduceSub, List.map_cons, List.map_nil, List.cons_append, List.nil_append, Option.map_some, Bool.not_true, Bool.not_false, sz0, sz1, sz2, sz3, sz4, sz5, sz6, sz9, sz10, sz12, x2, x3, q1, q2, q3, decide_eq_false (show ¬ (("all" : Str) = "own") by decide), decide_eq_false (show ¬ (("all" : Str) = "others") by decide)]
  · have cc := hd.oth rfl
    have hnl := h.lt
    have l1 := f1.1
    obtain ⟨o2, ho2⟩ : ∃ o2, o2 = o1 ++ [.lst [.int a]] := ⟨_, rfl⟩
    have l2 : o2.length = o1.length + 1 := by rw [ho2]; simp
    have n2 : o2[o1.length]? = some (.lst [.int a]) := by rw [ho2]; exact get_new _ _
    have g2 : GN ns n o2 := by rw [ho2]; exact g1.fr (Fr.app [] _ _) (by simp) (by simp)
    have f2 : Fr [n] oh o2 := by rw [ho2]; exact f1.trans (Fr.app _ _ _)
    have hr := z_r1 (ms := aCons (eC (.int 2)) aNil) (s := [some (.ref n), some (hdD N W C "others"), some (.int C), some (.str "others"), some (.int a), none]) (oh := o2) (oh' := o2) (j := 2) (by simp only [z_seq, z_set, z_if, z_asg, z_par, z_expr, z_ret, z_retn, z_skip, z_nx, z_rt, z_sok, z_bok, z_tb, z_tru, z_and, z_or, z_not, z_eif, z_e1, z_e2, z_lf, z_var, z_c, z_ch, z_sub, z_lt, z_le, z_gt, z_ge, z_add, z_neg, z_eqi, z_nei, z_eqs, z_nes, z_nil, z_cons, z_notv, z_tup, z_lst, z_cb, z_int, z_intb, z_max, z_min, z_abs, z_itt, z_call, z_gn, z_gnil, z_gcons, z_gtt, z_gttt, z_gsub, z_gsubd, z_ival, z_yes, z_onone, z_osome, z_sl, z_k0, List.getElem?_cons_succ, List.getElem?_cons_zero, List.set_cons_succ, List.set_cons_zero, eq_self, if_true, Bool.false_eq_true, if_false, List.length_cons, List.length_nil, Nat.zero_add, Nat.reduceAdd, Nat.reduceSub, List.map_cons, List.map_nil, List.cons_append, List.nil_append, Option.map_some, Bool.not_true, Bool.not_false, sz0, sz1, sz2, sz3, sz4, sz5, sz6, sz9, sz10, sz12]) (by omega) (by omega)
    obtain ⟨o', acc, e, A, q2, q3, q4, q5, q6, q7, q8⟩ := lcN_ind (g := (CT.one 5).g) (t := tYesD) (el := SK.e2 pMod (eCB bInt (aCons (SK.e2 pAdd (SK.e2 pAdd (eVar 4) (eC (.int 1))) (eCall f__law_take (aCons (eVar 0) (aCons (SK.e2 pSub (eVar 2) (eC (.int 1))) aNil)))) aNil)) (eVar 2)) (vs := [5]) hr
      (fun rest acc o => ∃ A : List Int, rest.length + A.length = 2 ∧ acc = A.map D.int ∧ (∀ x ∈ A, x ≠ a) ∧ o[o2.length]? = some (.lst acc) ∧ GN ns n o ∧ Fr [n] oh o ∧ o[o1.length]? = some (.lst [.int a]))
      ⟨[], by simp, rfl, fun x hx => (by cases hx), get_new _ _, g2.fr (Fr.app [] _ _) (by simp) (by simp), f2.trans (Fr.app _ _ _), Up.app _ _ _ _ n2⟩
      (fun d r acc o ⟨A, q2, q3, q4, q5, q6, q7, q8⟩ => by
        obtain ⟨v, o3, t3, v0, v1, g3, f3⟩ := take_n (top := C - 1) q6 (by omega) (by omega)
        have hne : (a + 1 + v) % C ≠ a := by
          rcases (by omega : C = 2 ∨ C = 3 ∨ C = 4) with rfl | rfl | rfl <;> omega
        refine ⟨[some (.ref n), some (hdD N W C "others"), some (.int C), some (.str "others"), some (.int a), some d], o, rfl, true, o, rfl, .inr ⟨rfl, .int ((a + 1 + v) % C), o3, ?_, f3.at (by simp; omega) q5, ?_, A ++ [(a + 1 + v) % C], ?_, ?_, ?_, ?_, ?_, ?_, ?_⟩⟩
        · simp only [z_seq, z_set, z_if, z_asg, z_par, z_expr, z_ret, z_retn, z_skip, z_nx, z_rt, z_sok, z_bok, z_tb, z_tru, z_and, z_or, z_not, z_eif, z_e1, z_e2, z_lf, z_var, z_c, z_ch, z_sub, z_lt, z_le, z_gt, z_ge, z_add, z_neg, z_eqi, z_nei, z_eqs, z_nes, z_nil, z_cons, z_notv, z_tup, z_lst, z_cb, z_int, z_intb, z_max, z_min, z_abs, z_itt, z_call, z_gn, z_gnil, z_gcons, z_gtt, z_gttt, z_gsub, z_gsubd, z_ival, z_yes, z_onone, z_osome, z_sl, z_k0, List.getElem?_cons_succ, List.getElem?_cons_zero, List.set_cons_succ, List.set_cons_zero, eq_self, if_true, Bool.false_eq_true, if_false, List.length_cons, List.length_nil, Nat.zero_add, Nat.reduceAdd, Nat.reduceSub, List.map_cons, List.map_nil, List.cons_append, List.nil_append, Option.map_some, Bool.not_true, Bool.not_false, sz0, sz1, sz2, sz3, sz4, sz5, sz6, sz9, sz10, sz12, t3, z_mod (show 0 < C by omega)]
        · rw [q3, List.length_map]
          exact size_lt (by rw [List.length_cons] at q2; omega)
        · rw [List.length_cons] at q2
          simp
          omega
        · rw [q3, List.map_append]
          rfl
        · intro x hx
          rcases List.mem_append.mp hx with hx | hx
          · exact q4 x hx
          · rw [List.mem_singleton] at hx
            rw [hx]
            exact hne
        · exact get_set (f3.at (by simp; omega) q5)
        · exact g3.fr (Fr.set (S := [o2.length]) (by simp)) (by simp; omega) (by simp; omega)
        · have f5 : Fr [o2.length, n] o3 (o3.set o2.length (.lst (acc ++ [.int ((a + 1 + v) % C)]))) := SK.Fr.set (by simp)
          have f4 := q7.trans f3
          exact ⟨Nat.le_trans f4.1 f5.1, fun k c hk hc => f5.2 k c (by
            have := lt_of_get hc
            simp only [List.mem_cons, List.not_mem_nil, or_false] at hk ⊢
            omega) (f4.2 k c hk hc)⟩
        · rw [List.getElem?_set_ne (by omega)]
          exact f3.at (by simp; omega) q8)
    have h2 : A.length = 2 := by simpa using q2
    match A, h2 with
    | [b, c], _ =>
      rw [q3] at q5
      have pa := z_addl (oh := o') (a := o1.length) (b := o2.length) q8 q5 (by simp [sz3])
      refine ⟨a, b, c, o' ++ [.lst ([.int a] ++ [b, c].map D.int)], fn_ret (s := [some (.ref n), some (hdD N W C "others"), none, none, none, none]) rfl ?_, .inr (.inr ⟨rfl, q4 b (by simp)⟩), .inr (.inr ⟨rfl, q4 c (by simp)⟩), q6.fr (Fr.app [] _ _) (by simp) (by simp), q7.trans (Fr.app _ _ _)⟩
      have bt : bTuple [.ref o'.length] (o' ++ [.lst ([.int a] ++ [b, c].map D.int)]) = some (.tup [.int a, .int b, .int c], o' ++ [.lst ([.int a] ++ [b, c].map D.int)]) := by
        unfold bTuple
        dsimp only
        rw [z_itl (get_new _ _)]
        rfl
      unfold m__law_three_coats
      simp only [List.map_cons, List.map_nil, List.cons_append, List.nil_append] at pa bt
      simp only [z_seq, z_set, z_if, z_asg, z_par, z_expr, z_ret, z_retn, z_skip, z_nx, z_rt, z_sok, z_bok, z_tb, z_tru, z_and, z_or, z_not, z_eif, z_e1, z_e2, z_lf, z_var, z_c, z_ch, z_sub, z_lt, z_le, z_gt, z_ge, z_add, z_neg, z_eqi, z_nei, z_eqs, z_nes, z_nil, z_cons, z_notv, z_tup, z_lst, z_cb, z_int, z_intb, z_max, z_min, z_abs, z_itt, z_call, z_gn, z_gnil, z_gcons, z_gtt, z_gttt, z_gsub, z_gsubd, z_ival, z_yes, z_onone, z_osome, z_sl, z_k0, List.getElem?_cons_succ, List.getElem?_cons_zero, List.set_cons_succ, List.set_cons_zero, eq_self, if_true, Bool.false_eq_true, if_false, List.length_cons, List.length_nil, Nat.zero_add, Nat.reduceAdd, Nat.reduceSub, List.map_cons, List.map_nil, List.cons_append, List.nil_append, Option.map_some, Bool.not_true, Bool.not_false, sz0, sz1, sz2, sz3, sz4, sz5, sz6, sz9, sz10, sz12, x2, x3, q1, decide_eq_false (show ¬ (("others" : Str) = "own") by decide), ← ho2, e, pa, bt, decide_true]
  · refine ⟨a, a, a, o1, fn_ret (s := [some (.ref n), some (hdD N W C "own"), none, none, none, none]) rfl ?_, .inr (.inl ⟨rfl, rfl⟩), .inr (.inl ⟨rfl, rfl⟩), g1, f1⟩
    unfold m__law_three_coats
    simp only [z_seq, z_set, z_if, z_asg, z_par, z_expr, z_ret, z_retn, z_skip, z_nx, z_rt, z_sok, z_bok, z_tb, z_tru, z_and, z_or, z_not, z_eif, z_e1, z_e2, z_lf, z_var, z_c, z_ch, z_sub, z_lt, z_le, z_gt, z_ge, z_add, z_neg, z_eqi, z_nei, z_eqs, z_nes, z_nil, z_cons, z_notv, z_tup, z_lst, z_cb, z_int, z_intb, z_max, z_min, z_abs, z_itt, z_call, z_gn, z_gnil, z_gcons, z_gtt, z_gttt, z_gsub, z_gsubd, z_ival, z_yes, z_onone, z_osome, z_sl, z_k0, List.getElem?_cons_succ, List.getElem?_cons_zero, List.set_cons_succ, List.set_cons_zero, eq_self, if_true, Bool.false_eq_true, if_false, List.length_cons, List.length_nil, Nat.zero_add, Nat.reduceAdd, Nat.reduceSub, List.map_cons, List.map_nil, List.cons_append, List.nil_append, Option.map_some, Bool.not_true, Bool.not_false, sz0, sz1, sz2, sz3, sz4, sz5, sz6, sz9, sz10, sz12, x2, x3, q1]
    simp only [decide_true, if_true]
    simp only [z_seq, z_set, z_if, z_asg, z_par, z_expr, z_ret, z_retn, z_skip, z_nx, z_rt, z_sok, z_bok, z_tb, z_tru, z_and, z_or, z_not, z_eif, z_e1, z_e2, z_lf, z_var, z_c, z_ch, z_sub, z_lt, z_le, z_gt, z_ge, z_add, z_neg, z_eqi, z_nei, z_eqs, z_nes, z_nil, z_cons, z_notv, z_tup, z_lst, z_cb, z_int, z_intb, z_max, z_min, z_abs, z_itt, z_call, z_gn, z_gnil, z_gcons, z_gtt, z_gttt, z_gsub, z_gsubd, z_ival, z_yes, z_onone, z_osome, z_sl, z_k0, List.getElem?_cons_succ, List.getElem?_cons_zero, List.set_cons_succ, List.set_cons_zero, eq_self, if_true, Bool.false_eq_true, if_false, List.length_cons, List.length_nil, Nat.zero_add, Nat.reduceAdd, Nat.reduceSub, List.map_cons, List.map_nil, List.cons_append, List.nil_append, Option.map_some, Bool.not_true, Bool.not_false, sz0, sz1, sz2, sz3, sz4, sz5, sz6, sz9, sz10, sz12]
end Wk
namespace Wk
open PySem PySem.Spec PyProof.Rows L2 SKX SK LamX TZ
theorem cnt_b : ((List.range 6).all fun n => (List.range n).all fun a => (List.range n).all fun b => (List.range n).all fun c => a == b || a == c || b == c || ((List.range n).filter fun i => decide (i = a ∨ i = b ∨ i = c)).length == 3) = true := by decide +kernel
theorem cnt_all {n a b c : Nat} (hn : n < 6) (ha : a < n) (hb : b < n) (hc : c < n) (ab : a ≠ b) (ac : a ≠ c) (bc : b ≠ c) : ((List.range n).filter fun i => decide (i = a ∨ i = b ∨ i = c)).length = 3 := by
  have h1 := List.all_eq_true.mp cnt_b n (List.mem_range.mpr hn)
  have h2 := List.all_eq_true.mp h1 a (List.mem_range.mpr ha)
  have h3 := List.all_eq_true.mp h2 b (List.mem_range.mpr hb)
  have h4 := List.all_eq_true.mp h3 c (List.mem_range.mpr hc)
  simp only [Bool.or_eq_true, beq_iff_eq] at h4
  rcases h4 with ((h4 | h4) | h4) | h4
  · exact absurd h4 ab
  · exact absurd h4 ac
  · exact absurd h4 bc
  · exact h4
/-- the places of a deed: unlike ones -/
structure Pl (N u v w : Int) : Prop where
  u0 : 0 ≤ u
  u1 : u < N
  v0 : 0 ≤ v
  v1 : v < N
  w0 : 0 ≤ w
  w1 : w < N
  uv : u ≠ v
  uw : u ≠ w
  vw : v ≠ w
theorem cnt3 {N u v w : Int} (h : Pl N u v w) (n5 : N ≤ 5) : ((((List.range N.toNat).map fun (i : Nat) => D.int (0 + (i : Int))).filter fun d => match d with | .int p => decide (p ∈ [u, v, w]) | _ => false).map fun d => d).length = 3 := by
  obtain ⟨u0, u1, v0, v1, w0, w1, uv, uw, vw⟩ := h
  rw [List.length_map, List.filter_map, List.length_map]
  have e : ((fun d => match d with | .int p => decide (p ∈ [u, v, w]) | _ => false) ∘ fun (i : Nat) => D.int (0 + (i : Int))) = fun i => decide (i = u.toNat ∨ i = v.toNat ∨ i = w.toNat) := by
    funext i
    show decide ((0 + (i : Int)) ∈ [u, v, w]) = _
    simp only [List.mem_cons, List.not_mem_nil, or_false]
    exact decide_eq_decide.mpr (by omega)
  rw [e]
  exact cnt_all (by omega) (by omega) (by omega) (by omega) (by omega) (by omega) (by omega)
theorem z_in3 {p u v w : Int} {o : OH} : pIn (.int p) (.tup [.int u, .int v, .int w]) o = some (.bl (decide (p ∈ [u, v, w])), o) := rfl
theorem wk5_ok {m r q : Nat} {N W C u v l c w out oc many turns : Int} {rule : Str} {dd : D} {o : OH} (hp : Pl N u v w) (n5 : N ≤ 5) (m1 : 1 ≤ many) (t1 : 1 ≤ turns) (t2 : turns < 10 ^ 40) : ∃ o', wk5 [some (.ref m), some (hdD N W C rule), some dd, some (.int N), some (.int W), some (.int C), some (.str rule), some (.int u), some (.int v), some (.int l), some (.int c), some (.int w), some (.int out), some (.int oc), some (.ref r), some (.ref q), some (.int many), some (.int turns), none, none, none, none, none, none] o = .nx [some (.ref m), some (hdD N W C rule), some dd, some (.int N), some (.int W), some (.int C), some (.str rule), some (.int u), some (.int v), some (.int l), some (.int c), some (.int w), some (.int out), some (.int oc), some (.ref r), some (.ref q), some (.int many), some (.int turns), none, none, none, none, none, none] o' ∧ Up o o' := by
  have p0 := hp.u0; have p1 := hp.u1
  have hr := z_r1 (ms := aCons (eVar 3) aNil) (s := [some (.ref m), some (hdD N W C rule), some dd, some (.int N), some (.int W), some (.int C), some (.str rule), some (.int u), some (.int v), some (.int l), some (.int c), some (.int w), some (.int out), some (.int oc), some (.ref r), some (.ref q), some (.int many), some (.int turns), none, none, none, none, none, none]) (oh := o) (oh' := o) (j := N) (by simp only [z_seq, z_set, z_if, z_asg, z_par, z_expr, z_ret, z_retn, z_skip, z_nx, z_rt, z_sok, z_bok, z_tb, z_tru, z_and, z_or, z_not, z_eif, z_e1, z_e2, z_lf, z_var, z_c, z_ch, z_sub, z_lt, z_le, z_gt, z_ge, z_add, z_neg, z_eqi, z_nei, z_eqs, z_nes, z_nil, z_cons, z_notv, z_tup, z_lst, z_cb, z_int, z_intb, z_max, z_min, z_abs, z_itt, z_call, z_gn, z_gnil, z_gcons, z_gtt, z_gttt, z_gsub, z_gsubd, z_ival, z_yes, z_onone, z_osome, z_sl, z_k0, List.getElem?_cons_succ, List.getElem?_cons_zero, List.set_cons_succ, List.set_cons_zero, eq_self, if_true, Bool.false_eq_true, if_false, List.length_cons, List.length_nil, Nat.zero_add, Nat.reduceAdd, Nat.reduceSub, List.map_cons, List.map_nil, List.cons_append, List.nil_append, Option.map_some, Bool.not_true, Bool.not_false, sz0, sz1, sz2, sz3, sz4, sz5, sz6, sz9, sz10, sz12]) (by omega) (by omega)
  obtain ⟨o', e, up, hn⟩ := lcN_pure (g := (CT.one 19).g) (t := tB1 (SK.e2 pIn (eVar 19) (eTup (aCons (eVar 7) (aCons (eVar 8) (aCons (eVar 11) aNil)))))) (el := eVar 19) (vs := [19]) (fun d => match d with | .int p => decide (p ∈ [u, v, w]) | _ => false) (fun d => d) hr (by omega)
    (fun i hi o2 up2 => ⟨([some (.ref m), some (hdD N W C rule), some dd, some (.int N), some (.int W), some (.int C), some (.str rule), some (.int u), some (.int v), some (.int l), some (.int c), some (.int w), some (.int out), some (.int oc), some (.ref r), some (.ref q), some (.int many), some (.int turns), none, none, none, none, none, none] : Ev).set 19 (some (.int (0 + (i : Int)))), rfl, by simp only [z_seq, z_set, z_if, z_asg, z_par, z_expr, z_ret, z_retn, z_skip, z_nx, z_rt, z_sok, z_bok, z_tb, z_tru, z_and, z_or, z_not, z_eif, z_e1, z_e2, z_lf, z_var, z_c, z_ch, z_sub, z_lt, z_le, z_gt, z_ge, z_add, z_neg, z_eqi, z_nei, z_eqs, z_nes, z_nil, z_cons, z_notv, z_tup, z_lst, z_cb, z_int, z_intb, z_max, z_min, z_abs, z_itt, z_call, z_gn, z_gnil, z_gcons, z_gtt, z_gttt, z_gsub, z_gsubd, z_ival, z_yes, z_onone, z_osome, z_sl, z_k0, List.getElem?_cons_succ, List.getElem?_cons_zero, List.set_cons_succ, List.set_cons_zero, eq_self, if_true, Bool.false_eq_true, if_false, List.length_cons, List.length_nil, Nat.zero_add, Nat.reduceAdd, Nat.reduceSub, List.map_cons, List.map_nil, List.cons_append, List.nil_append, Option.map_some, Bool.not_true, Bool.not_false, sz0, sz1, sz2, sz3, sz4, sz5, sz6, sz9, sz10, sz12, z_in3], fun _ => by simp only [z_seq, z_set, z_if, z_asg, z_par, z_expr, z_ret, z_retn, z_skip, z_nx, z_rt, z_sok, z_bok, z_tb, z_tru, z_and, z_or, z_not, z_eif, z_e1, z_e2, z_lf, z_var, z_c, z_ch, z_sub, z_lt, z_le, z_gt, z_ge, z_add, z_neg, z_eqi, z_nei, z_eqs, z_nes, z_nil, z_cons, z_notv, z_tup, z_lst, z_cb, z_int, z_intb, z_max, z_min, z_abs, z_itt, z_call, z_gn, z_gnil, z_gcons, z_gtt, z_gttt, z_gsub, z_gsubd, z_ival, z_yes, z_onone, z_osome, z_sl, z_k0, List.getElem?_cons_succ, List.getElem?_cons_zero, List.set_cons_succ, List.set_cons_zero, eq_self, if_true, Bool.false_eq_true, if_false, List.length_cons, List.length_nil, Nat.zero_add, Nat.reduceAdd, Nat.reduceSub, List.map_cons, List.map_nil, List.cons_append, List.nil_append, Option.map_some, Bool.not_true, Bool.not_false, sz0, sz1, sz2, sz3, sz4, sz5, sz6, sz9, sz10, sz12]⟩)
  refine ⟨o', ?_, up⟩
  have bl : bLen [.ref o.length] o' = some (.int 3, o') := by
    rw [z_len (z_itl hn), cnt3 hp n5]
    rfl
  have pw : pPow (.int 10) (.int 40) o' = some (.int (10 ^ 40), o') := rfl
  unfold wk5
  simp only [z_seq, z_set, z_if, z_asg, z_par, z_expr, z_ret, z_retn, z_skip, z_nx, z_rt, z_sok, z_bok, z_tb, z_tru, z_and, z_or, z_not, z_eif, z_e1, z_e2, z_lf, z_var, z_c, z_ch, z_sub, z_lt, z_le, z_gt, z_ge, z_add, z_neg, z_eqi, z_nei, z_eqs, z_nes, z_nil, z_cons, z_notv, z_tup, z_lst, z_cb, z_int, z_intb, z_max, z_min, z_abs, z_itt, z_call, z_gn, z_gnil, z_gcons, z_gtt, z_gttt, z_gsub, z_gsubd, z_ival, z_yes, z_onone, z_osome, z_sl, z_k0, List.getElem?_cons_succ, List.getElem?_cons_zero, List.set_cons_succ, List.set_cons_zero, eq_self, if_true, Bool.false_eq_true, if_false, List.length_cons, List.length_nil, Nat.zero_add, Nat.reduceAdd, Nat.reduceSub, List.map_cons, List.map_nil, List.cons_append, List.nil_append, Option.map_some, Bool.not_true, Bool.not_false, sz0, sz1, sz2, sz3, sz4, sz5, sz6, sz9, sz10, sz12, e, bl, decide_eq_false (show ¬ many < 1 by omega), decide_eq_true t1, pw]
  simp only [decide_true, Bool.not_true, Bool.false_eq_true, if_false, z_sok, z_bok]
  rw [decide_eq_true t2]
  rfl
theorem any_no {α : Type} {o : OH} {k : Nat} {l : List α} (h : o[k]? = some (.lst (l.map fun _ => D.bl false))) : bAny [.ref k] o = some (.bl false, o) := by
  unfold bAny
  dsimp only
  rw [z_itl h]
  dsimp only
  rw [toBls_const, Option.map_some, any_const]
theorem wk6_ok {m r q : Nat} {N W C u v l c w out oc many turns : Int} {rule : Str} {dd : D} {o : OH} {rails : List (List Int)} {lens : List Int} (hr : Rule rule) (w0 : 0 ≤ W) (hq : o[q]? = some (.lst (lens.map D.int))) (hq2 : lens.length ≤ 10) (hl : ∀ x ∈ lens, x % W = x) (hra : o[r]? = some (.lst (rails.map tupI))) (hra2 : rails.length ≤ 10) (h3 : ∀ k ∈ rails, ∃ y, k[3]? = some y ∧ LetZ rule c y) : ∃ o', wk6 [some (.ref m), some (hdD N W C rule), some dd, some (.int N), some (.int W), some (.int C), some (.str rule), some (.int u), some (.int v), some (.int l), some (.int c), some (.int w), some (.int out), some (.int oc), some (.ref r), some (.ref q), some (.int many), some (.int turns), none, none, none, none, none, none] o = .nx [some (.ref m), some (hdD N W C rule), some dd, some (.int N), some (.int W), some (.int C), some (.str rule), some (.int u), some (.int v), some (.int l), some (.int c), some (.int w), some (.int out), some (.int oc), some (.ref r), some (.ref q), some (.int many), some (.int turns), none, none, none, none, none, none] o' ∧ Up o o' := by
  obtain ⟨o1, e, up, hn⟩ := lcR_pure (mi := iVal (eVar 15)) (g := (CT.one 20).g) (t := tYesD) (el := SK.e2 pNe (eCall f__law_rest (aCons (eVar 20) (aCons (eVar 4) aNil))) (eVar 20)) (vs := [20]) (s := [some (.ref m), some (hdD N W C rule), some dd, some (.int N), some (.int W), some (.int C), some (.str rule), some (.int u), some (.int v), some (.int l), some (.int c), some (.int w), some (.int out), some (.int oc), some (.ref r), some (.ref q), some (.int many), some (.int turns), none, none, none, none, none, none]) (oh := o) (oh1 := o)
    (fun _ => true) (fun _ => .bl false) (by simp only [z_seq, z_set, z_if, z_asg, z_par, z_expr, z_ret, z_retn, z_skip, z_nx, z_rt, z_sok, z_bok, z_tb, z_tru, z_and, z_or, z_not, z_eif, z_e1, z_e2, z_lf, z_var, z_c, z_ch, z_sub, z_lt, z_le, z_gt, z_ge, z_add, z_neg, z_eqi, z_nei, z_eqs, z_nes, z_nil, z_cons, z_notv, z_tup, z_lst, z_cb, z_int, z_intb, z_max, z_min, z_abs, z_itt, z_call, z_gn, z_gnil, z_gcons, z_gtt, z_gttt, z_gsub, z_gsubd, z_ival, z_yes, z_onone, z_osome, z_sl, z_k0, List.getElem?_cons_succ, List.getElem?_cons_zero, List.set_cons_succ, List.set_cons_zero, eq_self, if_true, Bool.false_eq_true, if_false, List.length_cons, List.length_nil, Nat.zero_add, Nat.reduceAdd, Nat.reduceSub, List.map_cons, List.map_nil, List.cons_append, List.nil_append, Option.map_some, Bool.not_true, Bool.not_false, sz0, sz1, sz2, sz3, sz4, sz5, sz6, sz9, sz10, sz12]) (z_itl hq) (by rw [List.length_map]; omega) (fun d hd o2 up2 => by
      obtain ⟨x, hx, rfl⟩ := List.mem_map.mp hd
      refine ⟨([some (.ref m), some (hdD N W C rule), some dd, some (.int N), some (.int W), some (.int C), some (.str rule), some (.int u), some (.int v), some (.int l), some (.int c), some (.int w), some (.int out), some (.int oc), some (.ref r), some (.ref q), some (.int many), some (.int turns), none, none, none, none, none, none] : Ev).set 20 (some (.int x)), rfl, rfl, fun _ => ?_⟩
      simp only [z_seq, z_set, z_if, z_asg, z_par, z_expr, z_ret, z_retn, z_skip, z_nx, z_rt, z_sok, z_bok, z_tb, z_tru, z_and, z_or, z_not, z_eif, z_e1, z_e2, z_lf, z_var, z_c, z_ch, z_sub, z_lt, z_le, z_gt, z_ge, z_add, z_neg, z_eqi, z_nei, z_eqs, z_nes, z_nil, z_cons, z_notv, z_tup, z_lst, z_cb, z_int, z_intb, z_max, z_min, z_abs, z_itt, z_call, z_gn, z_gnil, z_gcons, z_gtt, z_gttt, z_gsub, z_gsubd, z_ival, z_yes, z_onone, z_osome, z_sl, z_k0, List.getElem?_cons_succ, List.getElem?_cons_zero, List.set_cons_succ, List.set_cons_zero, eq_self, if_true, Bool.false_eq_true, if_false, List.length_cons, List.length_nil, Nat.zero_add, Nat.reduceAdd, Nat.reduceSub, List.map_cons, List.map_nil, List.cons_append, List.nil_append, Option.map_some, Bool.not_true, Bool.not_false, sz0, sz1, sz2, sz3, sz4, sz5, sz6, sz9, sz10, sz12, rest_ok w0, hl x hx]
      simp)
  have et : ((lens.map D.int).filter fun _ => true).map (fun _ => D.bl false) = lens.map fun _ => D.bl false := by
    rw [List.filter_eq_self.mpr (fun _ _ => rfl), List.map_map]
    rfl
  rw [et] at hn
  obtain ⟨o2, e2', f2⟩ := lets_f (oh := o1) (c := c) hr (up _ _ hra) (by omega) h3
  refine ⟨o2, ?_, up.trans f2.up⟩
  unfold wk6
  simp only [z_seq, z_set, z_if, z_asg, z_par, z_expr, z_ret, z_retn, z_skip, z_nx, z_rt, z_sok, z_bok, z_tb, z_tru, z_and, z_or, z_not, z_eif, z_e1, z_e2, z_lf, z_var, z_c, z_ch, z_sub, z_lt, z_le, z_gt, z_ge, z_add, z_neg, z_eqi, z_nei, z_eqs, z_nes, z_nil, z_cons, z_notv, z_tup, z_lst, z_cb, z_int, z_intb, z_max, z_min, z_abs, z_itt, z_call, z_gn, z_gnil, z_gcons, z_gtt, z_gttt, z_gsub, z_gsubd, z_ival, z_yes, z_onone, z_osome, z_sl, z_k0, List.getElem?_cons_succ, List.getElem?_cons_zero, List.set_cons_succ, List.set_cons_zero, eq_self, if_true, Bool.false_eq_true, if_false, List.length_cons, List.length_nil, Nat.zero_add, Nat.reduceAdd, Nat.reduceSub, List.map_cons, List.map_nil, List.cons_append, List.nil_append, Option.map_some, Bool.not_true, Bool.not_false, sz0, sz1, sz2, sz3, sz4, sz5, sz6, sz9, sz10, sz12, e, any_no hn, truD, e2']
theorem wk7_ok {m r q : Nat} {N W C u v l c w out oc many turns : Int} {rule : Str} {dd : D} {o : OH} {M : CM} {rails : List (List Int)} (w0 : 0 ≤ W) (hm : o[m]? = some (cD M)) (hra : o[r]? = some (.lst (rails.map tupI))) (hra2 : rails.length ≤ 10) (h3 : ∀ k ∈ rails, ∃ a b x y, k = [a, b, x, y] ∧ 1 ≤ cget M (laidZ a b x y W)) : ∃ o', wk7 [some (.ref m), some (hdD N W C rule), some dd, some (.int N), some (.int W), some (.int C), some (.str rule), some (.int u), some (.int v), some (.int l), some (.int c), some (.int w), some (.int out), some (.int oc), some (.ref r), some (.ref q), some (.int many), some (.int turns), none, none, none, none, none, none] o = .nx [some (.ref m), some (hdD N W C rule), some dd, some (.int N), some (.int W), some (.int C), some (.str rule), some (.int u), some (.int v), some (.int l), some (.int c), some (.int w), some (.int out), some (.int oc), some (.ref r), some (.ref q), some (.int many), some (.int turns), none, none, none, none, none, none] o' ∧ Up o o' := by
  obtain ⟨o1, e, up, hn⟩ := lcR_pure (mi := iVal (eVar 14)) (g := (CT.many [21, 22, 20, 23]).g) (t := tYesD) (el := SK.e2 pLt (eDGet2 (eVar 0) (eCall f__law_laid (aCons (eVar 21) (aCons (eVar 22) (aCons (eVar 20) (aCons (eVar 23) (aCons (eVar 4) aNil)))))) (eC (.int 0))) (eC (.int 1))) (vs := [21, 22, 20, 23]) (s := [some (.ref m), some (hdD N W C rule), some dd, some (.int N), some (.int W), some (.int C), some (.str rule), some (.int u), some (.int v), some (.int l), some (.int c), some (.int w), some (.int out), some (.int oc), some (.ref r), some (.ref q), some (.int many), some (.int turns), none, none, none, none, none, none]) (oh := o) (oh1 := o)
    (fun _ => true) (fun _ => .bl false) (by simp only [z_seq, z_set, z_if, z_asg, z_par, z_expr, z_ret, z_retn, z_skip, z_nx, z_rt, z_sok, z_bok, z_tb, z_tru, z_and, z_or, z_not, z_eif, z_e1, z_e2, z_lf, z_var, z_c, z_ch, z_sub, z_lt, z_le, z_gt, z_ge, z_add, z_neg, z_eqi, z_nei, z_eqs, z_nes, z_nil, z_cons, z_notv, z_tup, z_lst, z_cb, z_int, z_intb, z_max, z_min, z_abs, z_itt, z_call, z_gn, z_gnil, z_gcons, z_gtt, z_gttt, z_gsub, z_gsubd, z_ival, z_yes, z_onone, z_osome, z_sl, z_k0, List.getElem?_cons_succ, List.getElem?_cons_zero, List.set_cons_succ, List.set_cons_zero, eq_self, if_true, Bool.false_eq_true, if_false, List.length_cons, List.length_nil, Nat.zero_add, Nat.reduceAdd, Nat.reduceSub, List.map_cons, List.map_nil, List.cons_append, List.nil_append, Option.map_some, Bool.not_true, Bool.not_false, sz0, sz1, sz2, sz3, sz4, sz5, sz6, sz9, sz10, sz12]) (z_itl hra) (by rw [List.length_map]; omega) (fun d hd o2 up2 => by
      obtain ⟨k, hk, rfl⟩ := List.mem_map.mp hd
      obtain ⟨a, b, x, y, rfl, hc⟩ := h3 k hk
      refine ⟨((((([some (.ref m), some (hdD N W C rule), some dd, some (.int N), some (.int W), some (.int C), some (.str rule), some (.int u), some (.int v), some (.int l), some (.int c), some (.int w), some (.int out), some (.int oc), some (.ref r), some (.ref q), some (.int many), some (.int turns), none, none, none, none, none, none] : Ev).set 21 (some (.int a))).set 22 (some (.int b))).set 20 (some (.int x))).set 23 (some (.int y))), rfl, rfl, fun _ => ?_⟩
      have hg := z_dget0 (s := ((((([some (.ref m), some (hdD N W C rule), some dd, some (.int N), some (.int W), some (.int C), some (.str rule), some (.int u), some (.int v), some (.int l), some (.int c), some (.int w), some (.int out), some (.int oc), some (.ref r), some (.ref q), some (.int many), some (.int turns), none, none, none, none, none, none] : Ev).set 21 (some (.int a))).set 22 (some (.int b))).set 20 (some (.int x))).set 23 (some (.int y)))) (mo := eVar 0) (mk := eCall f__law_laid (aCons (eVar 21) (aCons (eVar 22) (aCons (eVar 20) (aCons (eVar 23) (aCons (eVar 4) aNil)))))) (m := m) (oh := o2) (oh1 := o2) (k := laidZ a b x y W) (by simp only [z_seq, z_set, z_if, z_asg, z_par, z_expr, z_ret, z_retn, z_skip, z_nx, z_rt, z_sok, z_bok, z_tb, z_tru, z_and, z_or, z_not, z_eif, z_e1, z_e2, z_lf, z_var, z_c, z_ch, z_sub, z_lt, z_le, z_gt, z_ge, z_add, z_neg, z_eqi, z_nei, z_eqs, z_nes, z_nil, z_cons, z_notv, z_tup, z_lst, z_cb, z_int, z_intb, z_max, z_min, z_abs, z_itt, z_call, z_gn, z_gnil, z_gcons, z_gtt, z_gttt, z_gsub, z_gsubd, z_ival, z_yes, z_onone, z_osome, z_sl, z_k0, List.getElem?_cons_succ, List.getElem?_cons_zero, List.set_cons_succ, List.set_cons_zero, eq_self, if_true, Bool.false_eq_true, if_false, List.length_cons, List.length_nil, Nat.zero_add, Nat.reduceAdd, Nat.reduceSub, List.map_cons, List.map_nil, List.cons_append, List.nil_append, Option.map_some, Bool.not_true, Bool.not_false, sz0, sz1, sz2, sz3, sz4, sz5, sz6, sz9, sz10, sz12]) (up2 _ _ hm) (by simp only [z_seq, z_set, z_if, z_asg, z_par, z_expr, z_ret, z_retn, z_skip, z_nx, z_rt, z_sok, z_bok, z_tb, z_tru, z_and, z_or, z_not, z_eif, z_e1, z_e2, z_lf, z_var, z_c, z_ch, z_sub, z_lt, z_le, z_gt, z_ge, z_add, z_neg, z_eqi, z_nei, z_eqs, z_nes, z_nil, z_cons, z_notv, z_tup, z_lst, z_cb, z_int, z_intb, z_max, z_min, z_abs, z_itt, z_call, z_gn, z_gnil, z_gcons, z_gtt, z_gttt, z_gsub, z_gsubd, z_ival, z_yes, z_onone, z_osome, z_sl, z_k0, List.getElem?_cons_succ, List.getElem?_cons_zero, List.set_cons_succ, List.set_cons_zero, eq_self, if_true, Bool.false_eq_true, if_false, List.length_cons, List.length_nil, Nat.zero_add, Nat.reduceAdd, Nat.reduceSub, List.map_cons, List.map_nil, List.cons_append, List.nil_append, Option.map_some, Bool.not_true, Bool.not_false, sz0, sz1, sz2, sz3, sz4, sz5, sz6, sz9, sz10, sz12, laid_ok w0]) (up2 _ _ hm)
      rw [z_e2, hg]
      simp only [z_seq, z_set, z_if, z_asg, z_par, z_expr, z_ret, z_retn, z_skip, z_nx, z_rt, z_sok, z_bok, z_tb, z_tru, z_and, z_or, z_not, z_eif, z_e1, z_e2, z_lf, z_var, z_c, z_ch, z_sub, z_lt, z_le, z_gt, z_ge, z_add, z_neg, z_eqi, z_nei, z_eqs, z_nes, z_nil, z_cons, z_notv, z_tup, z_lst, z_cb, z_int, z_intb, z_max, z_min, z_abs, z_itt, z_call, z_gn, z_gnil, z_gcons, z_gtt, z_gttt, z_gsub, z_gsubd, z_ival, z_yes, z_onone, z_osome, z_sl, z_k0, List.getElem?_cons_succ, List.getElem?_cons_zero, List.set_cons_succ, List.set_cons_zero, eq_self, if_true, Bool.false_eq_true, if_false, List.length_cons, List.length_nil, Nat.zero_add, Nat.reduceAdd, Nat.reduceSub, List.map_cons, List.map_nil, List.cons_append, List.nil_append, Option.map_some, Bool.not_true, Bool.not_false, sz0, sz1, sz2, sz3, sz4, sz5, sz6, sz9, sz10, sz12, decide_eq_false (show ¬ cget M (laidZ a b x y W) < 1 by omega)])
  have et : ((rails.map tupI).filter fun _ => true).map (fun _ => D.bl false) = rails.map fun _ => D.bl false := by
    rw [List.filter_eq_self.mpr (fun _ _ => rfl), List.map_map]
    rfl
  rw [et] at hn
  refine ⟨o1, ?_, up⟩
  unfold wk7
  simp only [z_seq, z_set, z_if, z_asg, z_par, z_expr, z_ret, z_retn, z_skip, z_nx, z_rt, z_sok, z_bok, z_tb, z_tru, z_and, z_or, z_not, z_eif, z_e1, z_e2, z_lf, z_var, z_c, z_ch, z_sub, z_lt, z_le, z_gt, z_ge, z_add, z_neg, z_eqi, z_nei, z_eqs, z_nes, z_nil, z_cons, z_notv, z_tup, z_lst, z_cb, z_int, z_intb, z_max, z_min, z_abs, z_itt, z_call, z_gn, z_gnil, z_gcons, z_gtt, z_gttt, z_gsub, z_gsubd, z_ival, z_yes, z_onone, z_osome, z_sl, z_k0, List.getElem?_cons_succ, List.getElem?_cons_zero, List.set_cons_succ, List.set_cons_zero, eq_self, if_true, Bool.false_eq_true, if_false, List.length_cons, List.length_nil, Nat.zero_add, Nat.reduceAdd, Nat.reduceSub, List.map_cons, List.map_nil, List.cons_append, List.nil_append, Option.map_some, Bool.not_true, Bool.not_false, sz0, sz1, sz2, sz3, sz4, sz5, sz6, sz9, sz10, sz12, e, any_no hn, truD]
theorem walk_tail {m r q : Nat} {N W C u v l c w out oc many turns : Int} {rule : Str} {dd : D} {o : OH} {M : CM} {n : Nat} {rails : List (List Int)} {lens : List Int} {rest : SM} (hd : Hd N W C rule) (hr : Rule rule) (hp : Pl N u v w) (ok : OkM M n) (hn : n ≤ 50) (hm : o[m]? = some (cD M)) (m1 : 1 ≤ many) (t1 : 1 ≤ turns) (t2 : turns < 10 ^ 40)
    (hq : o[q]? = some (.lst (lens.map D.int))) (hq2 : lens.length ≤ 10) (hl : ∀ x ∈ lens, x % W = x) (hra : o[r]? = some (.lst (rails.map tupI))) (hra2 : rails.length ≤ 10) (h3 : ∀ k ∈ rails, ∃ a b x y, k = [a, b, x, y] ∧ LetZ rule c y ∧ 1 ≤ cget M (laidZ a b x y W)) (hold : many ≤ cget M (laidZ u v l c W)) :
    ∃ o', (sSeq wk5 (sSeq wk6 (sSeq wk7 (sSeq wk8 (sSeq wk9 (sSeq wk10 rest)))))) [some (.ref m), some (hdD N W C rule), some dd, some (.int N), some (.int W), some (.int C), some (.str rule), some (.int u), some (.int v), some (.int l), some (.int c), some (.int w), some (.int out), some (.int oc), some (.ref r), some (.ref q), some (.int many), some (.int turns), none, none, none, none, none, none] o = rest [some (.ref m), some (hdD N W C rule), some dd, some (.int N), some (.int W), some (.int C), some (.str rule), some (.int u), some (.int v), some (.int l), some (.int c), some (.int w), some (.int out), some (.int oc), some (.ref r), some (.ref q), some (.int many), some (.int turns), some (tupI (laidZ u v l c W)), none, none, none, none, none] o' ∧ o'[m]? = some (cD (cadd M (laidZ u v l c W) (-many))) ∧ Fr [m] o o' := by
  have w0 := hd.w0
  obtain ⟨o1, e5, u1⟩ := wk5_ok (o := o) (m := m) (r := r) (q := q) (W := W) (C := C) (l := l) (c := c) (out := out) (oc := oc) (rule := rule) (dd := dd) hp hd.n5 m1 t1 t2
  obtain ⟨o2, e6, u2⟩ := wk6_ok (o := o1) (m := m) (r := r) (q := q) (N := N) (W := W) (C := C) (u := u) (v := v) (l := l) (c := c) (w := w) (out := out) (oc := oc) (many := many) (turns := turns) (dd := dd) hr w0 (u1 _ _ hq) hq2 hl (u1 _ _ hra) hra2 (fun k hk => by
    obtain ⟨a, b, x, y, rfl, hy, _⟩ := h3 k hk
    exact ⟨y, rfl, hy⟩)
  have u12 := u1.trans u2
  obtain ⟨o3, e7, u3⟩ := wk7_ok (o := o2) (m := m) (r := r) (q := q) (N := N) (W := W) (C := C) (u := u) (v := v) (l := l) (c := c) (w := w) (out := out) (oc := oc) (many := many) (turns := turns) (rule := rule) (dd := dd) w0 (u12 _ _ hm) (u12 _ _ hra) hra2 (fun k hk => by
    obtain ⟨a, b, x, y, rfl, _, hc⟩ := h3 k hk
    exact ⟨a, b, x, y, rfl, hc⟩)
  have u13 := u12.trans u3
  have hm3 := u13 _ _ hm
  have hg := z_dget0 (s := [some (.ref m), some (hdD N W C rule), some dd, some (.int N), some (.int W), some (.int C), some (.str rule), some (.int u), some (.int v), some (.int l), some (.int c), some (.int w), some (.int out), some (.int oc), some (.ref r), some (.ref q), some (.int many), some (.int turns), some (tupI (laidZ u v l c W)), none, none, none, none, none]) (mo := eVar 0) (mk := eVar 18) (m := m) (oh := o3) (oh1 := o3) (k := laidZ u v l c W) (by simp only [z_seq, z_set, z_if, z_asg, z_par, z_expr, z_ret, z_retn, z_skip, z_nx, z_rt, z_sok, z_bok, z_tb, z_tru, z_and, z_or, z_not, z_eif, z_e1, z_e2, z_lf, z_var, z_c, z_ch, z_sub, z_lt, z_le, z_gt, z_ge, z_add, z_neg, z_eqi, z_nei, z_eqs, z_nes, z_nil, z_cons, z_notv, z_tup, z_lst, z_cb, z_int, z_intb, z_max, z_min, z_abs, z_itt, z_call, z_gn, z_gnil, z_gcons, z_gtt, z_gttt, z_gsub, z_gsubd, z_ival, z_yes, z_onone, z_osome, z_sl, z_k0, List.getElem?_cons_succ, List.getElem?_cons_zero, List.set_cons_succ, List.set_cons_zero, eq_self, if_true, Bool.false_eq_true, if_false, List.length_cons, List.length_nil, Nat.zero_add, Nat.reduceAdd, Nat.reduceSub, List.map_cons, List.map_nil, List.cons_append, List.nil_append, Option.map_some, Bool.not_true, Bool.not_false, sz0, sz1, sz2, sz3, sz4, sz5, sz6, sz9, sz10, sz12]) hm3 (by simp only [z_seq, z_set, z_if, z_asg, z_par, z_expr, z_ret, z_retn, z_skip, z_nx, z_rt, z_sok, z_bok, z_tb, z_tru, z_and, z_or, z_not, z_eif, z_e1, z_e2, z_lf, z_var, z_c, z_ch, z_sub, z_lt, z_le, z_gt, z_ge, z_add, z_neg, z_eqi, z_nei, z_eqs, z_nes, z_nil, z_cons, z_notv, z_tup, z_lst, z_cb, z_int, z_intb, z_max, z_min, z_abs, z_itt, z_call, z_gn, z_gnil, z_gcons, z_gtt, z_gttt, z_gsub, z_gsubd, z_ival, z_yes, z_onone, z_osome, z_sl, z_k0, List.getElem?_cons_succ, List.getElem?_cons_zero, List.set_cons_succ, List.set_cons_zero, eq_self, if_true, Bool.false_eq_true, if_false, List.length_cons, List.length_nil, Nat.zero_add, Nat.reduceAdd, Nat.reduceSub, List.map_cons, List.map_nil, List.cons_append, List.nil_append, Option.map_some, Bool.not_true, Bool.not_false, sz0, sz1, sz2, sz3, sz4, sz5, sz6, sz9, sz10, sz12]) hm3
  have hHas : cHas M (laidZ u v l c W) = true := cHas_pos (by omega)
  refine ⟨o3.set m (cD (cadd M (laidZ u v l c W) (-many))), ?_, get_set hm3, u13.fr.trans (Fr.set (by simp))⟩
  rw [z_seq, e5, z_nx, z_seq, e6, z_nx, z_seq, e7, z_nx]
  have e8 : wk8 [some (.ref m), some (hdD N W C rule), some dd, some (.int N), some (.int W), some (.int C), some (.str rule), some (.int u), some (.int v), some (.int l), some (.int c), some (.int w), some (.int out), some (.int oc), some (.ref r), some (.ref q), some (.int many), some (.int turns), none, none, none, none, none, none] o3 = .nx [some (.ref m), some (hdD N W C rule), some dd, some (.int N), some (.int W), some (.int C), some (.str rule), some (.int u), some (.int v), some (.int l), some (.int c), some (.int w), some (.int out), some (.int oc), some (.ref r), some (.ref q), some (.int many), some (.int turns), some (tupI (laidZ u v l c W)), none, none, none, none, none] o3 := by
    unfold wk8
    simp only [z_seq, z_set, z_if, z_asg, z_par, z_expr, z_ret, z_retn, z_skip, z_nx, z_rt, z_sok, z_bok, z_tb, z_tru, z_and, z_or, z_not, z_eif, z_e1, z_e2, z_lf, z_var, z_c, z_ch, z_sub, z_lt, z_le, z_gt, z_ge, z_add, z_neg, z_eqi, z_nei, z_eqs, z_nes, z_nil, z_cons, z_notv, z_tup, z_lst, z_cb, z_int, z_intb, z_max, z_min, z_abs, z_itt, z_call, z_gn, z_gnil, z_gcons, z_gtt, z_gttt, z_gsub, z_gsubd, z_ival, z_yes, z_onone, z_osome, z_sl, z_k0, List.getElem?_cons_succ, List.getElem?_cons_zero, List.set_cons_succ, List.set_cons_zero, eq_self, if_true, Bool.false_eq_true, if_false, List.length_cons, List.length_nil, Nat.zero_add, Nat.reduceAdd, Nat.reduceSub, List.map_cons, List.map_nil, List.cons_append, List.nil_append, Option.map_some, Bool.not_true, Bool.not_false, sz0, sz1, sz2, sz3, sz4, sz5, sz6, sz9, sz10, sz12, laid_ok w0]
  have e9 : wk9 [some (.ref m), some (hdD N W C rule), some dd, some (.int N), some (.int W), some (.int C), some (.str rule), some (.int u), some (.int v), some (.int l), some (.int c), some (.int w), some (.int out), some (.int oc), some (.ref r), some (.ref q), some (.int many), some (.int turns), some (tupI (laidZ u v l c W)), none, none, none, none, none] o3 = .nx [some (.ref m), some (hdD N W C rule), some dd, some (.int N), some (.int W), some (.int C), some (.str rule), some (.int u), some (.int v), some (.int l), some (.int c), some (.int w), some (.int out), some (.int oc), some (.ref r), some (.ref q), some (.int many), some (.int turns), some (tupI (laidZ u v l c W)), none, none, none, none, none] o3 := by
    unfold wk9
    simp only [z_seq, z_set, z_if, z_asg, z_par, z_expr, z_ret, z_retn, z_skip, z_nx, z_rt, z_sok, z_bok, z_tb, z_tru, z_and, z_or, z_not, z_eif, z_e1, z_e2, z_lf, z_var, z_c, z_ch, z_sub, z_lt, z_le, z_gt, z_ge, z_add, z_neg, z_eqi, z_nei, z_eqs, z_nes, z_nil, z_cons, z_notv, z_tup, z_lst, z_cb, z_int, z_intb, z_max, z_min, z_abs, z_itt, z_call, z_gn, z_gnil, z_gcons, z_gtt, z_gttt, z_gsub, z_gsubd, z_ival, z_yes, z_onone, z_osome, z_sl, z_k0, List.getElem?_cons_succ, List.getElem?_cons_zero, List.set_cons_succ, List.set_cons_zero, eq_self, if_true, Bool.false_eq_true, if_false, List.length_cons, List.length_nil, Nat.zero_add, Nat.reduceAdd, Nat.reduceSub, List.map_cons, List.map_nil, List.cons_append, List.nil_append, Option.map_some, Bool.not_true, Bool.not_false, sz0, sz1, sz2, sz3, sz4, sz5, sz6, sz9, sz10, sz12, hg, decide_eq_false (show ¬ cget M (laidZ u v l c W) < many by omega)]
  have e10 : wk10 [some (.ref m), some (hdD N W C rule), some dd, some (.int N), some (.int W), some (.int C), some (.str rule), some (.int u), some (.int v), some (.int l), some (.int c), some (.int w), some (.int out), some (.int oc), some (.ref r), some (.ref q), some (.int many), some (.int turns), some (tupI (laidZ u v l c W)), none, none, none, none, none] o3 = .nx [some (.ref m), some (hdD N W C rule), some dd, some (.int N), some (.int W), some (.int C), some (.str rule), some (.int u), some (.int v), some (.int l), some (.int c), some (.int w), some (.int out), some (.int oc), some (.ref r), some (.ref q), some (.int many), some (.int turns), some (tupI (laidZ u v l c W)), none, none, none, none, none] (o3.set m (cD (cadd M (laidZ u v l c W) (-many)))) := by
    unfold wk10
    simp only [z_seq, z_set, z_if, z_asg, z_par, z_expr, z_ret, z_retn, z_skip, z_nx, z_rt, z_sok, z_bok, z_tb, z_tru, z_and, z_or, z_not, z_eif, z_e1, z_e2, z_lf, z_var, z_c, z_ch, z_sub, z_lt, z_le, z_gt, z_ge, z_add, z_neg, z_eqi, z_nei, z_eqs, z_nes, z_nil, z_cons, z_notv, z_tup, z_lst, z_cb, z_int, z_intb, z_max, z_min, z_abs, z_itt, z_call, z_gn, z_gnil, z_gcons, z_gtt, z_gttt, z_gsub, z_gsubd, z_ival, z_yes, z_onone, z_osome, z_sl, z_k0, List.getElem?_cons_succ, List.getElem?_cons_zero, List.set_cons_succ, List.set_cons_zero, eq_self, if_true, Bool.false_eq_true, if_false, List.length_cons, List.length_nil, Nat.zero_add, Nat.reduceAdd, Nat.reduceSub, List.map_cons, List.map_nil, List.cons_append, List.nil_append, Option.map_some, Bool.not_true, Bool.not_false, sz0, sz1, sz2, sz3, sz4, sz5, sz6, sz9, sz10, sz12, z_dix hm3 hHas, z_setd hm3 ok.nd (size_lt (by have := ok.few; omega))]
    rw [show cget M (laidZ u v l c W) - many = cget M (laidZ u v l c W) + -many by omega]
    rfl
  rw [z_seq, e8, z_nx, z_seq, e9, z_nx, z_seq, e10, z_nx]
end Wk
namespace Wk
open PySem PySem.Spec PyProof.Rows L2 SKX SK LamX TZ
/-- a deed leads the counts M to M1 -/
def Leads (h d : D) (M M1 : CM) : Prop := ∀ (oh : OH) (m : Nat), oh[m]? = some (cD M) → ∃ oh', f__law_walk [.ref m, h, d] oh = .ok (.bl true) oh' ∧ oh'[m]? = some (cD M1) ∧ Fr [m] oh oh'
theorem walk_carry {N W C u v l c w out oc many : Int} {rule : Str} {M : CM} {n : Nat} (hd : Hd N W C rule) (hr : Rule rule) (hp : Pl N u v w) (ok : OkM M n) (hn : n ≤ 50) (m1 : 1 ≤ many) (hl : l % W = l) (ho : out % W = out) (hlet : LetZ rule c oc)
    (hrail : 1 ≤ cget M (laidZ v w out oc W)) (hold : many ≤ cget M (laidZ u v l c W)) : Leads (hdD N W C rule) (deedD "carry" [u, v, l, c, w, out, oc, many]) M (cadd (cadd M (laidZ u v l c W) (-many)) (laidZ u w (l + out) c W) many) := by
  intro oh m hm
  have w0 := hd.w0
  obtain ⟨dd, hdd⟩ : ∃ dd, dd = deedD "carry" [u, v, l, c, w, out, oc, many] := ⟨_, rfl⟩
  obtain ⟨o1, e1, f1⟩ := is_deed_f (word := "carry") (k := [u, v, l, c, w, out, oc, many]) oh (.inl ⟨rfl, rfl⟩)
  rw [← hdd] at e1
  have ps : ∀ o, pSl dd (some 1) (some 8) o = some (.tup [.int u, .int v, .int l, .int c, .int w, .int out, .int oc], o) := fun o => by rw [hdd]; rfl
  have px : ∀ o, pIx dd (.int 8) o = some (.int many, o) := fun o => by rw [hdd]; rfl
  have pl : ∀ o, bLen [dd] o = some (.int 9, o) := fun o => by rw [hdd]; rfl
  obtain ⟨o2, ho2⟩ : ∃ o2, o2 = o1 ++ [Cell.lst [.tup [.int v, .int w, .int out, .int oc]]] := ⟨_, rfl⟩
  obtain ⟨o3, ho3⟩ : ∃ o3, o3 = o2 ++ [Cell.lst [.int l, .int out]] := ⟨_, rfl⟩
  have pre : ∀ rest : SM, (sSeq wk0 (sSeq wk1 (sSeq wk2 (sSeq wk3 (sSeq wk4 rest))))) ([some (.ref m), some (hdD N W C rule), some dd] ++ List.replicate 21 none) oh = rest [some (.ref m), some (hdD N W C rule), some dd, some (.int N), some (.int W), some (.int C), some (.str rule), some (.int u), some (.int v), some (.int l), some (.int c), some (.int w), some (.int out), some (.int oc), some (.ref o1.length), some (.ref o2.length), some (.int many), some (.int 1), none, none, none, none, none, none] o3 := fun rest => by
    have er : List.replicate 21 (none : Option D) = [none, none, none, none, none, none, none, none, none, none, none, none, none, none, none, none, none, none, none, none, none] := rfl
    rw [er]
    unfold wk0 wk1 wk2 wk3 wk4 hdD
    have e1' := e1
    unfold hdD at *
    simp only [z_seq, z_set, z_if, z_asg, z_par, z_expr, z_ret, z_retn, z_skip, z_nx, z_rt, z_sok, z_bok, z_tb, z_tru, z_and, z_or, z_not, z_eif, z_e1, z_e2, z_lf, z_var, z_c, z_ch, z_sub, z_lt, z_le, z_gt, z_ge, z_add, z_neg, z_eqi, z_nei, z_eqs, z_nes, z_nil, z_cons, z_notv, z_tup, z_lst, z_cb, z_int, z_intb, z_max, z_min, z_abs, z_itt, z_call, z_gn, z_gnil, z_gcons, z_gtt, z_gttt, z_gsub, z_gsubd, z_ival, z_yes, z_onone, z_osome, z_sl, z_k0, List.getElem?_cons_succ, List.getElem?_cons_zero, List.set_cons_succ, List.set_cons_zero, eq_self, if_true, Bool.false_eq_true, if_false, List.length_cons, List.length_nil, Nat.zero_add, Nat.reduceAdd, Nat.reduceSub, List.map_cons, List.map_nil, List.cons_append, List.nil_append, Option.map_some, Bool.not_true, Bool.not_false, sz0, sz1, sz2, sz3, sz4, sz5, sz6, sz9, sz10, sz12, e1, truD, ps, px, pl, ← ho2, ← ho3]
    rfl
  have u3 : Up o1 o3 := by rw [ho3, ho2]; exact (Up.app _ _).trans (Up.app _ _)
  have f3 : Fr [m] oh o3 := (f1.mono (by simp)).trans u3.fr
  have hm3 : o3[m]? = some (cD M) := u3 _ _ (f1.at (by simp) hm)
  obtain ⟨o4, e4, h4, f4⟩ := walk_tail (rest := sSeq wk11 wk12) (o := o3) (m := m) (r := o1.length) (q := o2.length) (dd := dd) (u := u) (v := v) (w := w) (l := l) (c := c) (out := out) (oc := oc) (many := many) (turns := 1) (rails := [[v, w, out, oc]]) (lens := [l, out]) hd hr hp ok hn hm3 m1 (by omega) (by omega)
    (by rw [ho3]; exact get_new _ _) (by simp) (fun x hx => by
      simp only [List.mem_cons, List.not_mem_nil, or_false] at hx
      rcases hx with rfl | rfl
      · exact hl
      · exact ho) (by rw [ho3]; refine Up.app _ _ _ _ ?_; rw [ho2]; exact get_new _ _) (by simp) (fun k hk => by
      rw [List.mem_singleton] at hk
      exact ⟨v, w, out, oc, hk, hlet, hrail⟩) hold
  have ok4 : OkM (cadd M (laidZ u v l c W) (-many)) (n + 1) := okm_add ok (laid_len ..)
  have ha := add_ok (k := laidZ u w (l + out) c W) (c := many) h4 ok4.nd (by have := ok4.few; omega)
  refine ⟨o4.set m (cD (cadd (cadd M (laidZ u v l c W) (-many)) (laidZ u w (l + out) c W) many)), ?_, get_set h4, f3.trans (f4.trans (SK.Fr.set (by simp)))⟩
  rw [← hdd]
  refine fn_ret (s := [some (.ref m), some (hdD N W C rule), some dd] ++ List.replicate 21 none) rfl ?_
  rw [wk_eq]
  unfold wkall
  rw [pre, e4]
  unfold wk11 wk12
  simp only [z_seq, z_set, z_if, z_asg, z_par, z_expr, z_ret, z_retn, z_skip, z_nx, z_rt, z_sok, z_bok, z_tb, z_tru, z_and, z_or, z_not, z_eif, z_e1, z_e2, z_lf, z_var, z_c, z_ch, z_sub, z_lt, z_le, z_gt, z_ge, z_add, z_neg, z_eqi, z_nei, z_eqs, z_nes, z_nil, z_cons, z_notv, z_tup, z_lst, z_cb, z_int, z_intb, z_max, z_min, z_abs, z_itt, z_call, z_gn, z_gnil, z_gcons, z_gtt, z_gttt, z_gsub, z_gsubd, z_ival, z_yes, z_onone, z_osome, z_sl, z_k0, List.getElem?_cons_succ, List.getElem?_cons_zero, List.set_cons_succ, List.set_cons_zero, eq_self, if_true, Bool.false_eq_true, if_false, List.length_cons, List.length_nil, Nat.zero_add, Nat.reduceAdd, Nat.reduceSub, List.map_cons, List.map_nil, List.cons_append, List.nil_append, Option.map_some, Bool.not_true, Bool.not_false, sz0, sz1, sz2, sz3, sz4, sz5, sz6, sz9, sz10, sz12, pl, decide_true, laid_ok w0, ha]
theorem walk_round {N W C u v l c w out oc back bc many turns : Int} {rule : Str} {M : CM} {n : Nat} (hd : Hd N W C rule) (hr : Rule rule) (hp : Pl N u v w) (ok : OkM M n) (hn : n ≤ 50) (m1 : 1 ≤ many) (t1 : 1 ≤ turns) (t2 : turns < 10 ^ 40) (hl : l % W = l) (ho : out % W = out) (hb : back % W = back) (hlet : LetZ rule c oc) (hlet2 : LetZ rule c bc)
    (hrail : 1 ≤ cget M (laidZ v w out oc W)) (hrail2 : 1 ≤ cget M (laidZ w v back bc W)) (hold : many ≤ cget M (laidZ u v l c W)) (hmul : ∀ o, pMul (.int turns) (.int (out + back)) o = some (.int (turns * (out + back)), o)) : Leads (hdD N W C rule) (deedD "round" [u, v, l, c, w, out, oc, back, bc, many, turns]) M (cadd (cadd M (laidZ u v l c W) (-many)) (laidZ u v (l + turns * (out + back)) c W) many) := by
  intro oh m hm
  have w0 := hd.w0
  obtain ⟨dd, hdd⟩ : ∃ dd, dd = deedD "round" [u, v, l, c, w, out, oc, back, bc, many, turns] := ⟨_, rfl⟩
  obtain ⟨o1, e1, f1⟩ := is_deed_f (word := "round") (k := [u, v, l, c, w, out, oc, back, bc, many, turns]) oh (.inr ⟨rfl, rfl⟩)
  rw [← hdd] at e1
  have ps : ∀ o, pSl dd (some 1) (some 8) o = some (.tup [.int u, .int v, .int l, .int c, .int w, .int out, .int oc], o) := fun o => by rw [hdd]; rfl
  have px : ∀ o, pIx dd (.int 8) o = some (.int back, o) := fun o => by rw [hdd]; rfl
  have px9 : ∀ o, pIx dd (.int 9) o = some (.int bc, o) := fun o => by rw [hdd]; rfl
  have px10 : ∀ o, pIx dd (.int 10) o = some (.int many, o) := fun o => by rw [hdd]; rfl
  have px11 : ∀ o, pIx dd (.int 11) o = some (.int turns, o) := fun o => by rw [hdd]; rfl
  have pl : ∀ o, bLen [dd] o = some (.int 12, o) := fun o => by rw [hdd]; rfl
  obtain ⟨o2, ho2⟩ : ∃ o2, o2 = o1 ++ [Cell.lst [.tup [.int v, .int w, .int out, .int oc]]] := ⟨_, rfl⟩
  obtain ⟨o3, ho3⟩ : ∃ o3, o3 = o2 ++ [Cell.lst [.int l, .int out]] := ⟨_, rfl⟩
  obtain ⟨o4, ho4⟩ : ∃ o4, o4 = o3 ++ [Cell.lst [.tup [.int w, .int v, .int back, .int bc]]] := ⟨_, rfl⟩
  obtain ⟨o5, ho5⟩ : ∃ o5, o5 = o4 ++ [Cell.lst ([.tup [.int v, .int w, .int out, .int oc]] ++ [.tup [.int w, .int v, .int back, .int bc]])] := ⟨_, rfl⟩
  obtain ⟨o6, ho6⟩ : ∃ o6, o6 = o5 ++ [Cell.lst [.int back]] := ⟨_, rfl⟩
  obtain ⟨o7, ho7⟩ : ∃ o7, o7 = o6 ++ [Cell.lst ([.int l, .int out] ++ [.int back])] := ⟨_, rfl⟩
  have n2 : o2[o1.length]? = some (.lst [.tup [.int v, .int w, .int out, .int oc]]) := by rw [ho2]; exact get_new _ _
  have n3 : o3[o2.length]? = some (.lst [.int l, .int out]) := by rw [ho3]; exact get_new _ _
  have n4 : o4[o3.length]? = some (.lst [.tup [.int w, .int v, .int back, .int bc]]) := by rw [ho4]; exact get_new _ _
  have n6 : o6[o5.length]? = some (.lst [.int back]) := by rw [ho6]; exact get_new _ _
  have u23 : Up o2 o3 := by rw [ho3]; exact Up.app _ _
  have u34 : Up o3 o4 := by rw [ho4]; exact Up.app _ _
  have u45 : Up o4 o5 := by rw [ho5]; exact Up.app _ _
  have u56 : Up o5 o6 := by rw [ho6]; exact Up.app _ _
  have u67 : Up o6 o7 := by rw [ho7]; exact Up.app _ _
  have a1 := z_addl (oh := o4) (a := o1.length) (b := o3.length) (u34 _ _ (u23 _ _ n2)) n4 (by simp [sz2])
  have a2 := z_addl (oh := o6) (a := o2.length) (b := o5.length) (u56 _ _ (u45 _ _ (u34 _ _ n3))) n6 (by simp [sz3])
  rw [← ho5] at a1
  rw [← ho7] at a2
  have pre : ∀ rest : SM, (sSeq wk0 (sSeq wk1 (sSeq wk2 (sSeq wk3 (sSeq wk4 rest))))) ([some (.ref m), some (hdD N W C rule), some dd] ++ List.replicate 21 none) oh = rest [some (.ref m), some (hdD N W C rule), some dd, some (.int N), some (.int W), some (.int C), some (.str rule), some (.int u), some (.int v), some (.int l), some (.int c), some (.int w), some (.int out), some (.int oc), some (.ref o4.length), some (.ref o6.length), some (.int many), some (.int turns), none, none, none, none, none, none] o7 := fun rest => by
    have er : List.replicate 21 (none : Option D) = [none, none, none, none, none, none, none, none, none, none, none, none, none, none, none, none, none, none, none, none, none] := rfl
    rw [er]
    unfold wk0 wk1 wk2 wk3 wk4 hdD
    unfold hdD at *
    simp only [z_seq, z_set, z_if, z_asg, z_par, z_expr, z_ret, z_retn, z_skip, z_nx, z_rt, z_sok, z_bok, z_tb, z_tru, z_and, z_or, z_not, z_eif, z_e1, z_e2, z_lf, z_var, z_c, z_ch, z_sub, z_lt, z_le, z_gt, z_ge, z_add, z_neg, z_eqi, z_nei, z_eqs, z_nes, z_nil, z_cons, z_notv, z_tup, z_lst, z_cb, z_int, z_intb, z_max, z_min, z_abs, z_itt, z_call, z_gn, z_gnil, z_gcons, z_gtt, z_gttt, z_gsub, z_gsubd, z_ival, z_yes, z_onone, z_osome, z_sl, z_k0, List.getElem?_cons_succ, List.getElem?_cons_zero, List.set_cons_succ, List.set_cons_zero, eq_self, if_true, Bool.false_eq_true, if_false, List.length_cons, List.length_nil, Nat.zero_add, Nat.reduceAdd, Nat.reduceSub, List.map_cons, List.map_nil, List.cons_append, List.nil_append, Option.map_some, Bool.not_true, Bool.not_false, sz0, sz1, sz2, sz3, sz4, sz5, sz6, sz9, sz10, sz12, e1, truD, ps, px, px9, px10, px11, pl, ← ho2, ← ho3, ← ho4, decide_true, a1, ← ho6, a2]
  have u17 : Up o1 o7 := (show Up o1 o2 by rw [ho2]; exact Up.app _ _).trans (u23.trans (u34.trans (u45.trans (u56.trans u67))))
  have f3 : Fr [m] oh o7 := (f1.mono (by simp)).trans u17.fr
  have hm3 : o7[m]? = some (cD M) := u17 _ _ (f1.at (by simp) hm)
  obtain ⟨o8, e4, h4, f4⟩ := walk_tail (rest := sSeq wk11 wk12) (o := o7) (m := m) (r := o4.length) (q := o6.length) (dd := dd) (u := u) (v := v) (w := w) (l := l) (c := c) (out := out) (oc := oc) (many := many) (turns := turns) (rails := [[v, w, out, oc], [w, v, back, bc]]) (lens := [l, out, back]) hd hr hp ok hn hm3 m1 t1 t2
    (by rw [ho7]; exact get_new _ _) (by simp) (fun x hx => by
      simp only [List.mem_cons, List.not_mem_nil, or_false] at hx
      rcases hx with rfl | rfl | rfl
      · exact hl
      · exact ho
      · exact hb) (u67 _ _ (u56 _ _ (by rw [ho5]; exact get_new _ _))) (by simp) (fun k hk => by
      simp only [List.mem_cons, List.not_mem_nil, or_false] at hk
      rcases hk with rfl | rfl
      · exact ⟨v, w, out, oc, rfl, hlet, hrail⟩
      · exact ⟨w, v, back, bc, rfl, hlet2, hrail2⟩) hold
  have ok4 : OkM (cadd M (laidZ u v l c W) (-many)) (n + 1) := okm_add ok (laid_len ..)
  have ha := add_ok (k := laidZ u v (l + turns * (out + back)) c W) (c := many) h4 ok4.nd (by have := ok4.few; omega)
  refine ⟨o8.set m (cD (cadd (cadd M (laidZ u v l c W) (-many)) (laidZ u v (l + turns * (out + back)) c W) many)), ?_, get_set h4, f3.trans (f4.trans (SK.Fr.set (by simp)))⟩
  rw [← hdd]
  refine fn_ret (s := [some (.ref m), some (hdD N W C rule), some dd] ++ List.replicate 21 none) rfl ?_
  rw [wk_eq]
  unfold wkall
  rw [pre, e4]
  unfold wk11 wk12
  simp only [z_seq, z_set, z_if, z_asg, z_par, z_expr, z_ret, z_retn, z_skip, z_nx, z_rt, z_sok, z_bok, z_tb, z_tru, z_and, z_or, z_not, z_eif, z_e1, z_e2, z_lf, z_var, z_c, z_ch, z_sub, z_lt, z_le, z_gt, z_ge, z_add, z_neg, z_eqi, z_nei, z_eqs, z_nes, z_nil, z_cons, z_notv, z_tup, z_lst, z_cb, z_int, z_intb, z_max, z_min, z_abs, z_itt, z_call, z_gn, z_gnil, z_gcons, z_gtt, z_gttt, z_gsub, z_gsubd, z_ival, z_yes, z_onone, z_osome, z_sl, z_k0, List.getElem?_cons_succ, List.getElem?_cons_zero, List.set_cons_succ, List.set_cons_zero, eq_self, if_true, Bool.false_eq_true, if_false, List.length_cons, List.length_nil, Nat.zero_add, Nat.reduceAdd, Nat.reduceSub, List.map_cons, List.map_nil, List.cons_append, List.nil_append, Option.map_some, Bool.not_true, Bool.not_false, sz0, sz1, sz2, sz3, sz4, sz5, sz6, sz9, sz10, sz12, pl, px, decide_eq_false (show ¬ (12 : Int) = 9 by decide), laid_ok w0, hmul, ha]
/-- a run leads the counts -/
inductive Runs (h : D) : List D → CM → CM → Prop
  | nil {M : CM} : Runs h [] M M
  | cons {d : D} {ds : List D} {M M1 M2 : CM} : Leads h d M M1 → Runs h ds M1 M2 → Runs h (d :: ds) M M2
theorem led_loop {h : D} {body : SM} {ds : List D} {M M2 : CM} (R : Runs h ds M M2) {a b : Option D} {m : Nat} (hb : body = sIf (tNotD (tTru (eCall f__law_walk (aCons (eVar 3) (aCons (eVar 1) (aCons (eVar 4) aNil)))))) (sRet (eC .non)) sSkip) : ∀ (x y : Option D) (o : OH), o[m]? = some (cD M) → ∃ x' o', loopT (SK.gN 4) body ds [a, some h, b, some (.ref m), x, y] o = .nx [a, some h, b, some (.ref m), x', y] o' ∧ o'[m]? = some (cD M2) ∧ Fr [m] o o' := by
  subst hb
  induction R with
  | nil => exact fun x y o hm => ⟨x, o, rfl, hm, Fr.refl _ _⟩
  | @cons d ds M M1 M2 L R ih =>
    intro x y o hm
    obtain ⟨o1, e1, h1, f1⟩ := L o m hm
    obtain ⟨x', o2, e2', h2, f2⟩ := ih (some d) y o1 h1
    refine ⟨x', o2, ?_, h2, f1.trans f2⟩
    have : sIf (tNotD (tTru (eCall f__law_walk (aCons (eVar 3) (aCons (eVar 1) (aCons (eVar 4) aNil)))))) (sRet (eC .non)) sSkip [a, some h, b, some (.ref m), some d, y] o = .nx [a, some h, b, some (.ref m), some d, y] o1 := by
      simp only [z_seq, z_set, z_if, z_asg, z_par, z_expr, z_ret, z_retn, z_skip, z_nx, z_rt, z_sok, z_bok, z_tb, z_tru, z_and, z_or, z_not, z_eif, z_e1, z_e2, z_lf, z_var, z_c, z_ch, z_sub, z_lt, z_le, z_gt, z_ge, z_add, z_neg, z_eqi, z_nei, z_eqs, z_nes, z_nil, z_cons, z_notv, z_tup, z_lst, z_cb, z_int, z_intb, z_max, z_min, z_abs, z_itt, z_call, z_gn, z_gnil, z_gcons, z_gtt, z_gttt, z_gsub, z_gsubd, z_ival, z_yes, z_onone, z_osome, z_sl, z_k0, List.getElem?_cons_succ, List.getElem?_cons_zero, List.set_cons_succ, List.set_cons_zero, eq_self, if_true, Bool.false_eq_true, if_false, List.length_cons, List.length_nil, Nat.zero_add, Nat.reduceAdd, Nat.reduceSub, List.map_cons, List.map_nil, List.cons_append, List.nil_append, Option.map_some, Bool.not_true, Bool.not_false, sz0, sz1, sz2, sz3, sz4, sz5, sz6, sz9, sz10, sz12, e1, truD]
    simp only [loopT, z_gn, List.set_cons_succ, List.set_cons_zero, this]
    exact e2'
theorem led_f {h : D} {ds : List D} {M M2 : CM} {n m : Nat} {oh : OH} (ok : OkM M n) (hn : n ≤ 50) (hm : oh[m]? = some (cD M)) (R : Runs h ds M M2) : ∃ r oh', f__law_led [.ref m, h, .tup ds] oh = .ok (.ref r) oh' ∧ oh'[r]? = some (cD M2) ∧ Fr [] oh oh' := by
  obtain ⟨o1, e1, h1, f1⟩ := dcopy_ok (s := [some (.ref m), some h, some (.tup ds), none, none, none]) (i := 0) (j := 5) rfl (by decide) (by simp) hm ok.nd (by have := ok.few; omega)
  obtain ⟨x', o2, e2', h2, f2⟩ := led_loop R (a := some (.ref m)) (b := some (.tup ds)) rfl none none o1 h1
  have ht : eIsB "tuple" (eVar 2) [some (.ref m), some h, some (.tup ds), some (.ref (oh.length + 1)), none, none] o1 = .ok (.bl true) o1 := z_isB (d := .tup ds) (by simp only [z_seq, z_set, z_if, z_asg, z_par, z_expr, z_ret, z_retn, z_skip, z_nx, z_rt, z_sok, z_bok, z_tb, z_tru, z_and, z_or, z_not, z_eif, z_e1, z_e2, z_lf, z_var, z_c, z_ch, z_sub, z_lt, z_le, z_gt, z_ge, z_add, z_neg, z_eqi, z_nei, z_eqs, z_nes, z_nil, z_cons, z_notv, z_tup, z_lst, z_cb, z_int, z_intb, z_max, z_min, z_abs, z_itt, z_call, z_gn, z_gnil, z_gcons, z_gtt, z_gttt, z_gsub, z_gsubd, z_ival, z_yes, z_onone, z_osome, z_sl, z_k0, List.getElem?_cons_succ, List.getElem?_cons_zero, List.set_cons_succ, List.set_cons_zero, eq_self, if_true, Bool.false_eq_true, if_false, List.length_cons, List.length_nil, Nat.zero_add, Nat.reduceAdd, Nat.reduceSub, List.map_cons, List.map_nil, List.cons_append, List.nil_append, Option.map_some, Bool.not_true, Bool.not_false, sz0, sz1, sz2, sz3, sz4, sz5, sz6, sz9, sz10, sz12]) (is_tup o1 _)
  refine ⟨oh.length + 1, o2, fn_ret (s := [some (.ref m), some h, some (.tup ds), none, none, none]) rfl ?_, h2, ?_⟩
  · unfold m__law_led
    rw [z_seq, z_set, e1, z_sok, z_nx]
    simp only [z_seq, z_set, z_if, z_asg, z_par, z_expr, z_ret, z_retn, z_skip, z_nx, z_rt, z_sok, z_bok, z_tb, z_tru, z_and, z_or, z_not, z_eif, z_e1, z_e2, z_lf, z_var, z_c, z_ch, z_sub, z_lt, z_le, z_gt, z_ge, z_add, z_neg, z_eqi, z_nei, z_eqs, z_nes, z_nil, z_cons, z_notv, z_tup, z_lst, z_cb, z_int, z_intb, z_max, z_min, z_abs, z_itt, z_call, z_gn, z_gnil, z_gcons, z_gtt, z_gttt, z_gsub, z_gsubd, z_ival, z_yes, z_onone, z_osome, z_sl, z_k0, List.getElem?_cons_succ, List.getElem?_cons_zero, List.set_cons_succ, List.set_cons_zero, eq_self, if_true, Bool.false_eq_true, if_false, List.length_cons, List.length_nil, Nat.zero_add, Nat.reduceAdd, Nat.reduceSub, List.map_cons, List.map_nil, List.cons_append, List.nil_append, Option.map_some, Bool.not_true, Bool.not_false, sz0, sz1, sz2, sz3, sz4, sz5, sz6, sz9, sz10, sz12, ht, truD]
    rw [z_for]
    simp only [z_seq, z_set, z_if, z_asg, z_par, z_expr, z_ret, z_retn, z_skip, z_nx, z_rt, z_sok, z_bok, z_tb, z_tru, z_and, z_or, z_not, z_eif, z_e1, z_e2, z_lf, z_var, z_c, z_ch, z_sub, z_lt, z_le, z_gt, z_ge, z_add, z_neg, z_eqi, z_nei, z_eqs, z_nes, z_nil, z_cons, z_notv, z_tup, z_lst, z_cb, z_int, z_intb, z_max, z_min, z_abs, z_itt, z_call, z_gn, z_gnil, z_gcons, z_gtt, z_gttt, z_gsub, z_gsubd, z_ival, z_yes, z_onone, z_osome, z_sl, z_k0, List.getElem?_cons_succ, List.getElem?_cons_zero, List.set_cons_succ, List.set_cons_zero, eq_self, if_true, Bool.false_eq_true, if_false, List.length_cons, List.length_nil, Nat.zero_add, Nat.reduceAdd, Nat.reduceSub, List.map_cons, List.map_nil, List.cons_append, List.nil_append, Option.map_some, Bool.not_true, Bool.not_false, sz0, sz1, sz2, sz3, sz4, sz5, sz6, sz9, sz10, sz12]
    rw [e2']
    simp only [z_seq, z_set, z_if, z_asg, z_par, z_expr, z_ret, z_retn, z_skip, z_nx, z_rt, z_sok, z_bok, z_tb, z_tru, z_and, z_or, z_not, z_eif, z_e1, z_e2, z_lf, z_var, z_c, z_ch, z_sub, z_lt, z_le, z_gt, z_ge, z_add, z_neg, z_eqi, z_nei, z_eqs, z_nes, z_nil, z_cons, z_notv, z_tup, z_lst, z_cb, z_int, z_intb, z_max, z_min, z_abs, z_itt, z_call, z_gn, z_gnil, z_gcons, z_gtt, z_gttt, z_gsub, z_gsubd, z_ival, z_yes, z_onone, z_osome, z_sl, z_k0, List.getElem?_cons_succ, List.getElem?_cons_zero, List.set_cons_succ, List.set_cons_zero, eq_self, if_true, Bool.false_eq_true, if_false, List.length_cons, List.length_nil, Nat.zero_add, Nat.reduceAdd, Nat.reduceSub, List.map_cons, List.map_nil, List.cons_append, List.nil_append, Option.map_some, Bool.not_true, Bool.not_false, sz0, sz1, sz2, sz3, sz4, sz5, sz6, sz9, sz10, sz12]
  · exact ⟨Nat.le_trans f1.1 f2.1, fun k c hk hc => f2.2 k c (by
      have := lt_of_get hc
      simp
      omega) (f1.2 k c hk hc)⟩
end Wk
namespace Wk
open PySem PySem.Spec PyProof.Rows L2 SKX SK LamX TZ
/-! ### lengths by a wheel -/
def Cg (w a b : Int) : Prop := ∃ q, a = b + w * q
theorem Cg.refl (w a : Int) : Cg w a a := ⟨0, by simp⟩
theorem Cg.of_eq {w a b : Int} (h : a = b) : Cg w a b := by rw [h]; exact Cg.refl _ _
theorem Cg.symm {w a b : Int} : Cg w a b → Cg w b a := fun ⟨q, h⟩ => ⟨-q, by rw [h, Int.mul_neg]; omega⟩
theorem Cg.trans {w a b c : Int} : Cg w a b → Cg w b c → Cg w a c := fun ⟨q, h⟩ ⟨p, g⟩ => ⟨p + q, by rw [h, g, Int.mul_add]; omega⟩
theorem Cg.add {w a b c d : Int} : Cg w a b → Cg w c d → Cg w (a + c) (b + d) := fun ⟨q, h⟩ ⟨p, g⟩ => ⟨q + p, by rw [h, g, Int.mul_add]; omega⟩
theorem Cg.neg {w a b : Int} : Cg w a b → Cg w (-a) (-b) := fun ⟨q, h⟩ => ⟨-q, by rw [h, Int.mul_neg]; omega⟩
theorem Cg.sub {w a b c d : Int} (h : Cg w a b) (g : Cg w c d) : Cg w (a - c) (b - d) := by
  rw [Int.sub_eq_add_neg, Int.sub_eq_add_neg]
  exact h.add g.neg
theorem Cg.mul {w a b : Int} (t : Int) : Cg w a b → Cg w (t * a) (t * b) := fun ⟨q, h⟩ => ⟨t * q, by rw [h, Int.mul_add, Int.mul_left_comm]⟩
theorem Cg.mod (w a : Int) : Cg w (a % w) a := ⟨-(a / w), by rw [Int.emod_def, Int.mul_neg]; omega⟩
theorem Cg.emod {w a b : Int} : Cg w a b → a % w = b % w := fun ⟨q, h⟩ => by rw [h, Int.add_mul_emod_self_left]
theorem laid_cg {u v l l' c w : Int} (h : Cg w l l') : laidZ u v l c w = laidZ u v l' c w := by
  unfold laidZ
  rw [h.emod, h.neg.emod]
theorem laid_flip {u v l c w : Int} (h : u ≠ v) : laidZ u v l c w = laidZ v u (-l) c w := by
  unfold laidZ
  by_cases h1 : u < v
  · rw [if_pos h1, if_neg (by omega), Int.neg_neg]
  · rw [if_neg h1, if_pos (by omega)]
theorem mod_mod (a w : Int) : a % w % w = a % w := (Cg.mod w a).emod
theorem z_gtr {k r : Nat} {gs : GMs} {s : Ev} {oh : OH} {l : List D} (h : itemsOf oh (.ref r) = some l) : gT k gs (.ref r) s oh = if l.length = k then gs l s oh else none := by
  unfold gT
  dsimp only
  rw [h]
/-- a new empty dict -/
theorem dnewB {oh : OH} : bDict [.ref oh.length] (oh ++ [.lst []]) = some (.ref (oh.length + 1), oh ++ [.lst []] ++ [cD []]) := by
  unfold bDict
  dsimp only
  rw [z_itl (get_new _ _)]
  show some (D.ref (oh ++ [Cell.lst []]).length, _) = _
  rw [List.length_append]
  rfl
theorem dnew_ok {s : Ev} {oh : OH} : eCB bDict (aCons (eLst aNil) aNil) s oh = .ok (.ref (oh.length + 1)) (oh ++ [.lst []] ++ [cD []]) := by
  have h : bDict [.ref oh.length] (oh ++ [.lst []]) = some (.ref (oh.length + 1), oh ++ [.lst []] ++ [cD []]) := by
    unfold bDict
    dsimp only
    rw [z_itl (get_new _ _)]
    show some (D.ref (oh ++ [Cell.lst []]).length, _) = _
    rw [List.length_append]
    rfl
  simp only [z_seq, z_set, z_if, z_asg, z_par, z_expr, z_ret, z_retn, z_skip, z_nx, z_rt, z_sok, z_bok, z_tb, z_tru, z_and, z_or, z_not, z_eif, z_e1, z_e2, z_lf, z_var, z_c, z_ch, z_sub, z_lt, z_le, z_gt, z_ge, z_add, z_neg, z_eqi, z_nei, z_eqs, z_nes, z_nil, z_cons, z_notv, z_tup, z_lst, z_cb, z_int, z_intb, z_max, z_min, z_abs, z_itt, z_call, z_gn, z_gnil, z_gcons, z_gtt, z_gttt, z_gsub, z_gsubd, z_ival, z_yes, z_onone, z_osome, z_sl, z_k0, List.getElem?_cons_succ, List.getElem?_cons_zero, List.set_cons_succ, List.set_cons_zero, eq_self, if_true, Bool.false_eq_true, if_false, List.length_cons, List.length_nil, Nat.zero_add, Nat.reduceAdd, Nat.reduceSub, List.map_cons, List.map_nil, List.cons_append, List.nil_append, Option.map_some, Bool.not_true, Bool.not_false, sz0, sz1, sz2, sz3, sz4, sz5, sz6, sz9, sz10, sz12, h]
theorem b_if {p : Prop} [Decidable p] : (0 : Int) ≤ (if p then 1 else 0) ∧ (if p then (1 : Int) else 0) ≤ 1 := by split <;> omega
theorem neg_if {p : Prop} [Decidable p] {a : Int} : (if p then -a else 0) = -(if p then a else (0 : Int)) := by split <;> omega
end Wk
namespace Wk
open PySem PySem.Spec PyProof.Rows L2 SKX SK LamX TZ
theorem z_callk {g : Fn} {ix : List Nat} {ms mk : Ev → M (List D)} {s : Ev} {oh : OH} : eCallK g ix ms mk s oh = (ms s oh).bnd fun ds oh => (mk s oh).bnd fun zs oh => g (sel ix (ds ++ zs)) oh := nrfl
theorem z_k0d {g : Fn} {ix : List Nat} {dl : List D} {mk : Ev → M (List D)} {s : Ev} {oh : OH} : eCallK0D g ix dl mk s oh = (mk s oh).bnd fun zs oh => g (sel ix zs ++ dl) oh := nrfl
theorem z_calld {g : Fn} {dl : List D} {ms : Ev → M (List D)} {s : Ev} {oh : OH} : eCallD g dl ms s oh = (ms s oh).bnd fun ds oh => g (ds ++ dl) oh := nrfl
theorem z_par3 {i j l : Nat} {ms : Ev → M (List D)} {s : Ev} {oh : OH} : sPar3 i j l ms s oh = (ms s oh).st s fun ds oh => match ds with
  | [d, d', d2] => .nx (((s.set i (some d)).set j (some d')).set l (some d2)) oh
  | _ => .bad := nrfl
/-! ### the package -/
theorem prest_ok {x w : Int} (h0 : 0 ≤ w) (h1 : w ≤ 1000000) (oh : OH) : f_rest [.int x, .int w] oh = .ok (.int (x % w)) oh := by
  have e1 : f_want_wheel [.int w] oh = .ok .non oh := by
    refine fn_nx (s := [some (.int w)]) (s2 := [some (.int w)]) rfl ?_
    unfold m_want_wheel
    simp only [z_seq, z_set, z_if, z_asg, z_par, z_expr, z_ret, z_retn, z_skip, z_nx, z_rt, z_sok, z_bok, z_tb, z_tru, z_and, z_or, z_not, z_eif, z_e1, z_e2, z_lf, z_var, z_c, z_ch, z_sub, z_lt, z_le, z_gt, z_ge, z_add, z_neg, z_eqi, z_nei, z_eqs, z_nes, z_nil, z_cons, z_notv, z_tup, z_lst, z_cb, z_int, z_intb, z_max, z_min, z_abs, z_itt, z_call, z_gn, z_gnil, z_gcons, z_gtt, z_gttt, z_gsub, z_gsubd, z_ival, z_yes, z_onone, z_osome, z_sl, z_k0, List.getElem?_cons_succ, List.getElem?_cons_zero, List.set_cons_succ, List.set_cons_zero, eq_self, if_true, Bool.false_eq_true, if_false, List.length_cons, List.length_nil, Nat.zero_add, Nat.reduceAdd, Nat.reduceSub, List.map_cons, List.map_nil, List.cons_append, List.nil_append, Option.map_some, Bool.not_true, Bool.not_false, sz0, sz1, sz2, sz3, sz4, sz5, sz6, sz9, sz10, sz12, decide_eq_true h0, decide_eq_true h1]
  have e2 : f_left [.int x, .int w] oh = .ok (.int (x % w)) oh := by
    refine fn_ret (s := [some (.int x), some (.int w)]) rfl ?_
    unfold m_left
    by_cases h : w = 0
    · subst h
      simp only [z_seq, z_set, z_if, z_asg, z_par, z_expr, z_ret, z_retn, z_skip, z_nx, z_rt, z_sok, z_bok, z_tb, z_tru, z_and, z_or, z_not, z_eif, z_e1, z_e2, z_lf, z_var, z_c, z_ch, z_sub, z_lt, z_le, z_gt, z_ge, z_add, z_neg, z_eqi, z_nei, z_eqs, z_nes, z_nil, z_cons, z_notv, z_tup, z_lst, z_cb, z_int, z_intb, z_max, z_min, z_abs, z_itt, z_call, z_gn, z_gnil, z_gcons, z_gtt, z_gttt, z_gsub, z_gsubd, z_ival, z_yes, z_onone, z_osome, z_sl, z_k0, List.getElem?_cons_succ, List.getElem?_cons_zero, List.set_cons_succ, List.set_cons_zero, eq_self, if_true, Bool.false_eq_true, if_false, List.length_cons, List.length_nil, Nat.zero_add, Nat.reduceAdd, Nat.reduceSub, List.map_cons, List.map_nil, List.cons_append, List.nil_append, Option.map_some, Bool.not_true, Bool.not_false, sz0, sz1, sz2, sz3, sz4, sz5, sz6, sz9, sz10, sz12, decide_true, Int.emod_zero]
    · simp only [z_seq, z_set, z_if, z_asg, z_par, z_expr, z_ret, z_retn, z_skip, z_nx, z_rt, z_sok, z_bok, z_tb, z_tru, z_and, z_or, z_not, z_eif, z_e1, z_e2, z_lf, z_var, z_c, z_ch, z_sub, z_lt, z_le, z_gt, z_ge, z_add, z_neg, z_eqi, z_nei, z_eqs, z_nes, z_nil, z_cons, z_notv, z_tup, z_lst, z_cb, z_int, z_intb, z_max, z_min, z_abs, z_itt, z_call, z_gn, z_gnil, z_gcons, z_gtt, z_gttt, z_gsub, z_gsubd, z_ival, z_yes, z_onone, z_osome, z_sl, z_k0, List.getElem?_cons_succ, List.getElem?_cons_zero, List.set_cons_succ, List.set_cons_zero, eq_self, if_true, Bool.false_eq_true, if_false, List.length_cons, List.length_nil, Nat.zero_add, Nat.reduceAdd, Nat.reduceSub, List.map_cons, List.map_nil, List.cons_append, List.nil_append, Option.map_some, Bool.not_true, Bool.not_false, sz0, sz1, sz2, sz3, sz4, sz5, sz6, sz9, sz10, sz12, decide_eq_false h, z_mod (show 0 < w by omega)]
  refine fn_ret (s := [some (.int x), some (.int w)]) rfl ?_
  unfold m_rest
  simp only [z_seq, z_set, z_if, z_asg, z_par, z_expr, z_ret, z_retn, z_skip, z_nx, z_rt, z_sok, z_bok, z_tb, z_tru, z_and, z_or, z_not, z_eif, z_e1, z_e2, z_lf, z_var, z_c, z_ch, z_sub, z_lt, z_le, z_gt, z_ge, z_add, z_neg, z_eqi, z_nei, z_eqs, z_nes, z_nil, z_cons, z_notv, z_tup, z_lst, z_cb, z_int, z_intb, z_max, z_min, z_abs, z_itt, z_call, z_gn, z_gnil, z_gcons, z_gtt, z_gttt, z_gsub, z_gsubd, z_ival, z_yes, z_onone, z_osome, z_sl, z_k0, List.getElem?_cons_succ, List.getElem?_cons_zero, List.set_cons_succ, List.set_cons_zero, eq_self, if_true, Bool.false_eq_true, if_false, List.length_cons, List.length_nil, Nat.zero_add, Nat.reduceAdd, Nat.reduceSub, List.map_cons, List.map_nil, List.cons_append, List.nil_append, Option.map_some, Bool.not_true, Bool.not_false, sz0, sz1, sz2, sz3, sz4, sz5, sz6, sz9, sz10, sz12, e1, e2]
theorem laid_ne {u v v' l l' c c' w : Int} (h : u ≠ v) (h' : u ≠ v') (hv : v ≠ v') : laidZ u v l c w ≠ laidZ u v' l' c' w := by
  unfold laidZ
  intro e
  split at e <;> split at e
  · injection e with e1 e2
    injection e2 with e2 e3
    exact hv e2
  · injection e with e1 e2
    exact h' e1
  · injection e with e1 e2
    exact h e1.symm
  · injection e with e1 e2
    exact hv e1
theorem log_small {n : Nat} (h : n < 2 ^ 200) : n.log2 < 200 := by
  by_cases z : n = 0
  · subst z; decide
  · exact (Nat.log2_lt z).mpr h
theorem mul_big {i j : Int} (h1 : -(2 ^ 200) < i) (h2 : i < 2 ^ 200) (h3 : -(2 ^ 200) < j) (h4 : j < 2 ^ 200) {oh : OH} : pMul (.int i) (.int j) oh = some (.int (i * j), oh) := z_mul (by
  have a := log_small (n := i.natAbs) (by omega)
  have b := log_small (n := j.natAbs) (by omega)
  unfold mulOk
  simp only [decide_eq_true (show i.natAbs.log2 + j.natAbs.log2 < 1000000 by omega), Bool.true_or])
theorem ne_deed {word : Str} {k : List Int} {oh : OH} (h : PyData.strOk word = true) : pNe (deedD word k) (deedD word k) oh = some (.bl false, oh) := by
  unfold deedD
  refine z_ne_self (p := .tuple (.str word :: k.map PyData.int)) ?_ ?_
  · have e : toPys (toPy oh 59) (.str word :: k.map D.int) = some (.str word :: k.map PyData.int) := by
      simp only [toPys, toPys_ints (toPy oh 59) (toPy_int oh 59) k]
      rfl
    simp only [toPy, e, Option.map_some]
  · have hd : (PyData.tuple (.str word :: k.map PyData.int)).depth ≤ 64 := by
      simp only [PyData.depth, PyData.depthAll, depth_ints]
      omega
    simp only [SeqAt.shaped, PyData.canLay0, PyData.canLayAll0, lay_ints, h, Bool.true_and, decide_eq_true hd]
def rdK (W s z l c x hx cx length coat q : Int) : List Int := if 0 < q then [z, s, (-l) % W, c, x, hx % W, cx, (-length) % W, coat, 1, q] else [z, s, (-l) % W, c, x, length % W, coat, (-hx) % W, cx, 1, -q]
theorem round_ok {W s z l c x hx cx length coat q : Int} (h0 : 0 ≤ W) (h1 : W ≤ 1000000) (hq : q ≠ 0) (oh : OH) : f_round_deed [.int W, .int s, .int z, .int l, .int c, .int x, .int hx, .int cx, .int length, .int coat, .int q] oh = .ok (deedD "round" (rdK W s z l c x hx cx length coat q)) oh := by
  refine fn_ret (s := [some (.int W), some (.int s), some (.int z), some (.int l), some (.int c), some (.int x), some (.int hx), some (.int cx), some (.int length), some (.int coat), some (.int q), none]) rfl ?_
  unfold m_round_deed rdK deedD
  by_cases h : 0 < q
  · simp only [z_seq, z_set, z_if, z_asg, z_par, z_expr, z_ret, z_retn, z_skip, z_nx, z_rt, z_sok, z_bok, z_tb, z_tru, z_and, z_or, z_not, z_eif, z_e1, z_e2, z_lf, z_var, z_c, z_ch, z_sub, z_lt, z_le, z_gt, z_ge, z_add, z_neg, z_eqi, z_nei, z_eqs, z_nes, z_nil, z_cons, z_notv, z_tup, z_lst, z_cb, z_int, z_intb, z_max, z_min, z_abs, z_itt, z_call, z_gn, z_gnil, z_gcons, z_gtt, z_gttt, z_gsub, z_gsubd, z_ival, z_yes, z_onone, z_osome, z_sl, z_k0, List.getElem?_cons_succ, List.getElem?_cons_zero, List.set_cons_succ, List.set_cons_zero, eq_self, if_true, Bool.false_eq_true, if_false, List.length_cons, List.length_nil, Nat.zero_add, Nat.reduceAdd, Nat.reduceSub, List.map_cons, List.map_nil, List.cons_append, List.nil_append, Option.map_some, Bool.not_true, Bool.not_false, sz0, sz1, sz2, sz3, sz4, sz5, sz6, sz9, sz10, sz12, prest_ok h0 h1, Int.zero_sub, decide_eq_false hq, decide_eq_true h, if_pos h]
  · simp only [z_seq, z_set, z_if, z_asg, z_par, z_expr, z_ret, z_retn, z_skip, z_nx, z_rt, z_sok, z_bok, z_tb, z_tru, z_and, z_or, z_not, z_eif, z_e1, z_e2, z_lf, z_var, z_c, z_ch, z_sub, z_lt, z_le, z_gt, z_ge, z_add, z_neg, z_eqi, z_nei, z_eqs, z_nes, z_nil, z_cons, z_notv, z_tup, z_lst, z_cb, z_int, z_intb, z_max, z_min, z_abs, z_itt, z_call, z_gn, z_gnil, z_gcons, z_gtt, z_gttt, z_gsub, z_gsubd, z_ival, z_yes, z_onone, z_osome, z_sl, z_k0, List.getElem?_cons_succ, List.getElem?_cons_zero, List.set_cons_succ, List.set_cons_zero, eq_self, if_true, Bool.false_eq_true, if_false, List.length_cons, List.length_nil, Nat.zero_add, Nat.reduceAdd, Nat.reduceSub, List.map_cons, List.map_nil, List.cons_append, List.nil_append, Option.map_some, Bool.not_true, Bool.not_false, sz0, sz1, sz2, sz3, sz4, sz5, sz6, sz9, sz10, sz12, prest_ok h0 h1, Int.zero_sub, decide_eq_false hq, decide_eq_false h, if_neg h]
theorem round_bad {W s z l c x hx cx length coat : Int} (oh : OH) : f_round_deed [.int W, .int s, .int z, .int l, .int c, .int x, .int hx, .int cx, .int length, .int coat, .int 0] oh = .exc "BadCount" (.int 0) oh := by
  unfold f_round_deed m_round_deed
  rw [z_fn]
  simp only [z_seq, z_set, z_if, z_asg, z_par, z_expr, z_ret, z_retn, z_skip, z_nx, z_rt, z_sok, z_bok, z_tb, z_tru, z_and, z_or, z_not, z_eif, z_e1, z_e2, z_lf, z_var, z_c, z_ch, z_sub, z_lt, z_le, z_gt, z_ge, z_add, z_neg, z_eqi, z_nei, z_eqs, z_nes, z_nil, z_cons, z_notv, z_tup, z_lst, z_cb, z_int, z_intb, z_max, z_min, z_abs, z_itt, z_call, z_gn, z_gnil, z_gcons, z_gtt, z_gttt, z_gsub, z_gsubd, z_ival, z_yes, z_onone, z_osome, z_sl, z_k0, List.getElem?_cons_succ, List.getElem?_cons_zero, List.set_cons_succ, List.set_cons_zero, eq_self, if_true, Bool.false_eq_true, if_false, List.length_cons, List.length_nil, Nat.zero_add, Nat.reduceAdd, Nat.reduceSub, List.map_cons, List.map_nil, List.cons_append, List.nil_append, Option.map_some, Bool.not_true, Bool.not_false, sz0, sz1, sz2, sz3, sz4, sz5, sz6, sz9, sz10, sz12, z_raise, z_ex, decide_true]
theorem deed_ok {W s z l c x hx cx length coat q : Int} (h0 : 0 ≤ W) (oh : OH) : f__law_deed [.int W, .int s, .int z, .tup [.int l, .int c], .tup [.int x, .int hx, .int cx], .tup [.int x, .int length, .int coat], .int q] oh = .ok (deedD "round" (rdK W s z l c x hx cx length coat q)) oh := by
  refine fn_ret (s := [some (.int W), some (.int s), some (.int z), some (.tup [.int l, .int c]), some (.tup [.int x, .int hx, .int cx]), some (.tup [.int x, .int length, .int coat]), some (.int q), none, none, none, none, none, none, none]) rfl ?_
  have p0 : ∀ o, pIx (.tup [.int l, .int c]) (.int 0) o = some (.int l, o) := fun o => rfl
  have p1 : ∀ o, pIx (.tup [.int l, .int c]) (.int 1) o = some (.int c, o) := fun o => rfl
  unfold m__law_deed rdK deedD
  by_cases h : 0 < q
  · simp only [z_seq, z_set, z_if, z_asg, z_par, z_expr, z_ret, z_retn, z_skip, z_nx, z_rt, z_sok, z_bok, z_tb, z_tru, z_and, z_or, z_not, z_eif, z_e1, z_e2, z_lf, z_var, z_c, z_ch, z_sub, z_lt, z_le, z_gt, z_ge, z_add, z_neg, z_eqi, z_nei, z_eqs, z_nes, z_nil, z_cons, z_notv, z_tup, z_lst, z_cb, z_int, z_intb, z_max, z_min, z_abs, z_itt, z_call, z_gn, z_gnil, z_gcons, z_gtt, z_gttt, z_gsub, z_gsubd, z_ival, z_yes, z_onone, z_osome, z_sl, z_k0, List.getElem?_cons_succ, List.getElem?_cons_zero, List.set_cons_succ, List.set_cons_zero, eq_self, if_true, Bool.false_eq_true, if_false, List.length_cons, List.length_nil, Nat.zero_add, Nat.reduceAdd, Nat.reduceSub, List.map_cons, List.map_nil, List.cons_append, List.nil_append, Option.map_some, Bool.not_true, Bool.not_false, sz0, sz1, sz2, sz3, sz4, sz5, sz6, sz9, sz10, sz12, rest_ok h0, p0, p1, decide_eq_true h, if_pos h]
  · simp only [z_seq, z_set, z_if, z_asg, z_par, z_expr, z_ret, z_retn, z_skip, z_nx, z_rt, z_sok, z_bok, z_tb, z_tru, z_and, z_or, z_not, z_eif, z_e1, z_e2, z_lf, z_var, z_c, z_ch, z_sub, z_lt, z_le, z_gt, z_ge, z_add, z_neg, z_eqi, z_nei, z_eqs, z_nes, z_nil, z_cons, z_notv, z_tup, z_lst, z_cb, z_int, z_intb, z_max, z_min, z_abs, z_itt, z_call, z_gn, z_gnil, z_gcons, z_gtt, z_gttt, z_gsub, z_gsubd, z_ival, z_yes, z_onone, z_osome, z_sl, z_k0, List.getElem?_cons_succ, List.getElem?_cons_zero, List.set_cons_succ, List.set_cons_zero, eq_self, if_true, Bool.false_eq_true, if_false, List.length_cons, List.length_nil, Nat.zero_add, Nat.reduceAdd, Nat.reduceSub, List.map_cons, List.map_nil, List.cons_append, List.nil_append, Option.map_some, Bool.not_true, Bool.not_false, sz0, sz1, sz2, sz3, sz4, sz5, sz6, sz9, sz10, sz12, rest_ok h0, p0, p1, decide_eq_false h, if_neg h]
theorem none_ok {W s z x l : Int} (oh : OH) : f__law_none_refused [.int W, .int s, .int z, .int x, .int l] oh = .ok (.bl true) oh := by
  refine fn_ret (s := [some (.int W), some (.int s), some (.int z), some (.int x), some (.int l), none]) rfl ?_
  have k1 : errs_.contains "BadCount" = true := by decide +kernel
  have k2 : subOf "BadCount" "BadCount" = true := by decide +kernel
  have sl : sel [10, 9, 8, 7, 6, 5, 4, 3, 2, 1, 0] [D.int 0, .int 0, .int l, .int 0, .int l, .int x, .int 0, .int l, .int z, .int s, .int W] = [.int W, .int s, .int z, .int l, .int 0, .int x, .int l, .int 0, .int l, .int 0, .int 0] := rfl
  have hm : sExpr (eCallK0 f_round_deed [10, 9, 8, 7, 6, 5, 4, 3, 2, 1, 0] (aCons (eC (.int 0)) (aCons (eC (.int 0)) (aCons (eVar 4) (aCons (eC (.int 0)) (aCons (eVar 4) (aCons (eVar 3) (aCons (eC (.int 0)) (aCons (eVar 4) (aCons (eVar 2) (aCons (eVar 1) (aCons (eVar 0) aNil)))))))))))) [some (.int W), some (.int s), some (.int z), some (.int x), some (.int l), none] oh = .exc "BadCount" (.int 0) [some (.int W), some (.int s), some (.int z), some (.int x), some (.int l), none] oh := by
    simp only [z_seq, z_set, z_if, z_asg, z_par, z_expr, z_ret, z_retn, z_skip, z_nx, z_rt, z_sok, z_bok, z_tb, z_tru, z_and, z_or, z_not, z_eif, z_e1, z_e2, z_lf, z_var, z_c, z_ch, z_sub, z_lt, z_le, z_gt, z_ge, z_add, z_neg, z_eqi, z_nei, z_eqs, z_nes, z_nil, z_cons, z_notv, z_tup, z_lst, z_cb, z_int, z_intb, z_max, z_min, z_abs, z_itt, z_call, z_gn, z_gnil, z_gcons, z_gtt, z_gttt, z_gsub, z_gsubd, z_ival, z_yes, z_onone, z_osome, z_sl, z_k0, List.getElem?_cons_succ, List.getElem?_cons_zero, List.set_cons_succ, List.set_cons_zero, eq_self, if_true, Bool.false_eq_true, if_false, List.length_cons, List.length_nil, Nat.zero_add, Nat.reduceAdd, Nat.reduceSub, List.map_cons, List.map_nil, List.cons_append, List.nil_append, Option.map_some, Bool.not_true, Bool.not_false, sz0, sz1, sz2, sz3, sz4, sz5, sz6, sz9, sz10, sz12, sl, round_bad, z_sex]
  unfold m__law_none_refused
  rw [z_seq]
  unfold sTryN
  rw [hm]
  simp only [k1, if_true, pickC, k2]
  simp [noExc, wEq]
theorem slide_r {k : List Int} {q : Int} (h9 : k[9]? = some 1) (h10 : k[10]? = some q) (hq : -(2 ^ 200) < q) (hq2 : q < 2 ^ 199) (hq3 : 0 < q) (oh : OH) : ∃ oh', f_slides_of [.tup [deedD "round" k]] oh = .ok (.int (2 * q)) oh' ∧ Fr [] oh oh' := by
  have key : ∀ (o : OH), f_slides_in [deedD "round" k] o = .ok (.int (2 * q)) o := fun o => by
    have h0 : pIx (deedD "round" k) (.int 0) o = some (.str "round", o) := z_ixd (l := .str "round" :: k.map D.int) rfl (by omega) rfl
    have h8 : pIx (deedD "round" k) (.int 10) o = some (.int 1, o) := z_ixd (l := .str "round" :: k.map D.int) rfl (by omega) (by rw [show (10 : Int).toNat = 9 + 1 from rfl, List.getElem?_cons_succ, List.getElem?_map, h9]; rfl)
    have h11 : pIx (deedD "round" k) (.int 11) o = some (.int q, o) := z_ixd (l := .str "round" :: k.map D.int) rfl (by omega) (by rw [show (11 : Int).toNat = 10 + 1 from rfl, List.getElem?_cons_succ, List.getElem?_map, h10]; rfl)
    refine fn_ret (s := [some (deedD "round" k)]) rfl ?_
    unfold m_slides_in
    simp only [z_seq, z_set, z_if, z_asg, z_par, z_expr, z_ret, z_retn, z_skip, z_nx, z_rt, z_sok, z_bok, z_tb, z_tru, z_and, z_or, z_not, z_eif, z_e1, z_e2, z_lf, z_var, z_c, z_ch, z_sub, z_lt, z_le, z_gt, z_ge, z_add, z_neg, z_eqi, z_nei, z_eqs, z_nes, z_nil, z_cons, z_notv, z_tup, z_lst, z_cb, z_int, z_intb, z_max, z_min, z_abs, z_itt, z_call, z_gn, z_gnil, z_gcons, z_gtt, z_gttt, z_gsub, z_gsubd, z_ival, z_yes, z_onone, z_osome, z_sl, z_k0, List.getElem?_cons_succ, List.getElem?_cons_zero, List.set_cons_succ, List.set_cons_zero, eq_self, if_true, Bool.false_eq_true, if_false, List.length_cons, List.length_nil, Nat.zero_add, Nat.reduceAdd, Nat.reduceSub, List.map_cons, List.map_nil, List.cons_append, List.nil_append, Option.map_some, Bool.not_true, Bool.not_false, sz0, sz1, sz2, sz3, sz4, sz5, sz6, sz9, sz10, sz12, h0, h8, h11, decide_eq_false (show ¬ (("round" : Str) = "carry") by decide), z_mull (i := 2) (j := q) (oh := o) (by omega) (by omega), z_mulr (i := 2 * q) (j := 1) (oh := o) (by omega) (by omega), Int.mul_one]
  obtain ⟨o', e, up, hn⟩ := lcT_pure (mi := iVal (eVar 0)) (g := (CT.one 1).g) (t := tYesD) (el := eCall f_slides_in (aCons (eVar 1) aNil)) (vs := [1]) (s := [some (.tup [deedD "round" k]), none]) (oh := oh) (oh1 := oh) (l := [deedD "round" k])
    (fun _ => true) (fun _ => .int (2 * q)) (by simp only [z_seq, z_set, z_if, z_asg, z_par, z_expr, z_ret, z_retn, z_skip, z_nx, z_rt, z_sok, z_bok, z_tb, z_tru, z_and, z_or, z_not, z_eif, z_e1, z_e2, z_lf, z_var, z_c, z_ch, z_sub, z_lt, z_le, z_gt, z_ge, z_add, z_neg, z_eqi, z_nei, z_eqs, z_nes, z_nil, z_cons, z_notv, z_tup, z_lst, z_cb, z_int, z_intb, z_max, z_min, z_abs, z_itt, z_call, z_gn, z_gnil, z_gcons, z_gtt, z_gttt, z_gsub, z_gsubd, z_ival, z_yes, z_onone, z_osome, z_sl, z_k0, List.getElem?_cons_succ, List.getElem?_cons_zero, List.set_cons_succ, List.set_cons_zero, eq_self, if_true, Bool.false_eq_true, if_false, List.length_cons, List.length_nil, Nat.zero_add, Nat.reduceAdd, Nat.reduceSub, List.map_cons, List.map_nil, List.cons_append, List.nil_append, Option.map_some, Bool.not_true, Bool.not_false, sz0, sz1, sz2, sz3, sz4, sz5, sz6, sz9, sz10, sz12]) (by simp) (fun d hd o u => by
      rw [List.mem_singleton] at hd
      subst hd
      exact ⟨[some (.tup [deedD "round" k]), some (deedD "round" k)], rfl, rfl, fun _ => by simp only [z_seq, z_set, z_if, z_asg, z_par, z_expr, z_ret, z_retn, z_skip, z_nx, z_rt, z_sok, z_bok, z_tb, z_tru, z_and, z_or, z_not, z_eif, z_e1, z_e2, z_lf, z_var, z_c, z_ch, z_sub, z_lt, z_le, z_gt, z_ge, z_add, z_neg, z_eqi, z_nei, z_eqs, z_nes, z_nil, z_cons, z_notv, z_tup, z_lst, z_cb, z_int, z_intb, z_max, z_min, z_abs, z_itt, z_call, z_gn, z_gnil, z_gcons, z_gtt, z_gttt, z_gsub, z_gsubd, z_ival, z_yes, z_onone, z_osome, z_sl, z_k0, List.getElem?_cons_succ, List.getElem?_cons_zero, List.set_cons_succ, List.set_cons_zero, eq_self, if_true, Bool.false_eq_true, if_false, List.length_cons, List.length_nil, Nat.zero_add, Nat.reduceAdd, Nat.reduceSub, List.map_cons, List.map_nil, List.cons_append, List.nil_append, Option.map_some, Bool.not_true, Bool.not_false, sz0, sz1, sz2, sz3, sz4, sz5, sz6, sz9, sz10, sz12, key o]⟩)
  have hs := z_sum (oh := o') (n := oh.length) (ns := [2 * q]) hn
  refine ⟨o', fn_ret (s := [some (.tup [deedD "round" k]), none]) rfl ?_, up.fr⟩
  unfold m_slides_of
  simp only [z_seq, z_set, z_if, z_asg, z_par, z_expr, z_ret, z_retn, z_skip, z_nx, z_rt, z_sok, z_bok, z_tb, z_tru, z_and, z_or, z_not, z_eif, z_e1, z_e2, z_lf, z_var, z_c, z_ch, z_sub, z_lt, z_le, z_gt, z_ge, z_add, z_neg, z_eqi, z_nei, z_eqs, z_nes, z_nil, z_cons, z_notv, z_tup, z_lst, z_cb, z_int, z_intb, z_max, z_min, z_abs, z_itt, z_call, z_gn, z_gnil, z_gcons, z_gtt, z_gttt, z_gsub, z_gsubd, z_ival, z_yes, z_onone, z_osome, z_sl, z_k0, List.getElem?_cons_succ, List.getElem?_cons_zero, List.set_cons_succ, List.set_cons_zero, eq_self, if_true, Bool.false_eq_true, if_false, List.length_cons, List.length_nil, Nat.zero_add, Nat.reduceAdd, Nat.reduceSub, List.map_cons, List.map_nil, List.cons_append, List.nil_append, Option.map_some, Bool.not_true, Bool.not_false, sz0, sz1, sz2, sz3, sz4, sz5, sz6, sz9, sz10, sz12, e, hs]
  simp
theorem rounds_f {ns : List Int} {n : Nat} {oh : OH} (h : GN ns n oh) : ∃ q oh', f__law_rounds [.ref n] oh = .ok (.int q) oh' ∧ q ≠ 0 ∧ -(10 ^ 40) < q ∧ q < 10 ^ 40 ∧ GN ns n oh' ∧ Fr [n] oh oh' := by
  obtain ⟨d, o1, q1, d0, d1, g1, f1⟩ := take_n (top := 5) h (by omega) (by omega)
  obtain ⟨y, o2, q2, ym, g2, f2⟩ := one_l (l := [.int 1, .int (-1)]) g1 (by simp) (by simp)
  have hy : y = .int 1 ∨ y = .int (-1) := by
    simpa using ym
  by_cases hd : d = 0
  · subst hd
    obtain ⟨v, o3, q3, v0, v1, g3, f3⟩ := take_n (top := 10 ^ 9) g2 (by omega) (by omega)
    have p40 : pPow (.int 10) (.int 40) o2 = some (.int (10 ^ 40), o2) := rfl
    have p9 : pPow (.int 10) (.int 9) o2 = some (.int (10 ^ 9), o2) := rfl
    have : ∃ z : Int, pMul y (.int (10 ^ 40 - 1 - v)) o3 = some (.int z, o3) ∧ z ≠ 0 ∧ -(10 ^ 40) < z ∧ z < 10 ^ 40 := by
      rcases hy with rfl | rfl
      · exact ⟨_, z_mull (by omega) (by omega), by omega, by omega, by omega⟩
      · exact ⟨_, z_mull (by omega) (by omega), by omega, by omega, by omega⟩
    obtain ⟨z, ez, z1, z2, z3⟩ := this
    refine ⟨z, o3, fn_ret (s := [some (.ref n)]) rfl ?_, z1, z2, z3, g3, f1.trans (f2.trans f3)⟩
    unfold m__law_rounds
    simp only [z_seq, z_set, z_if, z_asg, z_par, z_expr, z_ret, z_retn, z_skip, z_nx, z_rt, z_sok, z_bok, z_tb, z_tru, z_and, z_or, z_not, z_eif, z_e1, z_e2, z_lf, z_var, z_c, z_ch, z_sub, z_lt, z_le, z_gt, z_ge, z_add, z_neg, z_eqi, z_nei, z_eqs, z_nes, z_nil, z_cons, z_notv, z_tup, z_lst, z_cb, z_int, z_intb, z_max, z_min, z_abs, z_itt, z_call, z_gn, z_gnil, z_gcons, z_gtt, z_gttt, z_gsub, z_gsubd, z_ival, z_yes, z_onone, z_osome, z_sl, z_k0, List.getElem?_cons_succ, List.getElem?_cons_zero, List.set_cons_succ, List.set_cons_zero, eq_self, if_true, Bool.false_eq_true, if_false, List.length_cons, List.length_nil, Nat.zero_add, Nat.reduceAdd, Nat.reduceSub, List.map_cons, List.map_nil, List.cons_append, List.nil_append, Option.map_some, Bool.not_true, Bool.not_false, sz0, sz1, sz2, sz3, sz4, sz5, sz6, sz9, sz10, sz12, q1, decide_true, q2, p40, p9, q3, ez]
  · obtain ⟨v, o3, q3, v0, v1, g3, f3⟩ := take_n (top := 6) g2 (by omega) (by omega)
    have : ∃ z : Int, pMul y (.int (1 + v)) o3 = some (.int z, o3) ∧ z ≠ 0 ∧ -(10 ^ 40) < z ∧ z < 10 ^ 40 := by
      rcases hy with rfl | rfl
      · exact ⟨_, z_mull (by omega) (by omega), by omega, by omega, by omega⟩
      · exact ⟨_, z_mull (by omega) (by omega), by omega, by omega, by omega⟩
    obtain ⟨z, ez, z1, z2, z3⟩ := this
    refine ⟨z, o3, fn_ret (s := [some (.ref n)]) rfl ?_, z1, z2, z3, g3, f1.trans (f2.trans f3)⟩
    unfold m__law_rounds
    simp only [z_seq, z_set, z_if, z_asg, z_par, z_expr, z_ret, z_retn, z_skip, z_nx, z_rt, z_sok, z_bok, z_tb, z_tru, z_and, z_or, z_not, z_eif, z_e1, z_e2, z_lf, z_var, z_c, z_ch, z_sub, z_lt, z_le, z_gt, z_ge, z_add, z_neg, z_eqi, z_nei, z_eqs, z_nes, z_nil, z_cons, z_notv, z_tup, z_lst, z_cb, z_int, z_intb, z_max, z_min, z_abs, z_itt, z_call, z_gn, z_gnil, z_gcons, z_gtt, z_gttt, z_gsub, z_gsubd, z_ival, z_yes, z_onone, z_osome, z_sl, z_k0, List.getElem?_cons_succ, List.getElem?_cons_zero, List.set_cons_succ, List.set_cons_zero, eq_self, if_true, Bool.false_eq_true, if_false, List.length_cons, List.length_nil, Nat.zero_add, Nat.reduceAdd, Nat.reduceSub, List.map_cons, List.map_nil, List.cons_append, List.nil_append, Option.map_some, Bool.not_true, Bool.not_false, sz0, sz1, sz2, sz3, sz4, sz5, sz6, sz9, sz10, sz12, q1, decide_eq_false hd, q2, q3, ez]
/-! ### the law's own account -/
def lnM (M : CM) (W s z l c l2 : Int) : CM := cadd (cadd M (laidZ s z l c W) (-1)) (laidZ s z l2 c W) 1
theorem lengthened_f {W s z l c by_ : Int} {M : CM} {n m : Nat} {oh : OH} (w0 : 0 ≤ W) (ok : OkM M n) (hn : n ≤ 50) (hm : oh[m]? = some (cD M)) :
    ∃ r oh', f__law_lengthened [.ref m, .int W, .tup [.int s, .int z, .int l, .int c], .int by_] oh = .ok (.ref r) oh' ∧ oh'[r]? = some (cD (lnM M W s z l c (l + by_))) ∧ OkM (lnM M W s z l c (l + by_)) (n + 2) ∧ Fr [] oh oh' := by
  obtain ⟨o1, e1, h1, f1⟩ := dcopy_ok (s := [some (.ref m), some (.int W), some (.tup [.int s, .int z, .int l, .int c]), some (.int by_), none, none, none, none, none, none]) (i := 0) (j := 9) rfl (by decide) (by simp) hm ok.nd (by have := ok.few; omega)
  obtain ⟨r, hr⟩ : ∃ r, r = oh.length + 1 := ⟨_, rfl⟩
  rw [← hr] at e1 h1
  have k1 : OkM (cadd M (laidZ s z l c W) (-1)) (n + 1) := okm_add ok (laid_len ..)
  have k2 : OkM (lnM M W s z l c (l + by_)) (n + 2) := okm_add k1 (laid_len ..)
  have a1 := add_ok (k := laidZ s z l c W) (c := -1) h1 ok.nd (by have := ok.few; omega)
  have a2 := add_ok (k := laidZ s z (l + by_) c W) (c := 1) (get_set (c' := cD (cadd M (laidZ s z l c W) (-1))) h1) k1.nd (by have := k1.few; omega)
  rw [List.set_set] at a2
  refine ⟨r, o1.set r (cD (lnM M W s z l c (l + by_))), fn_ret (s := [some (.ref m), some (.int W), some (.tup [.int s, .int z, .int l, .int c]), some (.int by_), none, none, none, none, none, none]) rfl ?_, get_set h1, k2, ?_⟩
  · unfold m__law_lengthened
    rw [z_seq, z_set, e1, z_sok, z_nx]
    simp only [z_seq, z_set, z_if, z_asg, z_par, z_expr, z_ret, z_retn, z_skip, z_nx, z_rt, z_sok, z_bok, z_tb, z_tru, z_and, z_or, z_not, z_eif, z_e1, z_e2, z_lf, z_var, z_c, z_ch, z_sub, z_lt, z_le, z_gt, z_ge, z_add, z_neg, z_eqi, z_nei, z_eqs, z_nes, z_nil, z_cons, z_notv, z_tup, z_lst, z_cb, z_int, z_intb, z_max, z_min, z_abs, z_itt, z_call, z_gn, z_gnil, z_gcons, z_gtt, z_gttt, z_gsub, z_gsubd, z_ival, z_yes, z_onone, z_osome, z_sl, z_k0, List.getElem?_cons_succ, List.getElem?_cons_zero, List.set_cons_succ, List.set_cons_zero, eq_self, if_true, Bool.false_eq_true, if_false, List.length_cons, List.length_nil, Nat.zero_add, Nat.reduceAdd, Nat.reduceSub, List.map_cons, List.map_nil, List.cons_append, List.nil_append, Option.map_some, Bool.not_true, Bool.not_false, sz0, sz1, sz2, sz3, sz4, sz5, sz6, sz9, sz10, sz12, laid_ok w0, a1, a2]
    rfl
  · exact ⟨by rw [List.length_set]; exact f1.1, fun k c hk hc => by
      have := lt_of_get hc
      rw [List.getElem?_set_ne (by omega)]
      exact f1.2 k c hk hc⟩
theorem rd_run {N W C s z l c x hx cx length coat q : Int} {rule : Str} {M : CM} {n : Nat} (hd : Hd N W C rule) (hr : Rule rule) (hp : Pl N s z x) (ok : OkM M n) (hn : n ≤ 40) (l1 : LetZ rule c cx) (l2 : LetZ rule c coat) (hq : q ≠ 0) (q0 : -(10 ^ 40) < q) (q1 : q < 10 ^ 40) (bx : -(2 ^ 60) ≤ hx ∧ hx ≤ 2 ^ 60) (bl : -(2 ^ 60) ≤ length ∧ length ≤ 2 ^ 60)
    (h1 : 1 ≤ cget M (laidZ s z l c W)) (h2 : 1 ≤ cget M (laidZ s x hx cx W)) (h3 : 1 ≤ cget M (laidZ s x length coat W)) :
    Leads (hdD N W C rule) (deedD "round" (rdK W s z l c x hx cx length coat q)) M (lnM M W s z l c (l + q * (length - hx))) := by
  have hsz := hp.uv; have hsx := hp.uw; have hzx := hp.vw
  have w0 := hd.w0; have w12 := hd.w12
  have e1 : laidZ z s ((-l) % W) c W = laidZ s z l c W := by
    rw [laid_cg (Cg.mod W (-l)), laid_flip hsz]
  have rb : ∀ a : Int, -(2 ^ 60) ≤ a → a ≤ 2 ^ 60 → -(2 ^ 61) ≤ a % W ∧ a % W ≤ 2 ^ 61 := fun a a0 a1 => by
    rcases (by omega : W = 0 ∨ 0 < W) with h | h
    · rw [h, Int.emod_zero]
      omega
    · have := Int.emod_nonneg a (show W ≠ 0 by omega)
      have := Int.emod_lt_of_pos a h
      omega
  have pp : Pl N z s x := ⟨hp.v0, hp.v1, hp.u0, hp.u1, hp.w0, hp.w1, fun e => hsz e.symm, hzx, hsx⟩
  unfold rdK lnM
  by_cases hq2 : 0 < q
  · rw [if_pos hq2]
    have e2 : laidZ s x (hx % W) cx W = laidZ s x hx cx W := laid_cg (Cg.mod W hx)
    have e3 : laidZ x s ((-length) % W) coat W = laidZ s x length coat W := by
      rw [laid_cg (Cg.mod W (-length)), laid_flip hsx]
    have e4 : laidZ z s ((-l) % W + q * (hx % W + (-length) % W)) c W = laidZ s z (l + q * (length - hx)) c W := by
      rw [laid_flip hsz]
      refine laid_cg (((Cg.mod W (-l)).add (((Cg.mod W hx).add (Cg.mod W (-length))).mul q)).trans (Cg.of_eq ?_))
      rw [show hx + -length = -(length - hx) by omega, Int.mul_neg]
      omega
    have b1 := rb hx bx.1 bx.2; have b2 := rb (-length) (by omega) (by omega)
    have w1 := walk_round (M := M) (u := z) (v := s) (l := (-l) % W) (c := c) (w := x) (out := hx % W) (oc := cx) (back := (-length) % W) (bc := coat) (many := 1) (turns := q) hd hr pp ok (by omega) (by omega) (by omega) q1 (mod_mod _ _) (mod_mod _ _) (mod_mod _ _) l1 l2 (by rw [e2]; exact h2) (by rw [e3]; exact h3) (by rw [e1]; exact h1) (fun o => z_mulr (by omega) (by omega))
    rw [e1, e4] at w1
    exact w1
  · rw [if_neg hq2]
    have e2 : laidZ s x (length % W) coat W = laidZ s x length coat W := laid_cg (Cg.mod W length)
    have e3 : laidZ x s ((-hx) % W) cx W = laidZ s x hx cx W := by
      rw [laid_cg (Cg.mod W (-hx)), laid_flip hsx]
    have e4 : laidZ z s ((-l) % W + -q * (length % W + (-hx) % W)) c W = laidZ s z (l + q * (length - hx)) c W := by
      rw [laid_flip hsz]
      refine laid_cg (((Cg.mod W (-l)).add (((Cg.mod W length).add (Cg.mod W (-hx))).mul (-q))).trans (Cg.of_eq ?_))
      rw [show length + -hx = length - hx by omega, Int.neg_mul]
      omega
    have b1 := rb length bl.1 bl.2; have b2 := rb (-hx) (by omega) (by omega)
    have w1 := walk_round (M := M) (u := z) (v := s) (l := (-l) % W) (c := c) (w := x) (out := length % W) (oc := coat) (back := (-hx) % W) (bc := cx) (many := 1) (turns := -q) hd hr pp ok (by omega) (by omega) (by omega) (by omega) (mod_mod _ _) (mod_mod _ _) (mod_mod _ _) l2 l1 (by rw [e2]; exact h3) (by rw [e3]; exact h2) (by rw [e1]; exact h1) (fun o => z_mulr (by omega) (by omega))
    rw [e1, e4] at w1
    exact w1
theorem right_f {N W C : Int} {rule : Str} {M M2 Dd : CM} {n m d : Nat} {j q : Int} {k : List Int} {oh : OH} (ok : OkM M n) (hn : n ≤ 40) (hm : oh[m]? = some (cD M)) (okd : OkM Dd 63) (hdd : oh[d]? = some (cD Dd)) (L : Leads (hdD N W C rule) (deedD "round" k) M M2) (ok2 : OkM M2 63) (h9 : k[9]? = some 1) (h10 : k[10]? = some j) (j0 : 0 < j) (j1 : j < 10 ^ 40)
    (hc : ∀ k, cget M2 k = cget Dd k) : ∃ oh', f__law_right [.ref m, hdD N W C rule, deedD "round" k, .ref d, .int j] oh = .ok (.bl true) oh' ∧ Fr [] oh oh' := by
  obtain ⟨r, o1, q1, m1, f1⟩ := led_f ok (by omega) hm (.cons L .nil)
  obtain ⟨o2, q2, f2⟩ := told_f m1 ok2
  obtain ⟨o3, q3, f3⟩ := told_f (f2.at (by simp) (f1.at (by simp) hdd)) okd
  obtain ⟨o4, q4, f4⟩ := slide_r (k := k) h9 h10 (by omega) (by omega) j0 o3
  rw [toldL_congr ok2.nd okd.nd hc] at q2
  have pn : pIsN true (.ref r) .non o1 = some (.bl true, o1) := rfl
  have eqt : pEq (.tup (toldL Dd)) (.tup (toldL Dd)) o3 = some (.bl true, o3) := by
    have := z_ne_told (oh := o3) (M := Dd)
    unfold pNe at this
    unfold pEq
    cases e : eqD o3 (.tup (toldL Dd)) (.tup (toldL Dd)) with
    | none => rw [e] at this; cases this
    | some v =>
      rw [e] at this
      cases v with
      | true => rfl
      | false => simp at this
  refine ⟨o4, fn_ret (s := [some (.ref m), some (hdD N W C rule), some (deedD "round" k), some (.ref d), some (.int j), none]) rfl ?_, f1.trans (f2.trans (f3.trans f4))⟩
  unfold m__law_right
  simp only [z_seq, z_set, z_if, z_asg, z_par, z_expr, z_ret, z_retn, z_skip, z_nx, z_rt, z_sok, z_bok, z_tb, z_tru, z_and, z_or, z_not, z_eif, z_e1, z_e2, z_lf, z_var, z_c, z_ch, z_sub, z_lt, z_le, z_gt, z_ge, z_add, z_neg, z_eqi, z_nei, z_eqs, z_nes, z_nil, z_cons, z_notv, z_tup, z_lst, z_cb, z_int, z_intb, z_max, z_min, z_abs, z_itt, z_call, z_gn, z_gnil, z_gcons, z_gtt, z_gttt, z_gsub, z_gsubd, z_ival, z_yes, z_onone, z_osome, z_sl, z_k0, List.getElem?_cons_succ, List.getElem?_cons_zero, List.set_cons_succ, List.set_cons_zero, eq_self, if_true, Bool.false_eq_true, if_false, List.length_cons, List.length_nil, Nat.zero_add, Nat.reduceAdd, Nat.reduceSub, List.map_cons, List.map_nil, List.cons_append, List.nil_append, Option.map_some, Bool.not_true, Bool.not_false, sz0, sz1, sz2, sz3, sz4, sz5, sz6, sz9, sz10, sz12, q1]
  have ha : SK.e2 (pIsN true) (eVar 5) (eC .non) [some (.ref m), some (hdD N W C rule), some (deedD "round" k), some (.ref d), some (.int j), some (.ref r)] o1 = .ok (.bl true) o1 := by
    simp only [z_seq, z_set, z_if, z_asg, z_par, z_expr, z_ret, z_retn, z_skip, z_nx, z_rt, z_sok, z_bok, z_tb, z_tru, z_and, z_or, z_not, z_eif, z_e1, z_e2, z_lf, z_var, z_c, z_ch, z_sub, z_lt, z_le, z_gt, z_ge, z_add, z_neg, z_eqi, z_nei, z_eqs, z_nes, z_nil, z_cons, z_notv, z_tup, z_lst, z_cb, z_int, z_intb, z_max, z_min, z_abs, z_itt, z_call, z_gn, z_gnil, z_gcons, z_gtt, z_gttt, z_gsub, z_gsubd, z_ival, z_yes, z_onone, z_osome, z_sl, z_k0, List.getElem?_cons_succ, List.getElem?_cons_zero, List.set_cons_succ, List.set_cons_zero, eq_self, if_true, Bool.false_eq_true, if_false, List.length_cons, List.length_nil, Nat.zero_add, Nat.reduceAdd, Nat.reduceSub, List.map_cons, List.map_nil, List.cons_append, List.nil_append, Option.map_some, Bool.not_true, Bool.not_false, sz0, sz1, sz2, sz3, sz4, sz5, sz6, sz9, sz10, sz12, pn]
  have hb : SK.e2 pEq (eCall f__law_told (aCons (eVar 5) aNil)) (eCall f__law_told (aCons (eVar 3) aNil)) [some (.ref m), some (hdD N W C rule), some (deedD "round" k), some (.ref d), some (.int j), some (.ref r)] o1 = .ok (.bl true) o3 := by
    simp only [z_seq, z_set, z_if, z_asg, z_par, z_expr, z_ret, z_retn, z_skip, z_nx, z_rt, z_sok, z_bok, z_tb, z_tru, z_and, z_or, z_not, z_eif, z_e1, z_e2, z_lf, z_var, z_c, z_ch, z_sub, z_lt, z_le, z_gt, z_ge, z_add, z_neg, z_eqi, z_nei, z_eqs, z_nes, z_nil, z_cons, z_notv, z_tup, z_lst, z_cb, z_int, z_intb, z_max, z_min, z_abs, z_itt, z_call, z_gn, z_gnil, z_gcons, z_gtt, z_gttt, z_gsub, z_gsubd, z_ival, z_yes, z_onone, z_osome, z_sl, z_k0, List.getElem?_cons_succ, List.getElem?_cons_zero, List.set_cons_succ, List.set_cons_zero, eq_self, if_true, Bool.false_eq_true, if_false, List.length_cons, List.length_nil, Nat.zero_add, Nat.reduceAdd, Nat.reduceSub, List.map_cons, List.map_nil, List.cons_append, List.nil_append, Option.map_some, Bool.not_true, Bool.not_false, sz0, sz1, sz2, sz3, sz4, sz5, sz6, sz9, sz10, sz12, q2, q3, eqt]
  rw [z_eandT ha]
  simp only [if_true]
  rw [z_eandT hb]
  simp only [z_seq, z_set, z_if, z_asg, z_par, z_expr, z_ret, z_retn, z_skip, z_nx, z_rt, z_sok, z_bok, z_tb, z_tru, z_and, z_or, z_not, z_eif, z_e1, z_e2, z_lf, z_var, z_c, z_ch, z_sub, z_lt, z_le, z_gt, z_ge, z_add, z_neg, z_eqi, z_nei, z_eqs, z_nes, z_nil, z_cons, z_notv, z_tup, z_lst, z_cb, z_int, z_intb, z_max, z_min, z_abs, z_itt, z_call, z_gn, z_gnil, z_gcons, z_gtt, z_gttt, z_gsub, z_gsubd, z_ival, z_yes, z_onone, z_osome, z_sl, z_k0, List.getElem?_cons_succ, List.getElem?_cons_zero, List.set_cons_succ, List.set_cons_zero, eq_self, if_true, Bool.false_eq_true, if_false, List.length_cons, List.length_nil, Nat.zero_add, Nat.reduceAdd, Nat.reduceSub, List.map_cons, List.map_nil, List.cons_append, List.nil_append, Option.map_some, Bool.not_true, Bool.not_false, sz0, sz1, sz2, sz3, sz4, sz5, sz6, sz9, sz10, sz12, q4, z_mull (i := 2) (by omega) (by omega), decide_true]
def lw0 : SM := sPar2 2 3 (aCons (eCall f__law_pool (aCons (eVar 0) (aCons (eVar 1) aNil))) (aCons (eCB bDict (aCons (eLst aNil) aNil)) aNil))
def lw1 : SM := sSet 4 (eCall f__law_head (aCons (eVar 2) (aCons (eCall f__law_one (aCons (eVar 2) (aCons (eLst (aCons (eC (.str "all")) (aCons (eC (.str "others")) (aCons (eC (.str "own")) aNil)))) aNil))) aNil)))
def lw2 : SM := sAsg (eVar 4) (gT 4 (SK.gCons (gN 5) (SK.gCons (gN 6) (SK.gCons (gN 7) (SK.gCons (gN 8) SK.gNil)))))
def lw3 : SM := sExpr (eCall f__law_threads (aCons (eVar 2) (aCons (eVar 4) (aCons (eVar 3) (aCons (eCall f__law_take (aCons (eVar 2) (aCons (eC (.int 5)) aNil))) aNil)))))
def lw4 : SM := sAsg (eCall f__law_places (aCons (eVar 2) (aCons (eVar 5) (aCons (eC (.int 3)) aNil)))) (gT 3 (SK.gCons (gN 9) (SK.gCons (gN 10) (SK.gCons (gN 11) SK.gNil))))
def lw5 : SM := sAsg (eCall f__law_three_coats (aCons (eVar 2) (aCons (eVar 4) aNil))) (gT 3 (SK.gCons (gN 12) (SK.gCons (gN 13) (SK.gCons (gN 14) SK.gNil))))
def lw6 : SM := sPar3 15 16 17 (aCons (eCall f__law_length (aCons (eVar 2) (aCons (eVar 6) aNil))) (aCons (eCall f__law_length (aCons (eVar 2) (aCons (eVar 6) aNil))) (aCons (eCall f__law_rounds (aCons (eVar 2) aNil)) aNil)))
def lw7 : SM := sSet 18 (eCall f__law_rest (aCons (SK.e2 pAdd (eVar 16) (eCall f__law_one (aCons (eVar 2) (aCons (eLst (aCons (eC (.int 0)) (aCons (eC (.int 1)) (aCons (eCall f__law_length (aCons (eVar 2) (aCons (eVar 6) aNil))) aNil)))) aNil)))) (aCons (eVar 6) aNil)))
def lw8 : SM := sFor (iVal (eLst (aCons (eTup (aCons (eVar 10) (aCons (eVar 15) (aCons (eVar 12) aNil)))) (aCons (eTup (aCons (eVar 11) (aCons (eVar 16) (aCons (eVar 13) aNil)))) (aCons (eTup (aCons (eVar 11) (aCons (eVar 18) (aCons (eVar 14) aNil)))) aNil))))) (gT 3 (SK.gCons (gN 19) (SK.gCons (gN 20) (SK.gCons (gN 21) SK.gNil)))) (sExpr (eCall f__law_add (aCons (eVar 3) (aCons (eCall f__law_laid (aCons (eVar 9) (aCons (eVar 19) (aCons (eVar 20) (aCons (eVar 21) (aCons (eVar 6) aNil)))))) (aCons (eC (.int 1)) aNil)))))
def lw9 : SM := sSet 22 (eCall f__law_lengthened (aCons (eVar 3) (aCons (eVar 6) (aCons (eTup (aCons (eVar 9) (aCons (eVar 10) (aCons (eVar 15) (aCons (eVar 12) aNil))))) (aCons (SK.e2 pMul (eVar 17) (SK.e2 pSub (eVar 18) (eVar 16))) aNil)))))
def lw10 : SM := sSet 23 (eCallK f_round_deed [0, 1, 2, 3, 4, 5, 6, 7, 8, 9, 10] (aCons (eVar 6) (aCons (eVar 9) (aCons (eVar 10) (aCons (eVar 15) (aCons (eVar 12) (aCons (eVar 11) (aCons (eVar 16) (aCons (eVar 13) (aCons (eVar 18) (aCons (eVar 14) aNil)))))))))) (aCons (eVar 17) aNil))
def lw11 : SM := sIf (tB1 (SK.e2 pNe (eVar 23) (eCall f__law_deed (aCons (eVar 6) (aCons (eVar 9) (aCons (eVar 10) (aCons (eTup (aCons (eVar 15) (aCons (eVar 12) aNil))) (aCons (eTup (aCons (eVar 11) (aCons (eVar 16) (aCons (eVar 13) aNil)))) (aCons (eTup (aCons (eVar 11) (aCons (eVar 18) (aCons (eVar 14) aNil)))) (aCons (eVar 17) aNil)))))))))) (sRet (eC (.bl false))) sSkip
def lw12 : SM := sIf (tNotD (tTru (eCall f__law_right (aCons (eVar 3) (aCons (eVar 4) (aCons (eVar 23) (aCons (eVar 22) (aCons (eCB bAbs (aCons (eVar 17) aNil)) aNil)))))))) (sRet (eC (.bl false))) sSkip
def lw13 : SM := sSet 24 (SK.e2 pMul (eVar 17) (SK.e2 pPow (eC (.int 10)) (eC (.int 40))))
def lw14 : SM := sSet 23 (eCallK f_round_deed [0, 1, 2, 3, 4, 5, 6, 7, 8, 9, 10] (aCons (eVar 6) (aCons (eVar 9) (aCons (eVar 10) (aCons (eVar 15) (aCons (eVar 12) (aCons (eVar 11) (aCons (eVar 16) (aCons (eVar 13) (aCons (eVar 18) (aCons (eVar 14) aNil)))))))))) (aCons (eVar 24) aNil))
def lw15 : SM := sIf (tB1 (SK.e2 pNe (eVar 23) (eCall f__law_deed (aCons (eVar 6) (aCons (eVar 9) (aCons (eVar 10) (aCons (eTup (aCons (eVar 15) (aCons (eVar 12) aNil))) (aCons (eTup (aCons (eVar 11) (aCons (eVar 16) (aCons (eVar 13) aNil)))) (aCons (eTup (aCons (eVar 11) (aCons (eVar 18) (aCons (eVar 14) aNil)))) (aCons (eVar 24) aNil)))))))))) (sRet (eC (.bl false))) sSkip
def lw16 : SM := sSet 25 (eCall f__law_rest (aCons (SK.e2 pAdd (eVar 15) (SK.e2 pMul (eVar 17) (SK.e2 pSub (eVar 18) (eVar 16)))) (aCons (eVar 6) aNil)))
def lw17 : SM := sSet 23 (eCallK f_round_deed [0, 1, 2, 3, 4, 5, 6, 7, 8, 9, 10] (aCons (eVar 6) (aCons (eVar 9) (aCons (eVar 10) (aCons (eVar 25) (aCons (eVar 12) (aCons (eVar 11) (aCons (eVar 16) (aCons (eVar 13) (aCons (eVar 18) (aCons (eVar 14) aNil)))))))))) (aCons (SK.e1 pNeg (eVar 17)) aNil))
def lw18 : SM := sIf (tNotD (tTru (eCall f__law_right (aCons (eVar 22) (aCons (eVar 4) (aCons (eVar 23) (aCons (eVar 3) (aCons (eCB bAbs (aCons (eVar 17) aNil)) aNil)))))))) (sRet (eC (.bl false))) sSkip
def lw19 : SM := sSet 22 (eCall f__law_lengthened (aCons (eVar 3) (aCons (eVar 6) (aCons (eTup (aCons (eVar 9) (aCons (eVar 10) (aCons (eVar 15) (aCons (eVar 12) aNil))))) (aCons (SK.e2 pSub (eVar 18) (eVar 16)) aNil)))))
def lw20 : SM := sIf (tNotD (tTru (eCall f__law_right (aCons (eVar 3) (aCons (eVar 4) (aCons (eCallD f_round_deed [.int 1] (aCons (eVar 6) (aCons (eVar 9) (aCons (eVar 10) (aCons (eVar 15) (aCons (eVar 12) (aCons (eVar 11) (aCons (eVar 16) (aCons (eVar 13) (aCons (eVar 18) (aCons (eVar 14) aNil))))))))))) (aCons (eVar 22) (aCons (eC (.int 1)) aNil)))))))) (sRet (eC (.bl false))) sSkip
def lw21 : SM := sIf (tNotD (tTru (eCall f__law_none_refused (aCons (eVar 6) (aCons (eVar 9) (aCons (eVar 10) (aCons (eVar 11) (aCons (eVar 15) aNil)))))))) (sRet (eC (.bl false))) sSkip
def lwall : SM := (sSeq lw0 (sSeq lw1 (sSeq lw2 (sSeq lw3 (sSeq lw4 (sSeq lw5 (sSeq lw6 (sSeq lw7 (sSeq lw8 (sSeq lw9 (sSeq lw10 (sSeq lw11 (sSeq lw12 (sSeq lw13 (sSeq lw14 (sSeq lw15 (sSeq lw16 (sSeq lw17 (sSeq lw18 (sSeq lw19 (sSeq lw20 lw21)))))))))))))))))))))
theorem turn_ok {ns : List Int} {t : Int} {a1 a2 a3 a4 a5 a6 a7 a8 a9 a10 a11 a12 a13 a14 a15 a16 a17 a18 a19 a20 a21 a22 a23 a24 a25 : Option D} {o : OH} (h : o[0]? = some (.ro (ns.map D.int))) (t0 : 0 ≤ t) (t9 : t < 100) : ∃ s' o', lwall [some (.ref 0), some (.int t), a2, a3, a4, a5, a6, a7, a8, a9, a10, a11, a12, a13, a14, a15, a16, a17, a18, a19, a20, a21, a22, a23, a24, a25] o = .nx s' o' ∧ o'[0]? = some (.ro (ns.map D.int)) ∧ ∃ b1 b2 b3 b4 b5 b6 b7 b8 b9 b10 b11 b12 b13 b14 b15 b16 b17 b18 b19 b20 b21 b22 b23 b24 b25, s' = [some (.ref 0), b1, b2, b3, b4, b5, b6, b7, b8, b9, b10, b11, b12, b13, b14, b15, b16, b17, b18, b19, b20, b21, b22, b23, b24, b25] := by
  obtain ⟨sc, q0, g0⟩ := pool_n h t0 t9
  obtain ⟨n, hn⟩ : ∃ n, n = o.length := ⟨_, rfl⟩
  rw [← hn] at q0 g0
  generalize o ++ [sc] = o0 at q0 g0
  have d0 := dnewB (oh := o0)
  obtain ⟨m, hm⟩ : ∃ m, m = o0.length + 1 := ⟨_, rfl⟩
  rw [← hm] at d0
  have hnl := g0.lt
  have m1 : (o0 ++ [.lst []] ++ [cD []])[m]? = some (cD []) := by
    have := get_new (o0 ++ [Cell.lst []]) (cD [])
    rw [List.length_append] at this
    rw [hm]
    exact this
  have g1 : GN ns n (o0 ++ [.lst []] ++ [cD []]) := (g0.fr (Fr.app [] _ _) (by simp) (by simp)).fr (Fr.app [] _ _) (by simp) (by simp)
  generalize o0 ++ [.lst []] ++ [cD []] = o1 at d0 m1 g1
  have hnm : n ≠ m := by omega
  have e0 : lw0 [some (.ref 0), some (.int t), a2, a3, a4, a5, a6, a7, a8, a9, a10, a11, a12, a13, a14, a15, a16, a17, a18, a19, a20, a21, a22, a23, a24, a25] o = .nx [some (.ref 0), some (.int t), some (.ref n), some (.ref m), a4, a5, a6, a7, a8, a9, a10, a11, a12, a13, a14, a15, a16, a17, a18, a19, a20, a21, a22, a23, a24, a25] o1 := by
    unfold lw0
    simp only [z_seq, z_set, z_if, z_asg, z_par, z_expr, z_ret, z_retn, z_skip, z_nx, z_rt, z_sok, z_bok, z_tb, z_tru, z_and, z_or, z_not, z_eif, z_e1, z_e2, z_lf, z_var, z_c, z_ch, z_sub, z_lt, z_le, z_gt, z_ge, z_add, z_neg, z_eqi, z_nei, z_eqs, z_nes, z_nil, z_cons, z_notv, z_tup, z_lst, z_cb, z_int, z_intb, z_max, z_min, z_abs, z_itt, z_call, z_gn, z_gnil, z_gcons, z_gtt, z_gttt, z_gsub, z_gsubd, z_ival, z_yes, z_onone, z_osome, z_sl, z_k0, List.getElem?_cons_succ, List.getElem?_cons_zero, List.set_cons_succ, List.set_cons_zero, eq_self, if_true, Bool.false_eq_true, if_false, List.length_cons, List.length_nil, Nat.zero_add, Nat.reduceAdd, Nat.reduceSub, List.map_cons, List.map_nil, List.cons_append, List.nil_append, Option.map_some, Bool.not_true, Bool.not_false, sz0, sz1, sz2, sz3, sz4, sz5, sz6, sz9, sz10, sz12, q0, d0]
  obtain ⟨x0, o2, q2, x0m, g2, f2⟩ := one_l (l := [.str "all", .str "others", .str "own"]) g1 (by simp) (by simp)
  have hrule : ∃ rule, x0 = .str rule ∧ Rule rule := by
    simp only [List.mem_cons, List.not_mem_nil, or_false] at x0m
    rcases x0m with rfl | rfl | rfl
    · exact ⟨_, rfl, .inl rfl⟩
    · exact ⟨_, rfl, .inr (.inl rfl)⟩
    · exact ⟨_, rfl, .inr (.inr rfl)⟩
  obtain ⟨rule, rfl, hr⟩ := hrule
  obtain ⟨N, W, C, o3, q3, hd, g3, f3⟩ := head_f (rule := rule) g2
  have w0 := hd.w0; have w12 := hd.w12
  have w6 : W ≤ 1000000 := by omega
  have m3 : o3[m]? = some (cD []) := f3.at (by simp; omega) (f2.at (by simp; omega) m1)
  have e1 : lw1 [some (.ref 0), some (.int t), some (.ref n), some (.ref m), a4, a5, a6, a7, a8, a9, a10, a11, a12, a13, a14, a15, a16, a17, a18, a19, a20, a21, a22, a23, a24, a25] o1 = .nx [some (.ref 0), some (.int t), some (.ref n), some (.ref m), some (hdD N W C rule), a5, a6, a7, a8, a9, a10, a11, a12, a13, a14, a15, a16, a17, a18, a19, a20, a21, a22, a23, a24, a25] o3 := by
    unfold lw1
    simp only [z_seq, z_set, z_if, z_asg, z_par, z_expr, z_ret, z_retn, z_skip, z_nx, z_rt, z_sok, z_bok, z_tb, z_tru, z_and, z_or, z_not, z_eif, z_e1, z_e2, z_lf, z_var, z_c, z_ch, z_sub, z_lt, z_le, z_gt, z_ge, z_add, z_neg, z_eqi, z_nei, z_eqs, z_nes, z_nil, z_cons, z_notv, z_tup, z_lst, z_cb, z_int, z_intb, z_max, z_min, z_abs, z_itt, z_call, z_gn, z_gnil, z_gcons, z_gtt, z_gttt, z_gsub, z_gsubd, z_ival, z_yes, z_onone, z_osome, z_sl, z_k0, List.getElem?_cons_succ, List.getElem?_cons_zero, List.set_cons_succ, List.set_cons_zero, eq_self, if_true, Bool.false_eq_true, if_false, List.length_cons, List.length_nil, Nat.zero_add, Nat.reduceAdd, Nat.reduceSub, List.map_cons, List.map_nil, List.cons_append, List.nil_append, Option.map_some, Bool.not_true, Bool.not_false, sz0, sz1, sz2, sz3, sz4, sz5, sz6, sz9, sz10, sz12, q2, q3]
  have e2 : lw2 [some (.ref 0), some (.int t), some (.ref n), some (.ref m), some (hdD N W C rule), a5, a6, a7, a8, a9, a10, a11, a12, a13, a14, a15, a16, a17, a18, a19, a20, a21, a22, a23, a24, a25] o3 = .nx [some (.ref 0), some (.int t), some (.ref n), some (.ref m), some (hdD N W C rule), some (.int N), some (.int W), some (.int C), some (.str rule), a9, a10, a11, a12, a13, a14, a15, a16, a17, a18, a19, a20, a21, a22, a23, a24, a25] o3 := by
    unfold lw2
    simp only [z_seq, z_set, z_if, z_asg, z_par, z_expr, z_ret, z_retn, z_skip, z_nx, z_rt, z_sok, z_bok, z_tb, z_tru, z_and, z_or, z_not, z_eif, z_e1, z_e2, z_lf, z_var, z_c, z_ch, z_sub, z_lt, z_le, z_gt, z_ge, z_add, z_neg, z_eqi, z_nei, z_eqs, z_nes, z_nil, z_cons, z_notv, z_tup, z_lst, z_cb, z_int, z_intb, z_max, z_min, z_abs, z_itt, z_call, z_gn, z_gnil, z_gcons, z_gtt, z_gttt, z_gsub, z_gsubd, z_ival, z_yes, z_onone, z_osome, z_sl, z_k0, List.getElem?_cons_succ, List.getElem?_cons_zero, List.set_cons_succ, List.set_cons_zero, eq_self, if_true, Bool.false_eq_true, if_false, List.length_cons, List.length_nil, Nat.zero_add, Nat.reduceAdd, Nat.reduceSub, List.map_cons, List.map_nil, List.cons_append, List.nil_append, Option.map_some, Bool.not_true, Bool.not_false, sz0, sz1, sz2, sz3, sz4, sz5, sz6, sz9, sz10, sz12, hdD]
  obtain ⟨many, o4, q4, k0, k1, g4, f4⟩ := take_n (top := 5) g3 (by omega) (by omega)
  obtain ⟨M, o5, q5, m5, ok5, nn5, g5, f5, ub5⟩ := threads_f (k := many) g4 hd (f4.at (by simp; omega) m3) hnm k0 (by omega)
  have e3 : lw3 [some (.ref 0), some (.int t), some (.ref n), some (.ref m), some (hdD N W C rule), some (.int N), some (.int W), some (.int C), some (.str rule), a9, a10, a11, a12, a13, a14, a15, a16, a17, a18, a19, a20, a21, a22, a23, a24, a25] o3 = .nx [some (.ref 0), some (.int t), some (.ref n), some (.ref m), some (hdD N W C rule), some (.int N), some (.int W), some (.int C), some (.str rule), a9, a10, a11, a12, a13, a14, a15, a16, a17, a18, a19, a20, a21, a22, a23, a24, a25] o5 := by
    unfold lw3
    simp only [z_seq, z_set, z_if, z_asg, z_par, z_expr, z_ret, z_retn, z_skip, z_nx, z_rt, z_sok, z_bok, z_tb, z_tru, z_and, z_or, z_not, z_eif, z_e1, z_e2, z_lf, z_var, z_c, z_ch, z_sub, z_lt, z_le, z_gt, z_ge, z_add, z_neg, z_eqi, z_nei, z_eqs, z_nes, z_nil, z_cons, z_notv, z_tup, z_lst, z_cb, z_int, z_intb, z_max, z_min, z_abs, z_itt, z_call, z_gn, z_gnil, z_gcons, z_gtt, z_gttt, z_gsub, z_gsubd, z_ival, z_yes, z_onone, z_osome, z_sl, z_k0, List.getElem?_cons_succ, List.getElem?_cons_zero, List.set_cons_succ, List.set_cons_zero, eq_self, if_true, Bool.false_eq_true, if_false, List.length_cons, List.length_nil, Nat.zero_add, Nat.reduceAdd, Nat.reduceSub, List.map_cons, List.map_nil, List.cons_append, List.nil_append, Option.map_some, Bool.not_true, Bool.not_false, sz0, sz1, sz2, sz3, sz4, sz5, sz6, sz9, sz10, sz12, q4, q5]
  obtain ⟨s, z, x, r6, o6, q6, n6, s0, s1, z0, z1, x0, x1, sz, sx, zx, g6, f6⟩ := places_f g5 hd.n3 hd.n5
  have hp : Pl N s z x := ⟨s0, s1, z0, z1, x0, x1, sz, sx, zx⟩
  have e4 : lw4 [some (.ref 0), some (.int t), some (.ref n), some (.ref m), some (hdD N W C rule), some (.int N), some (.int W), some (.int C), some (.str rule), a9, a10, a11, a12, a13, a14, a15, a16, a17, a18, a19, a20, a21, a22, a23, a24, a25] o5 = .nx [some (.ref 0), some (.int t), some (.ref n), some (.ref m), some (hdD N W C rule), some (.int N), some (.int W), some (.int C), some (.str rule), some (.int s), some (.int z), some (.int x), a12, a13, a14, a15, a16, a17, a18, a19, a20, a21, a22, a23, a24, a25] o6 := by
    unfold lw4
    simp only [z_seq, z_set, z_if, z_asg, z_par, z_expr, z_ret, z_retn, z_skip, z_nx, z_rt, z_sok, z_bok, z_tb, z_tru, z_and, z_or, z_not, z_eif, z_e1, z_e2, z_lf, z_var, z_c, z_ch, z_sub, z_lt, z_le, z_gt, z_ge, z_add, z_neg, z_eqi, z_nei, z_eqs, z_nes, z_nil, z_cons, z_notv, z_tup, z_lst, z_cb, z_int, z_intb, z_max, z_min, z_abs, z_itt, z_call, z_gn, z_gnil, z_gcons, z_gtt, z_gttt, z_gsub, z_gsubd, z_ival, z_yes, z_onone, z_osome, z_sl, z_k0, List.getElem?_cons_succ, List.getElem?_cons_zero, List.set_cons_succ, List.set_cons_zero, eq_self, if_true, Bool.false_eq_true, if_false, List.length_cons, List.length_nil, Nat.zero_add, Nat.reduceAdd, Nat.reduceSub, List.map_cons, List.map_nil, List.cons_append, List.nil_append, Option.map_some, Bool.not_true, Bool.not_false, sz0, sz1, sz2, sz3, sz4, sz5, sz6, sz9, sz10, sz12, q6, z_gtr (z_itl n6)]
  obtain ⟨c, cx, coat, o7, q7, lc1, lc2, g7, f7⟩ := coats_f g6 hd hr
  have e5 : lw5 [some (.ref 0), some (.int t), some (.ref n), some (.ref m), some (hdD N W C rule), some (.int N), some (.int W), some (.int C), some (.str rule), some (.int s), some (.int z), some (.int x), a12, a13, a14, a15, a16, a17, a18, a19, a20, a21, a22, a23, a24, a25] o6 = .nx [some (.ref 0), some (.int t), some (.ref n), some (.ref m), some (hdD N W C rule), some (.int N), some (.int W), some (.int C), some (.str rule), some (.int s), some (.int z), some (.int x), some (.int c), some (.int cx), some (.int coat), a15, a16, a17, a18, a19, a20, a21, a22, a23, a24, a25] o7 := by
    unfold lw5
    simp only [z_seq, z_set, z_if, z_asg, z_par, z_expr, z_ret, z_retn, z_skip, z_nx, z_rt, z_sok, z_bok, z_tb, z_tru, z_and, z_or, z_not, z_eif, z_e1, z_e2, z_lf, z_var, z_c, z_ch, z_sub, z_lt, z_le, z_gt, z_ge, z_add, z_neg, z_eqi, z_nei, z_eqs, z_nes, z_nil, z_cons, z_notv, z_tup, z_lst, z_cb, z_int, z_intb, z_max, z_min, z_abs, z_itt, z_call, z_gn, z_gnil, z_gcons, z_gtt, z_gttt, z_gsub, z_gsubd, z_ival, z_yes, z_onone, z_osome, z_sl, z_k0, List.getElem?_cons_succ, List.getElem?_cons_zero, List.set_cons_succ, List.set_cons_zero, eq_self, if_true, Bool.false_eq_true, if_false, List.length_cons, List.length_nil, Nat.zero_add, Nat.reduceAdd, Nat.reduceSub, List.map_cons, List.map_nil, List.cons_append, List.nil_append, Option.map_some, Bool.not_true, Bool.not_false, sz0, sz1, sz2, sz3, sz4, sz5, sz6, sz9, sz10, sz12, q7]
  obtain ⟨l, o8, q8, _, g8, f8⟩ := length_f (w := W) g7 w0 (by omega)
  obtain ⟨hx, o9, q9, bhx, g9, f9⟩ := length_f (w := W) g8 w0 (by omega)
  obtain ⟨q, o9', q9', qn, qa, qb, g9', f9'⟩ := rounds_f g9
  have e6 : lw6 [some (.ref 0), some (.int t), some (.ref n), some (.ref m), some (hdD N W C rule), some (.int N), some (.int W), some (.int C), some (.str rule), some (.int s), some (.int z), some (.int x), some (.int c), some (.int cx), some (.int coat), a15, a16, a17, a18, a19, a20, a21, a22, a23, a24, a25] o7 = .nx [some (.ref 0), some (.int t), some (.ref n), some (.ref m), some (hdD N W C rule), some (.int N), some (.int W), some (.int C), some (.str rule), some (.int s), some (.int z), some (.int x), some (.int c), some (.int cx), some (.int coat), some (.int l), some (.int hx), some (.int q), a18, a19, a20, a21, a22, a23, a24, a25] o9' := by
    unfold lw6
    simp only [z_seq, z_set, z_if, z_asg, z_par, z_expr, z_ret, z_retn, z_skip, z_nx, z_rt, z_sok, z_bok, z_tb, z_tru, z_and, z_or, z_not, z_eif, z_e1, z_e2, z_lf, z_var, z_c, z_ch, z_sub, z_lt, z_le, z_gt, z_ge, z_add, z_neg, z_eqi, z_nei, z_eqs, z_nes, z_nil, z_cons, z_notv, z_tup, z_lst, z_cb, z_int, z_intb, z_max, z_min, z_abs, z_itt, z_call, z_gn, z_gnil, z_gcons, z_gtt, z_gttt, z_gsub, z_gsubd, z_ival, z_yes, z_onone, z_osome, z_sl, z_k0, List.getElem?_cons_succ, List.getElem?_cons_zero, List.set_cons_succ, List.set_cons_zero, eq_self, if_true, Bool.false_eq_true, if_false, List.length_cons, List.length_nil, Nat.zero_add, Nat.reduceAdd, Nat.reduceSub, List.map_cons, List.map_nil, List.cons_append, List.nil_append, Option.map_some, Bool.not_true, Bool.not_false, sz0, sz1, sz2, sz3, sz4, sz5, sz6, sz9, sz10, sz12, z_par3, q8, q9, q9']
  obtain ⟨zl, o10, q10, bz, g10, f10⟩ := length_f (w := W) g9' w0 (by omega)
  obtain ⟨x11, o11, q11, xm, g11, f11⟩ := one_l (l := [.int 0, .int 1, .int zl]) g10 (by simp) (by simp)
  have hx11 : ∃ p : Int, x11 = .int p ∧ -1000000000000 ≤ p ∧ p ≤ 1000000000000 := by
    have := bz.2
    simp only [List.mem_cons, List.not_mem_nil, or_false] at xm
    rcases xm with rfl | rfl | rfl
    · exact ⟨_, rfl, by omega, by omega⟩
    · exact ⟨_, rfl, by omega, by omega⟩
    · exact ⟨_, rfl, by omega, by omega⟩
  obtain ⟨p, rfl, p0, p1⟩ := hx11
  obtain ⟨length, hlen⟩ : ∃ z, z = (hx + p) % W := ⟨_, rfl⟩
  have hb := bhx.2
  have lb : -(2 ^ 60) ≤ length ∧ length ≤ 2 ^ 60 := by
    rcases (by omega : W = 0 ∨ 0 < W) with h | h
    · rw [hlen, h, Int.emod_zero]
      omega
    · have := Int.emod_nonneg (hx + p) (show W ≠ 0 by omega)
      have := Int.emod_lt_of_pos (hx + p) h
      omega
  have e7 : lw7 [some (.ref 0), some (.int t), some (.ref n), some (.ref m), some (hdD N W C rule), some (.int N), some (.int W), some (.int C), some (.str rule), some (.int s), some (.int z), some (.int x), some (.int c), some (.int cx), some (.int coat), some (.int l), some (.int hx), some (.int q), a18, a19, a20, a21, a22, a23, a24, a25] o9' = .nx [some (.ref 0), some (.int t), some (.ref n), some (.ref m), some (hdD N W C rule), some (.int N), some (.int W), some (.int C), some (.str rule), some (.int s), some (.int z), some (.int x), some (.int c), some (.int cx), some (.int coat), some (.int l), some (.int hx), some (.int q), some (.int length), a19, a20, a21, a22, a23, a24, a25] o11 := by
    unfold lw7
    simp only [z_seq, z_set, z_if, z_asg, z_par, z_expr, z_ret, z_retn, z_skip, z_nx, z_rt, z_sok, z_bok, z_tb, z_tru, z_and, z_or, z_not, z_eif, z_e1, z_e2, z_lf, z_var, z_c, z_ch, z_sub, z_lt, z_le, z_gt, z_ge, z_add, z_neg, z_eqi, z_nei, z_eqs, z_nes, z_nil, z_cons, z_notv, z_tup, z_lst, z_cb, z_int, z_intb, z_max, z_min, z_abs, z_itt, z_call, z_gn, z_gnil, z_gcons, z_gtt, z_gttt, z_gsub, z_gsubd, z_ival, z_yes, z_onone, z_osome, z_sl, z_k0, List.getElem?_cons_succ, List.getElem?_cons_zero, List.set_cons_succ, List.set_cons_zero, eq_self, if_true, Bool.false_eq_true, if_false, List.length_cons, List.length_nil, Nat.zero_add, Nat.reduceAdd, Nat.reduceSub, List.map_cons, List.map_nil, List.cons_append, List.nil_append, Option.map_some, Bool.not_true, Bool.not_false, sz0, sz1, sz2, sz3, sz4, sz5, sz6, sz9, sz10, sz12, q10, q11, rest_ok w0, ← hlen]
  have m11 : o11[m]? = some (cD M) := ((f6.trans (f7.trans (f8.trans (f9.trans (f9'.trans (f10.trans f11)))))).at (by simp; omega) m5)
  obtain ⟨T, hT⟩ : ∃ k, k = laidZ s z l c W := ⟨_, rfl⟩
  obtain ⟨rx, hrx⟩ : ∃ k, k = laidZ s x hx cx W := ⟨_, rfl⟩
  obtain ⟨ry, hry⟩ : ∃ k, k = laidZ s x length coat W := ⟨_, rfl⟩
  obtain ⟨o12, ho12⟩ : ∃ o12, o12 = o11 ++ [Cell.lst [.tup [.int z, .int l, .int c], .tup [.int x, .int hx, .int cx], .tup [.int x, .int length, .int coat]]] := ⟨_, rfl⟩
  have l12 : o12.length = o11.length + 1 := by rw [ho12]; simp
  have m12 : o12[m]? = some (cD M) := by rw [ho12]; exact Up.app _ _ _ _ m11
  have n12 : o12[o11.length]? = some (.lst [.tup [.int z, .int l, .int c], .tup [.int x, .int hx, .int cx], .tup [.int x, .int length, .int coat]]) := by rw [ho12]; exact get_new _ _
  have g12 : GN ns n o12 := by rw [ho12]; exact g11.fr (Fr.app [] _ _) (by simp) (by simp)
  have hml : m < o11.length := lt_of_get m11
  have ok12 : OkM (cadd M T 1) 10 := okm_add ok5 (by rw [hT]; exact laid_len ..)
  have ok13 : OkM (cadd (cadd M T 1) rx 1) 11 := okm_add ok12 (by rw [hrx]; exact laid_len ..)
  have ok14 : OkM (cadd (cadd (cadd M T 1) rx 1) ry 1) 12 := okm_add ok13 (by rw [hry]; exact laid_len ..)
  have ad1 := add_ok (k := T) (c := 1) m12 ok5.nd (by have := ok5.few; omega)
  have ad2 := add_ok (k := rx) (c := 1) (get_set (c' := cD (cadd M T 1)) m12) ok12.nd (by have := ok12.few; omega)
  rw [List.set_set] at ad2
  have ad3 := add_ok (k := ry) (c := 1) (get_set (c' := cD (cadd (cadd M T 1) rx 1)) m12) ok13.nd (by have := ok13.few; omega)
  rw [List.set_set] at ad3
  have nn3 : NNM (cadd (cadd (cadd M T 1) rx 1) ry 1) := ((nn5.add (by omega)).add (by omega)).add (by omega)
  have cT : 1 ≤ cget (cadd (cadd (cadd M T 1) rx 1) ry 1) T := by
    rw [cget_cadd, cget_cadd, cget_cadd, if_pos (rfl : T = T)]
    have := nn5 T; have := b_if (p := T = rx); have := b_if (p := T = ry)
    omega
  have crx : 1 ≤ cget (cadd (cadd (cadd M T 1) rx 1) ry 1) rx := by
    rw [cget_cadd, cget_cadd, cget_cadd, if_pos (rfl : rx = rx)]
    have := nn5 rx; have := b_if (p := rx = T); have := b_if (p := rx = ry)
    omega
  have cry : 1 ≤ cget (cadd (cadd (cadd M T 1) rx 1) ry 1) ry := by
    rw [cget_cadd, cget_cadd, cget_cadd, if_pos (rfl : ry = ry)]
    have := nn5 ry; have := b_if (p := ry = T); have := b_if (p := ry = rx)
    omega
  generalize hM3 : cadd (cadd (cadd M T 1) rx 1) ry 1 = M3 at ad3 ok14 nn3 cT crx cry
  obtain ⟨o13, ho13⟩ : ∃ o13, o13 = o12.set m (cD M3) := ⟨_, rfl⟩
  have e8 : lw8 [some (.ref 0), some (.int t), some (.ref n), some (.ref m), some (hdD N W C rule), some (.int N), some (.int W), some (.int C), some (.str rule), some (.int s), some (.int z), some (.int x), some (.int c), some (.int cx), some (.int coat), some (.int l), some (.int hx), some (.int q), some (.int length), a19, a20, a21, a22, a23, a24, a25] o11 = .nx [some (.ref 0), some (.int t), some (.ref n), some (.ref m), some (hdD N W C rule), some (.int N), some (.int W), some (.int C), some (.str rule), some (.int s), some (.int z), some (.int x), some (.int c), some (.int cx), some (.int coat), some (.int l), some (.int hx), some (.int q), some (.int length), some (.int x), some (.int length), some (.int coat), a22, a23, a24, a25] o13 := by
    unfold lw8
    have it : ∀ c', itemsOf (o12.set m c') (.ref o11.length) = some [.tup [.int z, .int l, .int c], .tup [.int x, .int hx, .int cx], .tup [.int x, .int length, .int coat]] := fun c' => z_itl (by rw [List.getElem?_set_ne (by omega)]; exact n12)
    rw [z_for]
    simp only [z_seq, z_set, z_if, z_asg, z_par, z_expr, z_ret, z_retn, z_skip, z_nx, z_rt, z_sok, z_bok, z_tb, z_tru, z_and, z_or, z_not, z_eif, z_e1, z_e2, z_lf, z_var, z_c, z_ch, z_sub, z_lt, z_le, z_gt, z_ge, z_add, z_neg, z_eqi, z_nei, z_eqs, z_nes, z_nil, z_cons, z_notv, z_tup, z_lst, z_cb, z_int, z_intb, z_max, z_min, z_abs, z_itt, z_call, z_gn, z_gnil, z_gcons, z_gtt, z_gttt, z_gsub, z_gsubd, z_ival, z_yes, z_onone, z_osome, z_sl, z_k0, List.getElem?_cons_succ, List.getElem?_cons_zero, List.set_cons_succ, List.set_cons_zero, eq_self, if_true, Bool.false_eq_true, if_false, List.length_cons, List.length_nil, Nat.zero_add, Nat.reduceAdd, Nat.reduceSub, List.map_cons, List.map_nil, List.cons_append, List.nil_append, Option.map_some, Bool.not_true, Bool.not_false, sz0, sz1, sz2, sz3, sz4, sz5, sz6, sz9, sz10, sz12, ← ho12, z_itl n12]
    simp only [loopR, z_itl n12, it, List.getElem?_cons_succ, List.getElem?_cons_zero, List.getElem?_nil, List.length_cons, List.length_nil, Nat.zero_add, Nat.reduceAdd]
    simp only [z_seq, z_set, z_if, z_asg, z_par, z_expr, z_ret, z_retn, z_skip, z_nx, z_rt, z_sok, z_bok, z_tb, z_tru, z_and, z_or, z_not, z_eif, z_e1, z_e2, z_lf, z_var, z_c, z_ch, z_sub, z_lt, z_le, z_gt, z_ge, z_add, z_neg, z_eqi, z_nei, z_eqs, z_nes, z_nil, z_cons, z_notv, z_tup, z_lst, z_cb, z_int, z_intb, z_max, z_min, z_abs, z_itt, z_call, z_gn, z_gnil, z_gcons, z_gtt, z_gttt, z_gsub, z_gsubd, z_ival, z_yes, z_onone, z_osome, z_sl, z_k0, List.getElem?_cons_succ, List.getElem?_cons_zero, List.set_cons_succ, List.set_cons_zero, eq_self, if_true, Bool.false_eq_true, if_false, List.length_cons, List.length_nil, Nat.zero_add, Nat.reduceAdd, Nat.reduceSub, List.map_cons, List.map_nil, List.cons_append, List.nil_append, Option.map_some, Bool.not_true, Bool.not_false, sz0, sz1, sz2, sz3, sz4, sz5, sz6, sz9, sz10, sz12, laid_ok w0, ← hT, ← hrx, ← hry, ad1, ad2, ad3, it, loopR]
    rw [← ho13]
    rfl
  have m13 : o13[m]? = some (cD M3) := by rw [ho13]; exact get_set m12
  have hm0 : m ≠ 0 := fun z => by rw [z, g12.1] at m12; cases m12
  have f13 : Fr [m] o12 o13 := by rw [ho13]; exact SK.Fr.set (by simp)
  have g13 : GN ns n o13 := g12.fr f13 (by simp; omega) (by simp; omega)
  have pm1 : ∀ oo : OH, pMul (.int q) (.int (length - hx)) oo = some (.int (q * (length - hx)), oo) := fun oo => z_mulr (by omega) (by omega)
  obtain ⟨d, o14, q14, d14, okd, f14⟩ := lengthened_f (s := s) (z := z) (l := l) (c := c) (by_ := q * (length - hx)) w0 ok14 (by omega) m13
  have m14 := f14.at (by simp) m13
  have e9 : lw9 [some (.ref 0), some (.int t), some (.ref n), some (.ref m), some (hdD N W C rule), some (.int N), some (.int W), some (.int C), some (.str rule), some (.int s), some (.int z), some (.int x), some (.int c), some (.int cx), some (.int coat), some (.int l), some (.int hx), some (.int q), some (.int length), some (.int x), some (.int length), some (.int coat), a22, a23, a24, a25] o13 = .nx [some (.ref 0), some (.int t), some (.ref n), some (.ref m), some (hdD N W C rule), some (.int N), some (.int W), some (.int C), some (.str rule), some (.int s), some (.int z), some (.int x), some (.int c), some (.int cx), some (.int coat), some (.int l), some (.int hx), some (.int q), some (.int length), some (.int x), some (.int length), some (.int coat), some (.ref d), a23, a24, a25] o14 := by
    unfold lw9
    simp only [z_seq, z_set, z_if, z_asg, z_par, z_expr, z_ret, z_retn, z_skip, z_nx, z_rt, z_sok, z_bok, z_tb, z_tru, z_and, z_or, z_not, z_eif, z_e1, z_e2, z_lf, z_var, z_c, z_ch, z_sub, z_lt, z_le, z_gt, z_ge, z_add, z_neg, z_eqi, z_nei, z_eqs, z_nes, z_nil, z_cons, z_notv, z_tup, z_lst, z_cb, z_int, z_intb, z_max, z_min, z_abs, z_itt, z_call, z_gn, z_gnil, z_gcons, z_gtt, z_gttt, z_gsub, z_gsubd, z_ival, z_yes, z_onone, z_osome, z_sl, z_k0, List.getElem?_cons_succ, List.getElem?_cons_zero, List.set_cons_succ, List.set_cons_zero, eq_self, if_true, Bool.false_eq_true, if_false, List.length_cons, List.length_nil, Nat.zero_add, Nat.reduceAdd, Nat.reduceSub, List.map_cons, List.map_nil, List.cons_append, List.nil_append, Option.map_some, Bool.not_true, Bool.not_false, sz0, sz1, sz2, sz3, sz4, sz5, sz6, sz9, sz10, sz12, pm1, q14]
  have sl : ∀ b1 b2 b3 b4 b5 b6 b7 b8 b9 b10 b11 : D, sel [0, 1, 2, 3, 4, 5, 6, 7, 8, 9, 10] [b1, b2, b3, b4, b5, b6, b7, b8, b9, b10, b11] = [b1, b2, b3, b4, b5, b6, b7, b8, b9, b10, b11] := fun _ _ _ _ _ _ _ _ _ _ _ => rfl
  have kr : PyData.strOk "round" = true := by decide +kernel
  have e10 : lw10 [some (.ref 0), some (.int t), some (.ref n), some (.ref m), some (hdD N W C rule), some (.int N), some (.int W), some (.int C), some (.str rule), some (.int s), some (.int z), some (.int x), some (.int c), some (.int cx), some (.int coat), some (.int l), some (.int hx), some (.int q), some (.int length), some (.int x), some (.int length), some (.int coat), some (.ref d), a23, a24, a25] o14 = .nx [some (.ref 0), some (.int t), some (.ref n), some (.ref m), some (hdD N W C rule), some (.int N), some (.int W), some (.int C), some (.str rule), some (.int s), some (.int z), some (.int x), some (.int c), some (.int cx), some (.int coat), some (.int l), some (.int hx), some (.int q), some (.int length), some (.int x), some (.int length), some (.int coat), some (.ref d), some (deedD "round" (rdK W s z l c x hx cx length coat q)), a24, a25] o14 := by
    unfold lw10
    simp only [z_seq, z_set, z_if, z_asg, z_par, z_expr, z_ret, z_retn, z_skip, z_nx, z_rt, z_sok, z_bok, z_tb, z_tru, z_and, z_or, z_not, z_eif, z_e1, z_e2, z_lf, z_var, z_c, z_ch, z_sub, z_lt, z_le, z_gt, z_ge, z_add, z_neg, z_eqi, z_nei, z_eqs, z_nes, z_nil, z_cons, z_notv, z_tup, z_lst, z_cb, z_int, z_intb, z_max, z_min, z_abs, z_itt, z_call, z_gn, z_gnil, z_gcons, z_gtt, z_gttt, z_gsub, z_gsubd, z_ival, z_yes, z_onone, z_osome, z_sl, z_k0, List.getElem?_cons_succ, List.getElem?_cons_zero, List.set_cons_succ, List.set_cons_zero, eq_self, if_true, Bool.false_eq_true, if_false, List.length_cons, List.length_nil, Nat.zero_add, Nat.reduceAdd, Nat.reduceSub, List.map_cons, List.map_nil, List.cons_append, List.nil_append, Option.map_some, Bool.not_true, Bool.not_false, sz0, sz1, sz2, sz3, sz4, sz5, sz6, sz9, sz10, sz12, z_callk, sl, round_ok w0 w6 qn]
  have e11 : lw11 [some (.ref 0), some (.int t), some (.ref n), some (.ref m), some (hdD N W C rule), some (.int N), some (.int W), some (.int C), some (.str rule), some (.int s), some (.int z), some (.int x), some (.int c), some (.int cx), some (.int coat), some (.int l), some (.int hx), some (.int q), some (.int length), some (.int x), some (.int length), some (.int coat), some (.ref d), some (deedD "round" (rdK W s z l c x hx cx length coat q)), a24, a25] o14 = .nx [some (.ref 0), some (.int t), some (.ref n), some (.ref m), some (hdD N W C rule), some (.int N), some (.int W), some (.int C), some (.str rule), some (.int s), some (.int z), some (.int x), some (.int c), some (.int cx), some (.int coat), some (.int l), some (.int hx), some (.int q), some (.int length), some (.int x), some (.int length), some (.int coat), some (.ref d), some (deedD "round" (rdK W s z l c x hx cx length coat q)), a24, a25] o14 := by
    unfold lw11
    simp only [z_seq, z_set, z_if, z_asg, z_par, z_expr, z_ret, z_retn, z_skip, z_nx, z_rt, z_sok, z_bok, z_tb, z_tru, z_and, z_or, z_not, z_eif, z_e1, z_e2, z_lf, z_var, z_c, z_ch, z_sub, z_lt, z_le, z_gt, z_ge, z_add, z_neg, z_eqi, z_nei, z_eqs, z_nes, z_nil, z_cons, z_notv, z_tup, z_lst, z_cb, z_int, z_intb, z_max, z_min, z_abs, z_itt, z_call, z_gn, z_gnil, z_gcons, z_gtt, z_gttt, z_gsub, z_gsubd, z_ival, z_yes, z_onone, z_osome, z_sl, z_k0, List.getElem?_cons_succ, List.getElem?_cons_zero, List.set_cons_succ, List.set_cons_zero, eq_self, if_true, Bool.false_eq_true, if_false, List.length_cons, List.length_nil, Nat.zero_add, Nat.reduceAdd, Nat.reduceSub, List.map_cons, List.map_nil, List.cons_append, List.nil_append, Option.map_some, Bool.not_true, Bool.not_false, sz0, sz1, sz2, sz3, sz4, sz5, sz6, sz9, sz10, sz12, deed_ok w0, ne_deed kr]
  have r9 : ∀ (l q : Int), (rdK W s z l c x hx cx length coat q)[9]? = some 1 := fun l q => by
    unfold rdK
    split <;> rfl
  have r10 : ∀ (l q j : Int), j = (if q < 0 then -q else q) → q ≠ 0 → (rdK W s z l c x hx cx length coat q)[10]? = some j := fun l q j hj hq => by
    unfold rdK
    split
    · rw [hj, if_neg (by omega)]
      rfl
    · rw [hj, if_pos (by omega)]
      rfl
  obtain ⟨j, hj⟩ : ∃ j, j = (if q < 0 then -q else q) := ⟨_, rfl⟩
  have j0 : 0 < j ∧ j < 10 ^ 40 := by rw [hj]; split <;> omega
  have L1 := rd_run (hx := hx) (length := length) (l := l) (q := q) hd hr hp ok14 (by omega) lc1 lc2 qn qa qb ⟨by omega, by omega⟩ lb (by rw [← hT]; exact cT) (by rw [← hrx]; exact crx) (by rw [← hry]; exact cry)
  obtain ⟨o15, q15, f15⟩ := right_f (q := q) ok14 (by omega) m14 (okd.mono (by omega)) d14 L1 (okd.mono (by omega)) (r9 l q) (r10 l q j hj qn) j0.1 j0.2 (fun k => rfl)
  have e12 : lw12 [some (.ref 0), some (.int t), some (.ref n), some (.ref m), some (hdD N W C rule), some (.int N), some (.int W), some (.int C), some (.str rule), some (.int s), some (.int z), some (.int x), some (.int c), some (.int cx), some (.int coat), some (.int l), some (.int hx), some (.int q), some (.int length), some (.int x), some (.int length), some (.int coat), some (.ref d), some (deedD "round" (rdK W s z l c x hx cx length coat q)), a24, a25] o14 = .nx [some (.ref 0), some (.int t), some (.ref n), some (.ref m), some (hdD N W C rule), some (.int N), some (.int W), some (.int C), some (.str rule), some (.int s), some (.int z), some (.int x), some (.int c), some (.int cx), some (.int coat), some (.int l), some (.int hx), some (.int q), some (.int length), some (.int x), some (.int length), some (.int coat), some (.ref d), some (deedD "round" (rdK W s z l c x hx cx length coat q)), a24, a25] o15 := by
    unfold lw12
    simp only [z_seq, z_set, z_if, z_asg, z_par, z_expr, z_ret, z_retn, z_skip, z_nx, z_rt, z_sok, z_bok, z_tb, z_tru, z_and, z_or, z_not, z_eif, z_e1, z_e2, z_lf, z_var, z_c, z_ch, z_sub, z_lt, z_le, z_gt, z_ge, z_add, z_neg, z_eqi, z_nei, z_eqs, z_nes, z_nil, z_cons, z_notv, z_tup, z_lst, z_cb, z_int, z_intb, z_max, z_min, z_abs, z_itt, z_call, z_gn, z_gnil, z_gcons, z_gtt, z_gttt, z_gsub, z_gsubd, z_ival, z_yes, z_onone, z_osome, z_sl, z_k0, List.getElem?_cons_succ, List.getElem?_cons_zero, List.set_cons_succ, List.set_cons_zero, eq_self, if_true, Bool.false_eq_true, if_false, List.length_cons, List.length_nil, Nat.zero_add, Nat.reduceAdd, Nat.reduceSub, List.map_cons, List.map_nil, List.cons_append, List.nil_append, Option.map_some, Bool.not_true, Bool.not_false, sz0, sz1, sz2, sz3, sz4, sz5, sz6, sz9, sz10, sz12, ← hj, q15, truD]
  have p40 : pPow (.int 10) (.int 40) o15 = some (.int (10 ^ 40), o15) := rfl
  have pg : pMul (.int q) (.int (10 ^ 40)) o15 = some (.int (q * 10 ^ 40), o15) := mul_big (by omega) (by omega) (by omega) (by omega)
  have gn : q * 10 ^ 40 ≠ 0 := by omega
  have e13 : lw13 [some (.ref 0), some (.int t), some (.ref n), some (.ref m), some (hdD N W C rule), some (.int N), some (.int W), some (.int C), some (.str rule), some (.int s), some (.int z), some (.int x), some (.int c), some (.int cx), some (.int coat), some (.int l), some (.int hx), some (.int q), some (.int length), some (.int x), some (.int length), some (.int coat), some (.ref d), some (deedD "round" (rdK W s z l c x hx cx length coat q)), a24, a25] o15 = .nx [some (.ref 0), some (.int t), some (.ref n), some (.ref m), some (hdD N W C rule), some (.int N), some (.int W), some (.int C), some (.str rule), some (.int s), some (.int z), some (.int x), some (.int c), some (.int cx), some (.int coat), some (.int l), some (.int hx), some (.int q), some (.int length), some (.int x), some (.int length), some (.int coat), some (.ref d), some (deedD "round" (rdK W s z l c x hx cx length coat q)), some (.int (q * 10 ^ 40)), a25] o15 := by
    unfold lw13
    simp only [z_seq, z_set, z_if, z_asg, z_par, z_expr, z_ret, z_retn, z_skip, z_nx, z_rt, z_sok, z_bok, z_tb, z_tru, z_and, z_or, z_not, z_eif, z_e1, z_e2, z_lf, z_var, z_c, z_ch, z_sub, z_lt, z_le, z_gt, z_ge, z_add, z_neg, z_eqi, z_nei, z_eqs, z_nes, z_nil, z_cons, z_notv, z_tup, z_lst, z_cb, z_int, z_intb, z_max, z_min, z_abs, z_itt, z_call, z_gn, z_gnil, z_gcons, z_gtt, z_gttt, z_gsub, z_gsubd, z_ival, z_yes, z_onone, z_osome, z_sl, z_k0, List.getElem?_cons_succ, List.getElem?_cons_zero, List.set_cons_succ, List.set_cons_zero, eq_self, if_true, Bool.false_eq_true, if_false, List.length_cons, List.length_nil, Nat.zero_add, Nat.reduceAdd, Nat.reduceSub, List.map_cons, List.map_nil, List.cons_append, List.nil_append, Option.map_some, Bool.not_true, Bool.not_false, sz0, sz1, sz2, sz3, sz4, sz5, sz6, sz9, sz10, sz12, p40, pg]
  have e14 : lw14 [some (.ref 0), some (.int t), some (.ref n), some (.ref m), some (hdD N W C rule), some (.int N), some (.int W), some (.int C), some (.str rule), some (.int s), some (.int z), some (.int x), some (.int c), some (.int cx), some (.int coat), some (.int l), some (.int hx), some (.int q), some (.int length), some (.int x), some (.int length), some (.int coat), some (.ref d), some (deedD "round" (rdK W s z l c x hx cx length coat q)), some (.int (q * 10 ^ 40)), a25] o15 = .nx [some (.ref 0), some (.int t), some (.ref n), some (.ref m), some (hdD N W C rule), some (.int N), some (.int W), some (.int C), some (.str rule), some (.int s), some (.int z), some (.int x), some (.int c), some (.int cx), some (.int coat), some (.int l), some (.int hx), some (.int q), some (.int length), some (.int x), some (.int length), some (.int coat), some (.ref d), some (deedD "round" (rdK W s z l c x hx cx length coat (q * 10 ^ 40))), some (.int (q * 10 ^ 40)), a25] o15 := by
    unfold lw14
    simp only [z_seq, z_set, z_if, z_asg, z_par, z_expr, z_ret, z_retn, z_skip, z_nx, z_rt, z_sok, z_bok, z_tb, z_tru, z_and, z_or, z_not, z_eif, z_e1, z_e2, z_lf, z_var, z_c, z_ch, z_sub, z_lt, z_le, z_gt, z_ge, z_add, z_neg, z_eqi, z_nei, z_eqs, z_nes, z_nil, z_cons, z_notv, z_tup, z_lst, z_cb, z_int, z_intb, z_max, z_min, z_abs, z_itt, z_call, z_gn, z_gnil, z_gcons, z_gtt, z_gttt, z_gsub, z_gsubd, z_ival, z_yes, z_onone, z_osome, z_sl, z_k0, List.getElem?_cons_succ, List.getElem?_cons_zero, List.set_cons_succ, List.set_cons_zero, eq_self, if_true, Bool.false_eq_true, if_false, List.length_cons, List.length_nil, Nat.zero_add, Nat.reduceAdd, Nat.reduceSub, List.map_cons, List.map_nil, List.cons_append, List.nil_append, Option.map_some, Bool.not_true, Bool.not_false, sz0, sz1, sz2, sz3, sz4, sz5, sz6, sz9, sz10, sz12, z_callk, sl, round_ok w0 w6 gn]
  have e15 : lw15 [some (.ref 0), some (.int t), some (.ref n), some (.ref m), some (hdD N W C rule), some (.int N), some (.int W), some (.int C), some (.str rule), some (.int s), some (.int z), some (.int x), some (.int c), some (.int cx), some (.int coat), some (.int l), some (.int hx), some (.int q), some (.int length), some (.int x), some (.int length), some (.int coat), some (.ref d), some (deedD "round" (rdK W s z l c x hx cx length coat (q * 10 ^ 40))), some (.int (q * 10 ^ 40)), a25] o15 = .nx [some (.ref 0), some (.int t), some (.ref n), some (.ref m), some (hdD N W C rule), some (.int N), some (.int W), some (.int C), some (.str rule), some (.int s), some (.int z), some (.int x), some (.int c), some (.int cx), some (.int coat), some (.int l), some (.int hx), some (.int q), some (.int length), some (.int x), some (.int length), some (.int coat), some (.ref d), some (deedD "round" (rdK W s z l c x hx cx length coat (q * 10 ^ 40))), some (.int (q * 10 ^ 40)), a25] o15 := by
    unfold lw15
    simp only [z_seq, z_set, z_if, z_asg, z_par, z_expr, z_ret, z_retn, z_skip, z_nx, z_rt, z_sok, z_bok, z_tb, z_tru, z_and, z_or, z_not, z_eif, z_e1, z_e2, z_lf, z_var, z_c, z_ch, z_sub, z_lt, z_le, z_gt, z_ge, z_add, z_neg, z_eqi, z_nei, z_eqs, z_nes, z_nil, z_cons, z_notv, z_tup, z_lst, z_cb, z_int, z_intb, z_max, z_min, z_abs, z_itt, z_call, z_gn, z_gnil, z_gcons, z_gtt, z_gttt, z_gsub, z_gsubd, z_ival, z_yes, z_onone, z_osome, z_sl, z_k0, List.getElem?_cons_succ, List.getElem?_cons_zero, List.set_cons_succ, List.set_cons_zero, eq_self, if_true, Bool.false_eq_true, if_false, List.length_cons, List.length_nil, Nat.zero_add, Nat.reduceAdd, Nat.reduceSub, List.map_cons, List.map_nil, List.cons_append, List.nil_append, Option.map_some, Bool.not_true, Bool.not_false, sz0, sz1, sz2, sz3, sz4, sz5, sz6, sz9, sz10, sz12, deed_ok w0, ne_deed kr]
  obtain ⟨now, hnow⟩ : ∃ k, k = (l + q * (length - hx)) % W := ⟨_, rfl⟩
  have e16 : lw16 [some (.ref 0), some (.int t), some (.ref n), some (.ref m), some (hdD N W C rule), some (.int N), some (.int W), some (.int C), some (.str rule), some (.int s), some (.int z), some (.int x), some (.int c), some (.int cx), some (.int coat), some (.int l), some (.int hx), some (.int q), some (.int length), some (.int x), some (.int length), some (.int coat), some (.ref d), some (deedD "round" (rdK W s z l c x hx cx length coat (q * 10 ^ 40))), some (.int (q * 10 ^ 40)), a25] o15 = .nx [some (.ref 0), some (.int t), some (.ref n), some (.ref m), some (hdD N W C rule), some (.int N), some (.int W), some (.int C), some (.str rule), some (.int s), some (.int z), some (.int x), some (.int c), some (.int cx), some (.int coat), some (.int l), some (.int hx), some (.int q), some (.int length), some (.int x), some (.int length), some (.int coat), some (.ref d), some (deedD "round" (rdK W s z l c x hx cx length coat (q * 10 ^ 40))), some (.int (q * 10 ^ 40)), some (.int now)] o15 := by
    unfold lw16
    simp only [z_seq, z_set, z_if, z_asg, z_par, z_expr, z_ret, z_retn, z_skip, z_nx, z_rt, z_sok, z_bok, z_tb, z_tru, z_and, z_or, z_not, z_eif, z_e1, z_e2, z_lf, z_var, z_c, z_ch, z_sub, z_lt, z_le, z_gt, z_ge, z_add, z_neg, z_eqi, z_nei, z_eqs, z_nes, z_nil, z_cons, z_notv, z_tup, z_lst, z_cb, z_int, z_intb, z_max, z_min, z_abs, z_itt, z_call, z_gn, z_gnil, z_gcons, z_gtt, z_gttt, z_gsub, z_gsubd, z_ival, z_yes, z_onone, z_osome, z_sl, z_k0, List.getElem?_cons_succ, List.getElem?_cons_zero, List.set_cons_succ, List.set_cons_zero, eq_self, if_true, Bool.false_eq_true, if_false, List.length_cons, List.length_nil, Nat.zero_add, Nat.reduceAdd, Nat.reduceSub, List.map_cons, List.map_nil, List.cons_append, List.nil_append, Option.map_some, Bool.not_true, Bool.not_false, sz0, sz1, sz2, sz3, sz4, sz5, sz6, sz9, sz10, sz12, pm1, rest_ok w0, ← hnow]
  have e17 : lw17 [some (.ref 0), some (.int t), some (.ref n), some (.ref m), some (hdD N W C rule), some (.int N), some (.int W), some (.int C), some (.str rule), some (.int s), some (.int z), some (.int x), some (.int c), some (.int cx), some (.int coat), some (.int l), some (.int hx), some (.int q), some (.int length), some (.int x), some (.int length), some (.int coat), some (.ref d), some (deedD "round" (rdK W s z l c x hx cx length coat (q * 10 ^ 40))), some (.int (q * 10 ^ 40)), some (.int now)] o15 = .nx [some (.ref 0), some (.int t), some (.ref n), some (.ref m), some (hdD N W C rule), some (.int N), some (.int W), some (.int C), some (.str rule), some (.int s), some (.int z), some (.int x), some (.int c), some (.int cx), some (.int coat), some (.int l), some (.int hx), some (.int q), some (.int length), some (.int x), some (.int length), some (.int coat), some (.ref d), some (deedD "round" (rdK W s z now c x hx cx length coat (-q))), some (.int (q * 10 ^ 40)), some (.int now)] o15 := by
    unfold lw17
    simp only [z_seq, z_set, z_if, z_asg, z_par, z_expr, z_ret, z_retn, z_skip, z_nx, z_rt, z_sok, z_bok, z_tb, z_tru, z_and, z_or, z_not, z_eif, z_e1, z_e2, z_lf, z_var, z_c, z_ch, z_sub, z_lt, z_le, z_gt, z_ge, z_add, z_neg, z_eqi, z_nei, z_eqs, z_nes, z_nil, z_cons, z_notv, z_tup, z_lst, z_cb, z_int, z_intb, z_max, z_min, z_abs, z_itt, z_call, z_gn, z_gnil, z_gcons, z_gtt, z_gttt, z_gsub, z_gsubd, z_ival, z_yes, z_onone, z_osome, z_sl, z_k0, List.getElem?_cons_succ, List.getElem?_cons_zero, List.set_cons_succ, List.set_cons_zero, eq_self, if_true, Bool.false_eq_true, if_false, List.length_cons, List.length_nil, Nat.zero_add, Nat.reduceAdd, Nat.reduceSub, List.map_cons, List.map_nil, List.cons_append, List.nil_append, Option.map_some, Bool.not_true, Bool.not_false, sz0, sz1, sz2, sz3, sz4, sz5, sz6, sz9, sz10, sz12, z_callk, sl, round_ok w0 w6 (show -q ≠ 0 by omega)]
  -- and back
  have m15 := f15.at (by simp) m14
  have d15 := f15.at (by simp) d14
  have eT' : laidZ s z (l + q * (length - hx)) c W = laidZ s z now c W := laid_cg (by rw [hnow]; exact (Cg.mod _ _).symm)
  have cN : 1 ≤ cget (lnM M3 W s z l c (l + q * (length - hx))) (laidZ s z now c W) := by
    unfold lnM
    rw [eT', cget_cadd, if_pos rfl, cget_cadd, ← hT]
    have := nn3 (laidZ s z now c W)
    by_cases w : laidZ s z now c W = T
    · rw [if_pos w]
      have : 1 ≤ cget M3 (laidZ s z now c W) := by rw [w]; exact cT
      omega
    · rw [if_neg w]
      omega
  have cX : ∀ (h cc : Int), 1 ≤ cget M3 (laidZ s x h cc W) → 1 ≤ cget (lnM M3 W s z l c (l + q * (length - hx))) (laidZ s x h cc W) := fun h cc hh => by
    unfold lnM
    rw [cget_cadd, cget_cadd, if_neg (laid_ne sx sz (fun w => zx w.symm)), if_neg (laid_ne sx sz (fun w => zx w.symm))]
    omega
  have L2 := rd_run (hx := hx) (length := length) (l := now) (q := -q) hd hr hp okd (by omega) lc1 lc2 (by omega) (by omega) (by omega) ⟨by omega, by omega⟩ lb cN (cX hx cx (by rw [← hrx]; exact crx)) (cX length coat (by rw [← hry]; exact cry))
  have okb : OkM (lnM (lnM M3 W s z l c (l + q * (length - hx))) W s z now c (now + -q * (length - hx))) 16 := okm_add (okm_add okd (laid_len ..)) (laid_len ..)
  have cb : ∀ k, cget (lnM (lnM M3 W s z l c (l + q * (length - hx))) W s z now c (now + -q * (length - hx))) k = cget M3 k := fun k => by
    have e5 : laidZ s z (now + -q * (length - hx)) c W = laidZ s z l c W := by
      refine laid_cg ?_
      have h1 : Cg W now (l + q * (length - hx)) := by rw [hnow]; exact Cg.mod _ _
      exact (h1.add (Cg.refl W (-q * (length - hx)))).trans (Cg.of_eq (by rw [Int.neg_mul]; omega))
    unfold lnM
    rw [e5, eT']
    simp only [cget_cadd, neg_if]
    omega
  obtain ⟨o16, q16, f16⟩ := right_f (q := q) okd (by omega) d15 (ok14.mono (by omega)) m15 L2 (okb.mono (by omega)) (r9 now (-q)) (r10 now (-q) j (by rw [hj]; split <;> split <;> omega) (by omega)) j0.1 j0.2 cb
  have e18 : lw18 [some (.ref 0), some (.int t), some (.ref n), some (.ref m), some (hdD N W C rule), some (.int N), some (.int W), some (.int C), some (.str rule), some (.int s), some (.int z), some (.int x), some (.int c), some (.int cx), some (.int coat), some (.int l), some (.int hx), some (.int q), some (.int length), some (.int x), some (.int length), some (.int coat), some (.ref d), some (deedD "round" (rdK W s z now c x hx cx length coat (-q))), some (.int (q * 10 ^ 40)), some (.int now)] o15 = .nx [some (.ref 0), some (.int t), some (.ref n), some (.ref m), some (hdD N W C rule), some (.int N), some (.int W), some (.int C), some (.str rule), some (.int s), some (.int z), some (.int x), some (.int c), some (.int cx), some (.int coat), some (.int l), some (.int hx), some (.int q), some (.int length), some (.int x), some (.int length), some (.int coat), some (.ref d), some (deedD "round" (rdK W s z now c x hx cx length coat (-q))), some (.int (q * 10 ^ 40)), some (.int now)] o16 := by
    unfold lw18
    simp only [z_seq, z_set, z_if, z_asg, z_par, z_expr, z_ret, z_retn, z_skip, z_nx, z_rt, z_sok, z_bok, z_tb, z_tru, z_and, z_or, z_not, z_eif, z_e1, z_e2, z_lf, z_var, z_c, z_ch, z_sub, z_lt, z_le, z_gt, z_ge, z_add, z_neg, z_eqi, z_nei, z_eqs, z_nes, z_nil, z_cons, z_notv, z_tup, z_lst, z_cb, z_int, z_intb, z_max, z_min, z_abs, z_itt, z_call, z_gn, z_gnil, z_gcons, z_gtt, z_gttt, z_gsub, z_gsubd, z_ival, z_yes, z_onone, z_osome, z_sl, z_k0, List.getElem?_cons_succ, List.getElem?_cons_zero, List.set_cons_succ, List.set_cons_zero, eq_self, if_true, Bool.false_eq_true, if_false, List.length_cons, List.length_nil, Nat.zero_add, Nat.reduceAdd, Nat.reduceSub, List.map_cons, List.map_nil, List.cons_append, List.nil_append, Option.map_some, Bool.not_true, Bool.not_false, sz0, sz1, sz2, sz3, sz4, sz5, sz6, sz9, sz10, sz12, ← hj, q16, truD]
  have m16 := f16.at (by simp) m15
  obtain ⟨d2, o17, q17, d17, okd2, f17⟩ := lengthened_f (s := s) (z := z) (l := l) (c := c) (by_ := length - hx) w0 ok14 (by omega) m16
  have m17 := f17.at (by simp) m16
  have e19 : lw19 [some (.ref 0), some (.int t), some (.ref n), some (.ref m), some (hdD N W C rule), some (.int N), some (.int W), some (.int C), some (.str rule), some (.int s), some (.int z), some (.int x), some (.int c), some (.int cx), some (.int coat), some (.int l), some (.int hx), some (.int q), some (.int length), some (.int x), some (.int length), some (.int coat), some (.ref d), some (deedD "round" (rdK W s z now c x hx cx length coat (-q))), some (.int (q * 10 ^ 40)), some (.int now)] o16 = .nx [some (.ref 0), some (.int t), some (.ref n), some (.ref m), some (hdD N W C rule), some (.int N), some (.int W), some (.int C), some (.str rule), some (.int s), some (.int z), some (.int x), some (.int c), some (.int cx), some (.int coat), some (.int l), some (.int hx), some (.int q), some (.int length), some (.int x), some (.int length), some (.int coat), some (.ref d2), some (deedD "round" (rdK W s z now c x hx cx length coat (-q))), some (.int (q * 10 ^ 40)), some (.int now)] o17 := by
    unfold lw19
    simp only [z_seq, z_set, z_if, z_asg, z_par, z_expr, z_ret, z_retn, z_skip, z_nx, z_rt, z_sok, z_bok, z_tb, z_tru, z_and, z_or, z_not, z_eif, z_e1, z_e2, z_lf, z_var, z_c, z_ch, z_sub, z_lt, z_le, z_gt, z_ge, z_add, z_neg, z_eqi, z_nei, z_eqs, z_nes, z_nil, z_cons, z_notv, z_tup, z_lst, z_cb, z_int, z_intb, z_max, z_min, z_abs, z_itt, z_call, z_gn, z_gnil, z_gcons, z_gtt, z_gttt, z_gsub, z_gsubd, z_ival, z_yes, z_onone, z_osome, z_sl, z_k0, List.getElem?_cons_succ, List.getElem?_cons_zero, List.set_cons_succ, List.set_cons_zero, eq_self, if_true, Bool.false_eq_true, if_false, List.length_cons, List.length_nil, Nat.zero_add, Nat.reduceAdd, Nat.reduceSub, List.map_cons, List.map_nil, List.cons_append, List.nil_append, Option.map_some, Bool.not_true, Bool.not_false, sz0, sz1, sz2, sz3, sz4, sz5, sz6, sz9, sz10, sz12, q17]
  have L3 := rd_run (hx := hx) (length := length) (l := l) (q := 1) hd hr hp ok14 (by omega) lc1 lc2 (by omega) (by omega) (by omega) ⟨by omega, by omega⟩ lb (by rw [← hT]; exact cT) (by rw [← hrx]; exact crx) (by rw [← hry]; exact cry)
  rw [Int.one_mul] at L3
  obtain ⟨o18, q18, f18⟩ := right_f (q := q) ok14 (by omega) m17 (okd2.mono (by omega)) d17 L3 (okd2.mono (by omega)) (r9 l 1) (r10 l 1 1 (by rw [if_neg (by omega)]) (by omega)) (by omega) (by omega) (fun k => rfl)
  have e20 : lw20 [some (.ref 0), some (.int t), some (.ref n), some (.ref m), some (hdD N W C rule), some (.int N), some (.int W), some (.int C), some (.str rule), some (.int s), some (.int z), some (.int x), some (.int c), some (.int cx), some (.int coat), some (.int l), some (.int hx), some (.int q), some (.int length), some (.int x), some (.int length), some (.int coat), some (.ref d2), some (deedD "round" (rdK W s z now c x hx cx length coat (-q))), some (.int (q * 10 ^ 40)), some (.int now)] o17 = .nx [some (.ref 0), some (.int t), some (.ref n), some (.ref m), some (hdD N W C rule), some (.int N), some (.int W), some (.int C), some (.str rule), some (.int s), some (.int z), some (.int x), some (.int c), some (.int cx), some (.int coat), some (.int l), some (.int hx), some (.int q), some (.int length), some (.int x), some (.int length), some (.int coat), some (.ref d2), some (deedD "round" (rdK W s z now c x hx cx length coat (-q))), some (.int (q * 10 ^ 40)), some (.int now)] o18 := by
    unfold lw20
    simp only [z_seq, z_set, z_if, z_asg, z_par, z_expr, z_ret, z_retn, z_skip, z_nx, z_rt, z_sok, z_bok, z_tb, z_tru, z_and, z_or, z_not, z_eif, z_e1, z_e2, z_lf, z_var, z_c, z_ch, z_sub, z_lt, z_le, z_gt, z_ge, z_add, z_neg, z_eqi, z_nei, z_eqs, z_nes, z_nil, z_cons, z_notv, z_tup, z_lst, z_cb, z_int, z_intb, z_max, z_min, z_abs, z_itt, z_call, z_gn, z_gnil, z_gcons, z_gtt, z_gttt, z_gsub, z_gsubd, z_ival, z_yes, z_onone, z_osome, z_sl, z_k0, List.getElem?_cons_succ, List.getElem?_cons_zero, List.set_cons_succ, List.set_cons_zero, eq_self, if_true, Bool.false_eq_true, if_false, List.length_cons, List.length_nil, Nat.zero_add, Nat.reduceAdd, Nat.reduceSub, List.map_cons, List.map_nil, List.cons_append, List.nil_append, Option.map_some, Bool.not_true, Bool.not_false, sz0, sz1, sz2, sz3, sz4, sz5, sz6, sz9, sz10, sz12, z_calld, round_ok w0 w6 (show (1 : Int) ≠ 0 by omega), q18, truD]
  have e21 : lw21 [some (.ref 0), some (.int t), some (.ref n), some (.ref m), some (hdD N W C rule), some (.int N), some (.int W), some (.int C), some (.str rule), some (.int s), some (.int z), some (.int x), some (.int c), some (.int cx), some (.int coat), some (.int l), some (.int hx), some (.int q), some (.int length), some (.int x), some (.int length), some (.int coat), some (.ref d2), some (deedD "round" (rdK W s z now c x hx cx length coat (-q))), some (.int (q * 10 ^ 40)), some (.int now)] o18 = .nx [some (.ref 0), some (.int t), some (.ref n), some (.ref m), some (hdD N W C rule), some (.int N), some (.int W), some (.int C), some (.str rule), some (.int s), some (.int z), some (.int x), some (.int c), some (.int cx), some (.int coat), some (.int l), some (.int hx), some (.int q), some (.int length), some (.int x), some (.int length), some (.int coat), some (.ref d2), some (deedD "round" (rdK W s z now c x hx cx length coat (-q))), some (.int (q * 10 ^ 40)), some (.int now)] o18 := by
    unfold lw21
    simp only [z_seq, z_set, z_if, z_asg, z_par, z_expr, z_ret, z_retn, z_skip, z_nx, z_rt, z_sok, z_bok, z_tb, z_tru, z_and, z_or, z_not, z_eif, z_e1, z_e2, z_lf, z_var, z_c, z_ch, z_sub, z_lt, z_le, z_gt, z_ge, z_add, z_neg, z_eqi, z_nei, z_eqs, z_nes, z_nil, z_cons, z_notv, z_tup, z_lst, z_cb, z_int, z_intb, z_max, z_min, z_abs, z_itt, z_call, z_gn, z_gnil, z_gcons, z_gtt, z_gttt, z_gsub, z_gsubd, z_ival, z_yes, z_onone, z_osome, z_sl, z_k0, List.getElem?_cons_succ, List.getElem?_cons_zero, List.set_cons_succ, List.set_cons_zero, eq_self, if_true, Bool.false_eq_true, if_false, List.length_cons, List.length_nil, Nat.zero_add, Nat.reduceAdd, Nat.reduceSub, List.map_cons, List.map_nil, List.cons_append, List.nil_append, Option.map_some, Bool.not_true, Bool.not_false, sz0, sz1, sz2, sz3, sz4, sz5, sz6, sz9, sz10, sz12, none_ok, truD]
  have r18 : o18[0]? = some (.ro (ns.map D.int)) := f18.at (by simp) (f17.at (by simp) (f16.at (by simp) (f15.at (by simp) (f14.at (by simp) g13.1))))
  refine ⟨[some (.ref 0), some (.int t), some (.ref n), some (.ref m), some (hdD N W C rule), some (.int N), some (.int W), some (.int C), some (.str rule), some (.int s), some (.int z), some (.int x), some (.int c), some (.int cx), some (.int coat), some (.int l), some (.int hx), some (.int q), some (.int length), some (.int x), some (.int length), some (.int coat), some (.ref d2), some (deedD "round" (rdK W s z now c x hx cx length coat (-q))), some (.int (q * 10 ^ 40)), some (.int now)], o18, ?_, r18, _, _, _, _, _, _, _, _, _, _, _, _, _, _, _, _, _, _, _, _, _, _, _, _, _, rfl⟩
  unfold lwall
  rw [z_seq, e0, z_nx, z_seq, e1, z_nx, z_seq, e2, z_nx, z_seq, e3, z_nx, z_seq, e4, z_nx, z_seq, e5, z_nx, z_seq, e6, z_nx, z_seq, e7, z_nx, z_seq, e8, z_nx, z_seq, e9, z_nx, z_seq, e10, z_nx, z_seq, e11, z_nx, z_seq, e12, z_nx, z_seq, e13, z_nx, z_seq, e14, z_nx, z_seq, e15, z_nx, z_seq, e16, z_nx, z_seq, e17, z_nx, z_seq, e18, z_nx, z_seq, e19, z_nx, z_seq, e20, z_nx, e21]
theorem law_eq : m_law = sSeq (sFor (iRange1 (aCons (eC (.int 5)) aNil)) (SK.gN 1) lwall) (sRet (eC (.bl true))) := rfl
theorem law_true (ns : List Int) (h1 : ns.length ≤ 63) (h2 : ∀ z ∈ ns, PySem.Builtin.Int.intBits z ≤ 1048576) : ∃ oh, f_law [.ref 0] [.ro (ns.map D.int)] = .ok (.bl true) oh := by
  have hr := z_r1 (ms := aCons (eC (.int 5)) aNil) (s := [some (.ref 0)] ++ List.replicate 25 none) (oh := [.ro (ns.map D.int)]) (oh' := [.ro (ns.map D.int)]) (j := 5) (by simp only [z_seq, z_set, z_if, z_asg, z_par, z_expr, z_ret, z_retn, z_skip, z_nx, z_rt, z_sok, z_bok, z_tb, z_tru, z_and, z_or, z_not, z_eif, z_e1, z_e2, z_lf, z_var, z_c, z_ch, z_sub, z_lt, z_le, z_gt, z_ge, z_add, z_neg, z_eqi, z_nei, z_eqs, z_nes, z_nil, z_cons, z_notv, z_tup, z_lst, z_cb, z_int, z_intb, z_max, z_min, z_abs, z_itt, z_call, z_gn, z_gnil, z_gcons, z_gtt, z_gttt, z_gsub, z_gsubd, z_ival, z_yes, z_onone, z_osome, z_sl, z_k0, List.getElem?_cons_succ, List.getElem?_cons_zero, List.set_cons_succ, List.set_cons_zero, eq_self, if_true, Bool.false_eq_true, if_false, List.length_cons, List.length_nil, Nat.zero_add, Nat.reduceAdd, Nat.reduceSub, List.map_cons, List.map_nil, List.cons_append, List.nil_append, Option.map_some, Bool.not_true, Bool.not_false, sz0, sz1, sz2, sz3, sz4, sz5, sz6, sz9, sz10, sz12]) (by omega) (by omega)
  obtain ⟨s', o', e, ho, c1, c2, c3, c4, c5, c6, c7, c8, c9, c10, c11, c12, c13, c14, c15, c16, c17, c18, c19, c20, c21, c22, c23, c24, c25, hs⟩ := forN_ind (g := SK.gN 1) (body := lwall) hr (fun i s o => o[0]? = some (.ro (ns.map D.int)) ∧ ∃ c1 c2 c3 c4 c5 c6 c7 c8 c9 c10 c11 c12 c13 c14 c15 c16 c17 c18 c19 c20 c21 c22 c23 c24 c25, s = [some (.ref 0), c1, c2, c3, c4, c5, c6, c7, c8, c9, c10, c11, c12, c13, c14, c15, c16, c17, c18, c19, c20, c21, c22, c23, c24, c25])
    ⟨rfl, none, none, none, none, none, none, none, none, none, none, none, none, none, none, none, none, none, none, none, none, none, none, none, none, none, rfl⟩
    (fun i s o hi ⟨ho, c1, c2, c3, c4, c5, c6, c7, c8, c9, c10, c11, c12, c13, c14, c15, c16, c17, c18, c19, c20, c21, c22, c23, c24, c25, hs⟩ => by
      subst hs
      obtain ⟨s2, o2, e2, h2, b⟩ := turn_ok (t := 0 + (i : Int)) (a1 := c1) (a2 := c2) (a3 := c3) (a4 := c4) (a5 := c5) (a6 := c6) (a7 := c7) (a8 := c8) (a9 := c9) (a10 := c10) (a11 := c11) (a12 := c12) (a13 := c13) (a14 := c14) (a15 := c15) (a16 := c16) (a17 := c17) (a18 := c18) (a19 := c19) (a20 := c20) (a21 := c21) (a22 := c22) (a23 := c23) (a24 := c24) (a25 := c25) ho (by omega) (by omega)
      exact ⟨_, o, rfl, s2, o2, e2, h2, b⟩)
  refine ⟨o', fn_ret (s := [some (.ref 0)] ++ List.replicate 25 none) rfl ?_⟩
  rw [law_eq, z_seq, e, z_nx]
  simp only [z_seq, z_set, z_if, z_asg, z_par, z_expr, z_ret, z_retn, z_skip, z_nx, z_rt, z_sok, z_bok, z_tb, z_tru, z_and, z_or, z_not, z_eif, z_e1, z_e2, z_lf, z_var, z_c, z_ch, z_sub, z_lt, z_le, z_gt, z_ge, z_add, z_neg, z_eqi, z_nei, z_eqs, z_nes, z_nil, z_cons, z_notv, z_tup, z_lst, z_cb, z_int, z_intb, z_max, z_min, z_abs, z_itt, z_call, z_gn, z_gnil, z_gcons, z_gtt, z_gttt, z_gsub, z_gsubd, z_ival, z_yes, z_onone, z_osome, z_sl, z_k0, List.getElem?_cons_succ, List.getElem?_cons_zero, List.set_cons_succ, List.set_cons_zero, eq_self, if_true, Bool.false_eq_true, if_false, List.length_cons, List.length_nil, Nat.zero_add, Nat.reduceAdd, Nat.reduceSub, List.map_cons, List.map_nil, List.cons_append, List.nil_append, Option.map_some, Bool.not_true, Bool.not_false, sz0, sz1, sz2, sz3, sz4, sz5, sz6, sz9, sz10, sz12]
end Wk
namespace Wk
open PySem PySem.Spec PyProof.Rows L2 SKX SK LamX
set_option maxHeartbeats 0 in
theorem all_mk {w : World} {K : PySem.W.Frag} {h : Heap} {mg : Str → Option Value} {fa : Addr} (X : K.In h) (G : h.Ns mainGlobals mg) (hfa : mg "law" = some (.ref fa))
    (law_true : ∀ (ns : List Int), ns.length ≤ 63 → (∀ z ∈ ns, Builtin.Int.intBits z ≤ 1048576) → ∃ oh, f_law [.ref 0] [.ro (ns.map D.int)] = .ok (.bl true) oh)
    {fI cc cda C_Refused C_BadWheel C_BadCount : Addr}
    {nm_Refused q_Refused : Str} {N_Refused : Addr} {bs_Refused bm_Refused : List Value} {sn_Refused : List Str} {sub_Refused : List Value} {ab_Refused : Bool} {col_Refused : Option Bool} {dd_Refused : Option Addr} {m0_Refused m1_Refused m2_Refused m3_Refused m5_Refused : Option Value}
    {nm_BadWheel q_BadWheel : Str} {N_BadWheel : Addr} {bs_BadWheel bm_BadWheel : List Value} {sn_BadWheel : List Str} {sub_BadWheel : List Value} {ab_BadWheel : Bool} {col_BadWheel : Option Bool} {dd_BadWheel : Option Addr} {m0_BadWheel m1_BadWheel m2_BadWheel m3_BadWheel m5_BadWheel : Option Value}
    {nm_BadCount q_BadCount : Str} {N_BadCount : Addr} {bs_BadCount bm_BadCount : List Value} {sn_BadCount : List Str} {sub_BadCount : List Value} {ab_BadCount : Bool} {col_BadCount : Option Bool} {dd_BadCount : Option Addr} {m0_BadCount m1_BadCount m2_BadCount m3_BadCount m5_BadCount : Option Value}
    {ocI : Value} {odI : Option Addr} {docI pmI : Value} {anI : Option Addr} {ctI : Value} {oslI : Array (Option Value)} {clc : Value} {cldc : Option Addr} {cslc : Array (Option Value)} {ecI : Value} {edI : Option Addr} {vsI : Array Value} {slI : Array (Option Value)} {fileI : Str} {tfI : Tok} {cdR : ClassData}
    {tk_CARRY : Tok}
    {tk_MOST_WHEEL : Tok}
    {tk_ROUND : Tok}
    {a_want_wheel : Addr} {od_want_wheel an_want_wheel : Option Addr} {sl_want_wheel : Array (Option Value)} {oc_want_wheel kV_want_wheel dc_want_wheel pm_want_wheel cd_want_wheel ct_want_wheel : Value}
    {a_left : Addr} {od_left an_left : Option Addr} {sl_left : Array (Option Value)} {oc_left kV_left dc_left pm_left cd_left ct_left : Value}
    {a_rest : Addr} {od_rest an_rest : Option Addr} {sl_rest : Array (Option Value)} {oc_rest kV_rest dc_rest pm_rest cd_rest ct_rest : Value}
    {a_slides_in : Addr} {od_slides_in an_slides_in : Option Addr} {sl_slides_in : Array (Option Value)} {oc_slides_in kV_slides_in dc_slides_in pm_slides_in cd_slides_in ct_slides_in : Value}
    {a_slides_of : Addr} {od_slides_of an_slides_of : Option Addr} {sl_slides_of : Array (Option Value)} {oc_slides_of kV_slides_of dc_slides_of pm_slides_of cd_slides_of ct_slides_of : Value}
    {a_round_deed : Addr} {od_round_deed an_round_deed : Option Addr} {sl_round_deed : Array (Option Value)} {oc_round_deed dc_round_deed pm_round_deed cd_round_deed ct_round_deed : Value}
    {Dk_round_deed : Addr} {tkd_round_deed : Tok}
    {a__law_pool : Addr} {od__law_pool an__law_pool : Option Addr} {sl__law_pool : Array (Option Value)} {oc__law_pool kV__law_pool dc__law_pool pm__law_pool cd__law_pool ct__law_pool : Value}
    {a__law_take : Addr} {od__law_take an__law_take : Option Addr} {sl__law_take : Array (Option Value)} {oc__law_take kV__law_take dc__law_take pm__law_take cd__law_take ct__law_take : Value}
    {a__law_one : Addr} {od__law_one an__law_one : Option Addr} {sl__law_one : Array (Option Value)} {oc__law_one kV__law_one dc__law_one pm__law_one cd__law_one ct__law_one : Value}
    {a__law_rest : Addr} {od__law_rest an__law_rest : Option Addr} {sl__law_rest : Array (Option Value)} {oc__law_rest kV__law_rest dc__law_rest pm__law_rest cd__law_rest ct__law_rest : Value}
    {a__law_laid : Addr} {od__law_laid an__law_laid : Option Addr} {sl__law_laid : Array (Option Value)} {oc__law_laid kV__law_laid dc__law_laid pm__law_laid cd__law_laid ct__law_laid : Value}
    {a__law_add : Addr} {od__law_add an__law_add : Option Addr} {sl__law_add : Array (Option Value)} {oc__law_add kV__law_add dc__law_add pm__law_add cd__law_add ct__law_add : Value}
    {a__law_told : Addr} {od__law_told an__law_told : Option Addr} {sl__law_told : Array (Option Value)} {oc__law_told kV__law_told dc__law_told pm__law_told cd__law_told ct__law_told : Value}
    {a__law_length : Addr} {od__law_length an__law_length : Option Addr} {sl__law_length : Array (Option Value)} {oc__law_length kV__law_length dc__law_length pm__law_length cd__law_length ct__law_length : Value}
    {a__law_head : Addr} {od__law_head an__law_head : Option Addr} {sl__law_head : Array (Option Value)} {oc__law_head kV__law_head dc__law_head pm__law_head cd__law_head ct__law_head : Value}
    {a__law_threads : Addr} {od__law_threads an__law_threads : Option Addr} {sl__law_threads : Array (Option Value)} {oc__law_threads kV__law_threads dc__law_threads pm__law_threads cd__law_threads ct__law_threads : Value}
    {a__law_three_coats : Addr} {od__law_three_coats an__law_three_coats : Option Addr} {sl__law_three_coats : Array (Option Value)} {oc__law_three_coats kV__law_three_coats dc__law_three_coats pm__law_three_coats cd__law_three_coats ct__law_three_coats : Value}
    {a__law_places : Addr} {od__law_places an__law_places : Option Addr} {sl__law_places : Array (Option Value)} {oc__law_places kV__law_places dc__law_places pm__law_places cd__law_places ct__law_places : Value}
    {a__law_lets : Addr} {od__law_lets an__law_lets : Option Addr} {sl__law_lets : Array (Option Value)} {oc__law_lets kV__law_lets dc__law_lets pm__law_lets cd__law_lets ct__law_lets : Value}
    {a__law_is_deed : Addr} {od__law_is_deed an__law_is_deed : Option Addr} {sl__law_is_deed : Array (Option Value)} {oc__law_is_deed kV__law_is_deed dc__law_is_deed pm__law_is_deed cd__law_is_deed ct__law_is_deed : Value}
    {a__law_walk : Addr} {od__law_walk an__law_walk : Option Addr} {sl__law_walk : Array (Option Value)} {oc__law_walk kV__law_walk dc__law_walk pm__law_walk cd__law_walk ct__law_walk : Value}
    {a__law_led : Addr} {od__law_led an__law_led : Option Addr} {sl__law_led : Array (Option Value)} {oc__law_led kV__law_led dc__law_led pm__law_led cd__law_led ct__law_led : Value}
    {a__law_rounds : Addr} {od__law_rounds an__law_rounds : Option Addr} {sl__law_rounds : Array (Option Value)} {oc__law_rounds kV__law_rounds dc__law_rounds pm__law_rounds cd__law_rounds ct__law_rounds : Value}
    {a__law_lengthened : Addr} {od__law_lengthened an__law_lengthened : Option Addr} {sl__law_lengthened : Array (Option Value)} {oc__law_lengthened kV__law_lengthened dc__law_lengthened pm__law_lengthened cd__law_lengthened ct__law_lengthened : Value}
    {a__law_right : Addr} {od__law_right an__law_right : Option Addr} {sl__law_right : Array (Option Value)} {oc__law_right kV__law_right dc__law_right pm__law_right cd__law_right ct__law_right : Value}
    {a__law_deed : Addr} {od__law_deed an__law_deed : Option Addr} {sl__law_deed : Array (Option Value)} {oc__law_deed kV__law_deed dc__law_deed pm__law_deed cd__law_deed ct__law_deed : Value}
    {a__law_none_refused : Addr} {od__law_none_refused an__law_none_refused : Option Addr} {sl__law_none_refused : Array (Option Value)} {oc__law_none_refused kV__law_none_refused dc__law_none_refused pm__law_none_refused cd__law_none_refused ct__law_none_refused : Value}
    {a_law : Addr} {od_law an_law : Option Addr} {sl_law : Array (Option Value)} {oc_law kV_law dc_law pm_law cd_law ct_law : Value}
    (ns_Refused : PySem.W.nsIn K mainGlobals "Refused" = some (some (.ref C_Refused)))
    (xL_Refused : K.lookup C_Refused = some (excClassObj nm_Refused q_Refused C_Refused N_Refused bs_Refused bm_Refused true sn_Refused sub_Refused ab_Refused col_Refused dd_Refused m0_Refused m1_Refused m2_Refused m3_Refused m5_Refused "ValueError.__new__"))
    (rv_Refused : PySem.HandSPX.refsVE bm_Refused = true)
    (sa_Refused : PySem.W.findIn K (.ref C_Refused) "__setattr__" = some (some (.builtin "object.__setattr__")))
    (ga_Refused : PySem.W.findIn K (.ref C_Refused) "__getattribute__" = some (some (.builtin "BaseException.__getattribute__")))
    (gg_Refused : PySem.W.findIn K (.ref C_Refused) "__getattr__" = some none)
    (nw_Refused : PySem.W.findIn K (.ref C_Refused) "what" = some none)
    (iC_Refused : PySem.W.findIn K (.ref C_Refused) "__init__" = some (some (.ref fI)))
    (kC_Refused : PySem.W.keepIn K (.ref C_Refused) = true)
    (eC_Refused : PySem.W.subIn K (.ref C_Refused) (.type "BaseException") = some true)
    (vC_Refused : PySem.W.subIn K (.ref C_Refused) (.type "ValueError") = some true)
    (tC_Refused : PySem.W.typeIn K (.ref C_Refused) = some (.type "type"))
    (hC_Refused : PySem.W.hasDictIn K C_Refused = true)
    (mR_Refused : PySem.W.mroIn K C_Refused (.ref C_Refused) = some true)
    (su_Refused : PySem.W.ks_superIn K C_Refused C_Refused "__init__" = some (some (.builtin "ValueError.__init__")))
    (in_Refused : PySem.W.excInitIn K C_Refused PySem.HandSPX.veTail "ValueError.__new__" = true)
    (cl_Refused : PySem.W.findIn K (.ref C_Refused) "__class__" = some (some (.builtin "object.__class__")))
    (mO_Refused : PySem.W.mroIn K C_Refused (.type "object") = some true)
    (ns_BadWheel : PySem.W.nsIn K mainGlobals "BadWheel" = some (some (.ref C_BadWheel)))
    (xL_BadWheel : K.lookup C_BadWheel = some (excClassObj nm_BadWheel q_BadWheel C_BadWheel N_BadWheel bs_BadWheel bm_BadWheel true sn_BadWheel sub_BadWheel ab_BadWheel col_BadWheel dd_BadWheel m0_BadWheel m1_BadWheel m2_BadWheel m3_BadWheel m5_BadWheel "ValueError.__new__"))
    (rv_BadWheel : PySem.HandSPX.refsVE bm_BadWheel = true)
    (sa_BadWheel : PySem.W.findIn K (.ref C_BadWheel) "__setattr__" = some (some (.builtin "object.__setattr__")))
    (ga_BadWheel : PySem.W.findIn K (.ref C_BadWheel) "__getattribute__" = some (some (.builtin "BaseException.__getattribute__")))
    (gg_BadWheel : PySem.W.findIn K (.ref C_BadWheel) "__getattr__" = some none)
    (nw_BadWheel : PySem.W.findIn K (.ref C_BadWheel) "what" = some none)
    (iC_BadWheel : PySem.W.findIn K (.ref C_BadWheel) "__init__" = some (some (.ref fI)))
    (kC_BadWheel : PySem.W.keepIn K (.ref C_BadWheel) = true)
    (eC_BadWheel : PySem.W.subIn K (.ref C_BadWheel) (.type "BaseException") = some true)
    (vC_BadWheel : PySem.W.subIn K (.ref C_BadWheel) (.type "ValueError") = some true)
    (tC_BadWheel : PySem.W.typeIn K (.ref C_BadWheel) = some (.type "type"))
    (hC_BadWheel : PySem.W.hasDictIn K C_BadWheel = true)
    (mR_BadWheel : PySem.W.mroIn K C_BadWheel (.ref C_Refused) = some true)
    (su_BadWheel : PySem.W.ks_superIn K C_BadWheel C_Refused "__init__" = some (some (.builtin "ValueError.__init__")))
    (in_BadWheel : PySem.W.excInitIn K C_BadWheel PySem.HandSPX.veTail "ValueError.__new__" = true)
    (cl_BadWheel : PySem.W.findIn K (.ref C_BadWheel) "__class__" = some (some (.builtin "object.__class__")))
    (mO_BadWheel : PySem.W.mroIn K C_BadWheel (.type "object") = some true)
    (ns_BadCount : PySem.W.nsIn K mainGlobals "BadCount" = some (some (.ref C_BadCount)))
    (xL_BadCount : K.lookup C_BadCount = some (excClassObj nm_BadCount q_BadCount C_BadCount N_BadCount bs_BadCount bm_BadCount true sn_BadCount sub_BadCount ab_BadCount col_BadCount dd_BadCount m0_BadCount m1_BadCount m2_BadCount m3_BadCount m5_BadCount "ValueError.__new__"))
    (rv_BadCount : PySem.HandSPX.refsVE bm_BadCount = true)
    (sa_BadCount : PySem.W.findIn K (.ref C_BadCount) "__setattr__" = some (some (.builtin "object.__setattr__")))
    (ga_BadCount : PySem.W.findIn K (.ref C_BadCount) "__getattribute__" = some (some (.builtin "BaseException.__getattribute__")))
    (gg_BadCount : PySem.W.findIn K (.ref C_BadCount) "__getattr__" = some none)
    (nw_BadCount : PySem.W.findIn K (.ref C_BadCount) "what" = some none)
    (iC_BadCount : PySem.W.findIn K (.ref C_BadCount) "__init__" = some (some (.ref fI)))
    (kC_BadCount : PySem.W.keepIn K (.ref C_BadCount) = true)
    (eC_BadCount : PySem.W.subIn K (.ref C_BadCount) (.type "BaseException") = some true)
    (vC_BadCount : PySem.W.subIn K (.ref C_BadCount) (.type "ValueError") = some true)
    (tC_BadCount : PySem.W.typeIn K (.ref C_BadCount) = some (.type "type"))
    (hC_BadCount : PySem.W.hasDictIn K C_BadCount = true)
    (mR_BadCount : PySem.W.mroIn K C_BadCount (.ref C_Refused) = some true)
    (su_BadCount : PySem.W.ks_superIn K C_BadCount C_Refused "__init__" = some (some (.builtin "ValueError.__init__")))
    (in_BadCount : PySem.W.excInitIn K C_BadCount PySem.HandSPX.veTail "ValueError.__new__" = true)
    (cl_BadCount : PySem.W.findIn K (.ref C_BadCount) "__class__" = some (some (.builtin "object.__class__")))
    (mO_BadCount : PySem.W.mroIn K C_BadCount (.type "object") = some true)
    (tI : PySem.W.typeIn K (.ref fI) = some (.type "function"))
    (clN : PySem.W.specialIn K (.builtin "object.__class__") "__get__" = some (some (.builtin "getset_descriptor.__get__")))
    (clT : PySem.W.takesIn K (.builtin "object.__class__") = some true)
    (lI : K.lookup fI = some ⟨ocI, odI, .func (PySem.W.ksFn "__init__" "Refused.__init__" (SKX.rA ⟨4, 17, 4, 21⟩ ⟨4, 23, 4, 27⟩) (SKX.rB ⟨5, 8, 5, 13⟩ ⟨5, 8, 5, 15⟩ ⟨5, 8, 5, 24⟩ ⟨5, 25, 5, 34⟩ ⟨5, 8, 5, 35⟩ ⟨5, 8, 5, 35⟩ ⟨6, 8, 6, 12⟩ ⟨6, 8, 6, 17⟩ ⟨6, 20, 6, 24⟩ ⟨6, 8, 6, 24⟩ 0 "refused") SKX.rS .none .none docI pmI anI (.ref cda) ctI cc), oslI⟩)
    (cI : PySem.W.codeIn K (.ref cda) "Refused.__init__" = true)
    (lcc : K.lookup cc = some ⟨clc, cldc, .cell (some (.ref C_Refused)), cslc⟩)
    (lcd : K.lookup cda = some ⟨ecI, edI, .fields vsI, slI⟩)
    (v2 : vsI[2]? = some (.str fileI tfI))
    (fi : ((PySem.Challenge.pw_skeinturns_k22_threads_go_round.main.file : Str) == fileI) = true)
    (isR : PySem.W.clsIn K C_Refused = some cdR)
    (nsS : PySem.W.nsIn K mainGlobals "super" = some none)
    (opq : PySem.W.nsIn K PySem.cStatics "thirdparty.any" = some none)
    (ng_CARRY : PySem.W.nsIn K mainGlobals "CARRY" = some (some (.str "carry" tk_CARRY)))
    (ng_MOST_WHEEL : PySem.W.nsIn K mainGlobals "MOST_WHEEL" = some (some (.int 1000000 tk_MOST_WHEEL)))
    (ng_ROUND : PySem.W.nsIn K mainGlobals "ROUND" = some (some (.str "round" tk_ROUND)))
    (nb_abs : PySem.W.nsIn K mainGlobals "abs" = some none)
    (nb_all : PySem.W.nsIn K mainGlobals "all" = some none)
    (nb_any : PySem.W.nsIn K mainGlobals "any" = some none)
    (nb_bool : PySem.W.nsIn K mainGlobals "bool" = some none)
    (nb_dict : PySem.W.nsIn K mainGlobals "dict" = some none)
    (nb_int : PySem.W.nsIn K mainGlobals "int" = some none)
    (nb_isinstance : PySem.W.nsIn K mainGlobals "isinstance" = some none)
    (nb_len : PySem.W.nsIn K mainGlobals "len" = some none)
    (nb_list : PySem.W.nsIn K mainGlobals "list" = some none)
    (nb_max : PySem.W.nsIn K mainGlobals "max" = some none)
    (nb_range : PySem.W.nsIn K mainGlobals "range" = some none)
    (nb_sorted : PySem.W.nsIn K mainGlobals "sorted" = some none)
    (nb_sum : PySem.W.nsIn K mainGlobals "sum" = some none)
    (nb_tuple : PySem.W.nsIn K mainGlobals "tuple" = some none)
    (na_want_wheel : PySem.W.nsIn K mainGlobals "want_wheel" = some (some (.ref a_want_wheel)))
    (lk_want_wheel : K.lookup a_want_wheel = some ⟨oc_want_wheel, od_want_wheel, .func (PySem.W.fnOf "want_wheel" "want_wheel" (defArgs s_want_wheel) (defBody s_want_wheel) (defScope s_want_wheel) .none kV_want_wheel dc_want_wheel pm_want_wheel an_want_wheel cd_want_wheel ct_want_wheel), sl_want_wheel⟩)
    (ci_want_wheel : PySem.W.codeIn K cd_want_wheel "want_wheel" = true)
    (kp_want_wheel : PySem.W.keepIn K (.ref a_want_wheel) = true)
    (na_left : PySem.W.nsIn K mainGlobals "left" = some (some (.ref a_left)))
    (lk_left : K.lookup a_left = some ⟨oc_left, od_left, .func (PySem.W.fnOf "left" "left" (defArgs s_left) (defBody s_left) (defScope s_left) .none kV_left dc_left pm_left an_left cd_left ct_left), sl_left⟩)
    (ci_left : PySem.W.codeIn K cd_left "left" = true)
    (kp_left : PySem.W.keepIn K (.ref a_left) = true)
    (na_rest : PySem.W.nsIn K mainGlobals "rest" = some (some (.ref a_rest)))
    (lk_rest : K.lookup a_rest = some ⟨oc_rest, od_rest, .func (PySem.W.fnOf "rest" "rest" (defArgs s_rest) (defBody s_rest) (defScope s_rest) .none kV_rest dc_rest pm_rest an_rest cd_rest ct_rest), sl_rest⟩)
    (ci_rest : PySem.W.codeIn K cd_rest "rest" = true)
    (kp_rest : PySem.W.keepIn K (.ref a_rest) = true)
    (na_slides_in : PySem.W.nsIn K mainGlobals "slides_in" = some (some (.ref a_slides_in)))
    (lk_slides_in : K.lookup a_slides_in = some ⟨oc_slides_in, od_slides_in, .func (PySem.W.fnOf "slides_in" "slides_in" (defArgs s_slides_in) (defBody s_slides_in) (defScope s_slides_in) .none kV_slides_in dc_slides_in pm_slides_in an_slides_in cd_slides_in ct_slides_in), sl_slides_in⟩)
    (ci_slides_in : PySem.W.codeIn K cd_slides_in "slides_in" = true)
    (kp_slides_in : PySem.W.keepIn K (.ref a_slides_in) = true)
    (na_slides_of : PySem.W.nsIn K mainGlobals "slides_of" = some (some (.ref a_slides_of)))
    (lk_slides_of : K.lookup a_slides_of = some ⟨oc_slides_of, od_slides_of, .func (PySem.W.fnOf "slides_of" "slides_of" (defArgs s_slides_of) (defBody s_slides_of) (defScope s_slides_of) .none kV_slides_of dc_slides_of pm_slides_of an_slides_of cd_slides_of ct_slides_of), sl_slides_of⟩)
    (ci_slides_of : PySem.W.codeIn K cd_slides_of "slides_of" = true)
    (kp_slides_of : PySem.W.keepIn K (.ref a_slides_of) = true)
    (na_round_deed : PySem.W.nsIn K mainGlobals "round_deed" = some (some (.ref a_round_deed)))
    (lk_round_deed : K.lookup a_round_deed = some ⟨oc_round_deed, od_round_deed, .func (PySem.W.fnOf "round_deed" "round_deed" (defArgs s_round_deed) (defBody s_round_deed) (defScope s_round_deed) .none (.ref Dk_round_deed) dc_round_deed pm_round_deed an_round_deed cd_round_deed ct_round_deed), sl_round_deed⟩)
    (nk_round_deed : PySem.W.nsIn K Dk_round_deed "q" = some (some (.int 1 tkd_round_deed)))
    (ci_round_deed : PySem.W.codeIn K cd_round_deed "round_deed" = true)
    (kp_round_deed : PySem.W.keepIn K (.ref a_round_deed) = true)
    (na__law_pool : PySem.W.nsIn K mainGlobals "_law_pool" = some (some (.ref a__law_pool)))
    (lk__law_pool : K.lookup a__law_pool = some ⟨oc__law_pool, od__law_pool, .func (PySem.W.fnOf "_law_pool" "_law_pool" (defArgs s__law_pool) (defBody s__law_pool) (defScope s__law_pool) .none kV__law_pool dc__law_pool pm__law_pool an__law_pool cd__law_pool ct__law_pool), sl__law_pool⟩)
    (ci__law_pool : PySem.W.codeIn K cd__law_pool "_law_pool" = true)
    (kp__law_pool : PySem.W.keepIn K (.ref a__law_pool) = true)
    (na__law_take : PySem.W.nsIn K mainGlobals "_law_take" = some (some (.ref a__law_take)))
    (lk__law_take : K.lookup a__law_take = some ⟨oc__law_take, od__law_take, .func (PySem.W.fnOf "_law_take" "_law_take" (defArgs s__law_take) (defBody s__law_take) (defScope s__law_take) .none kV__law_take dc__law_take pm__law_take an__law_take cd__law_take ct__law_take), sl__law_take⟩)
    (ci__law_take : PySem.W.codeIn K cd__law_take "_law_take" = true)
    (kp__law_take : PySem.W.keepIn K (.ref a__law_take) = true)
    (na__law_one : PySem.W.nsIn K mainGlobals "_law_one" = some (some (.ref a__law_one)))
    (lk__law_one : K.lookup a__law_one = some ⟨oc__law_one, od__law_one, .func (PySem.W.fnOf "_law_one" "_law_one" (defArgs s__law_one) (defBody s__law_one) (defScope s__law_one) .none kV__law_one dc__law_one pm__law_one an__law_one cd__law_one ct__law_one), sl__law_one⟩)
    (ci__law_one : PySem.W.codeIn K cd__law_one "_law_one" = true)
    (kp__law_one : PySem.W.keepIn K (.ref a__law_one) = true)
    (na__law_rest : PySem.W.nsIn K mainGlobals "_law_rest" = some (some (.ref a__law_rest)))
    (lk__law_rest : K.lookup a__law_rest = some ⟨oc__law_rest, od__law_rest, .func (PySem.W.fnOf "_law_rest" "_law_rest" (defArgs s__law_rest) (defBody s__law_rest) (defScope s__law_rest) .none kV__law_rest dc__law_rest pm__law_rest an__law_rest cd__law_rest ct__law_rest), sl__law_rest⟩)
    (ci__law_rest : PySem.W.codeIn K cd__law_rest "_law_rest" = true)
    (kp__law_rest : PySem.W.keepIn K (.ref a__law_rest) = true)
    (na__law_laid : PySem.W.nsIn K mainGlobals "_law_laid" = some (some (.ref a__law_laid)))
    (lk__law_laid : K.lookup a__law_laid = some ⟨oc__law_laid, od__law_laid, .func (PySem.W.fnOf "_law_laid" "_law_laid" (defArgs s__law_laid) (defBody s__law_laid) (defScope s__law_laid) .none kV__law_laid dc__law_laid pm__law_laid an__law_laid cd__law_laid ct__law_laid), sl__law_laid⟩)
    (ci__law_laid : PySem.W.codeIn K cd__law_laid "_law_laid" = true)
    (kp__law_laid : PySem.W.keepIn K (.ref a__law_laid) = true)
    (na__law_add : PySem.W.nsIn K mainGlobals "_law_add" = some (some (.ref a__law_add)))
    (lk__law_add : K.lookup a__law_add = some ⟨oc__law_add, od__law_add, .func (PySem.W.fnOf "_law_add" "_law_add" (defArgs s__law_add) (defBody s__law_add) (defScope s__law_add) .none kV__law_add dc__law_add pm__law_add an__law_add cd__law_add ct__law_add), sl__law_add⟩)
    (ci__law_add : PySem.W.codeIn K cd__law_add "_law_add" = true)
    (kp__law_add : PySem.W.keepIn K (.ref a__law_add) = true)
    (na__law_told : PySem.W.nsIn K mainGlobals "_law_told" = some (some (.ref a__law_told)))
    (lk__law_told : K.lookup a__law_told = some ⟨oc__law_told, od__law_told, .func (PySem.W.fnOf "_law_told" "_law_told" (defArgs s__law_told) (defBody s__law_told) (defScope s__law_told) .none kV__law_told dc__law_told pm__law_told an__law_told cd__law_told ct__law_told), sl__law_told⟩)
    (ci__law_told : PySem.W.codeIn K cd__law_told "_law_told" = true)
    (kp__law_told : PySem.W.keepIn K (.ref a__law_told) = true)
    (na__law_length : PySem.W.nsIn K mainGlobals "_law_length" = some (some (.ref a__law_length)))
    (lk__law_length : K.lookup a__law_length = some ⟨oc__law_length, od__law_length, .func (PySem.W.fnOf "_law_length" "_law_length" (defArgs s__law_length) (defBody s__law_length) (defScope s__law_length) .none kV__law_length dc__law_length pm__law_length an__law_length cd__law_length ct__law_length), sl__law_length⟩)
    (ci__law_length : PySem.W.codeIn K cd__law_length "_law_length" = true)
    (kp__law_length : PySem.W.keepIn K (.ref a__law_length) = true)
    (na__law_head : PySem.W.nsIn K mainGlobals "_law_head" = some (some (.ref a__law_head)))
    (lk__law_head : K.lookup a__law_head = some ⟨oc__law_head, od__law_head, .func (PySem.W.fnOf "_law_head" "_law_head" (defArgs s__law_head) (defBody s__law_head) (defScope s__law_head) .none kV__law_head dc__law_head pm__law_head an__law_head cd__law_head ct__law_head), sl__law_head⟩)
    (ci__law_head : PySem.W.codeIn K cd__law_head "_law_head" = true)
    (kp__law_head : PySem.W.keepIn K (.ref a__law_head) = true)
    (na__law_threads : PySem.W.nsIn K mainGlobals "_law_threads" = some (some (.ref a__law_threads)))
    (lk__law_threads : K.lookup a__law_threads = some ⟨oc__law_threads, od__law_threads, .func (PySem.W.fnOf "_law_threads" "_law_threads" (defArgs s__law_threads) (defBody s__law_threads) (defScope s__law_threads) .none kV__law_threads dc__law_threads pm__law_threads an__law_threads cd__law_threads ct__law_threads), sl__law_threads⟩)
    (ci__law_threads : PySem.W.codeIn K cd__law_threads "_law_threads" = true)
    (kp__law_threads : PySem.W.keepIn K (.ref a__law_threads) = true)
    (na__law_three_coats : PySem.W.nsIn K mainGlobals "_law_three_coats" = some (some (.ref a__law_three_coats)))
    (lk__law_three_coats : K.lookup a__law_three_coats = some ⟨oc__law_three_coats, od__law_three_coats, .func (PySem.W.fnOf "_law_three_coats" "_law_three_coats" (defArgs s__law_three_coats) (defBody s__law_three_coats) (defScope s__law_three_coats) .none kV__law_three_coats dc__law_three_coats pm__law_three_coats an__law_three_coats cd__law_three_coats ct__law_three_coats), sl__law_three_coats⟩)
    (ci__law_three_coats : PySem.W.codeIn K cd__law_three_coats "_law_three_coats" = true)
    (kp__law_three_coats : PySem.W.keepIn K (.ref a__law_three_coats) = true)
    (na__law_places : PySem.W.nsIn K mainGlobals "_law_places" = some (some (.ref a__law_places)))
    (lk__law_places : K.lookup a__law_places = some ⟨oc__law_places, od__law_places, .func (PySem.W.fnOf "_law_places" "_law_places" (defArgs s__law_places) (defBody s__law_places) (defScope s__law_places) .none kV__law_places dc__law_places pm__law_places an__law_places cd__law_places ct__law_places), sl__law_places⟩)
    (ci__law_places : PySem.W.codeIn K cd__law_places "_law_places" = true)
    (kp__law_places : PySem.W.keepIn K (.ref a__law_places) = true)
    (na__law_lets : PySem.W.nsIn K mainGlobals "_law_lets" = some (some (.ref a__law_lets)))
    (lk__law_lets : K.lookup a__law_lets = some ⟨oc__law_lets, od__law_lets, .func (PySem.W.fnOf "_law_lets" "_law_lets" (defArgs s__law_lets) (defBody s__law_lets) (defScope s__law_lets) .none kV__law_lets dc__law_lets pm__law_lets an__law_lets cd__law_lets ct__law_lets), sl__law_lets⟩)
    (ci__law_lets : PySem.W.codeIn K cd__law_lets "_law_lets" = true)
    (kp__law_lets : PySem.W.keepIn K (.ref a__law_lets) = true)
    (na__law_is_deed : PySem.W.nsIn K mainGlobals "_law_is_deed" = some (some (.ref a__law_is_deed)))
    (lk__law_is_deed : K.lookup a__law_is_deed = some ⟨oc__law_is_deed, od__law_is_deed, .func (PySem.W.fnOf "_law_is_deed" "_law_is_deed" (defArgs s__law_is_deed) (defBody s__law_is_deed) (defScope s__law_is_deed) .none kV__law_is_deed dc__law_is_deed pm__law_is_deed an__law_is_deed cd__law_is_deed ct__law_is_deed), sl__law_is_deed⟩)
    (ci__law_is_deed : PySem.W.codeIn K cd__law_is_deed "_law_is_deed" = true)
    (kp__law_is_deed : PySem.W.keepIn K (.ref a__law_is_deed) = true)
    (na__law_walk : PySem.W.nsIn K mainGlobals "_law_walk" = some (some (.ref a__law_walk)))
    (lk__law_walk : K.lookup a__law_walk = some ⟨oc__law_walk, od__law_walk, .func (PySem.W.fnOf "_law_walk" "_law_walk" (defArgs s__law_walk) (defBody s__law_walk) (defScope s__law_walk) .none kV__law_walk dc__law_walk pm__law_walk an__law_walk cd__law_walk ct__law_walk), sl__law_walk⟩)
    (ci__law_walk : PySem.W.codeIn K cd__law_walk "_law_walk" = true)
    (kp__law_walk : PySem.W.keepIn K (.ref a__law_walk) = true)
    (na__law_led : PySem.W.nsIn K mainGlobals "_law_led" = some (some (.ref a__law_led)))
    (lk__law_led : K.lookup a__law_led = some ⟨oc__law_led, od__law_led, .func (PySem.W.fnOf "_law_led" "_law_led" (defArgs s__law_led) (defBody s__law_led) (defScope s__law_led) .none kV__law_led dc__law_led pm__law_led an__law_led cd__law_led ct__law_led), sl__law_led⟩)
    (ci__law_led : PySem.W.codeIn K cd__law_led "_law_led" = true)
    (kp__law_led : PySem.W.keepIn K (.ref a__law_led) = true)
    (na__law_rounds : PySem.W.nsIn K mainGlobals "_law_rounds" = some (some (.ref a__law_rounds)))
    (lk__law_rounds : K.lookup a__law_rounds = some ⟨oc__law_rounds, od__law_rounds, .func (PySem.W.fnOf "_law_rounds" "_law_rounds" (defArgs s__law_rounds) (defBody s__law_rounds) (defScope s__law_rounds) .none kV__law_rounds dc__law_rounds pm__law_rounds an__law_rounds cd__law_rounds ct__law_rounds), sl__law_rounds⟩)
    (ci__law_rounds : PySem.W.codeIn K cd__law_rounds "_law_rounds" = true)
    (kp__law_rounds : PySem.W.keepIn K (.ref a__law_rounds) = true)
    (na__law_lengthened : PySem.W.nsIn K mainGlobals "_law_lengthened" = some (some (.ref a__law_lengthened)))
    (lk__law_lengthened : K.lookup a__law_lengthened = some ⟨oc__law_lengthened, od__law_lengthened, .func (PySem.W.fnOf "_law_lengthened" "_law_lengthened" (defArgs s__law_lengthened) (defBody s__law_lengthened) (defScope s__law_lengthened) .none kV__law_lengthened dc__law_lengthened pm__law_lengthened an__law_lengthened cd__law_lengthened ct__law_lengthened), sl__law_lengthened⟩)
    (ci__law_lengthened : PySem.W.codeIn K cd__law_lengthened "_law_lengthened" = true)
    (kp__law_lengthened : PySem.W.keepIn K (.ref a__law_lengthened) = true)
    (na__law_right : PySem.W.nsIn K mainGlobals "_law_right" = some (some (.ref a__law_right)))
    (lk__law_right : K.lookup a__law_right = some ⟨oc__law_right, od__law_right, .func (PySem.W.fnOf "_law_right" "_law_right" (defArgs s__law_right) (defBody s__law_right) (defScope s__law_right) .none kV__law_right dc__law_right pm__law_right an__law_right cd__law_right ct__law_right), sl__law_right⟩)
    (ci__law_right : PySem.W.codeIn K cd__law_right "_law_right" = true)
    (kp__law_right : PySem.W.keepIn K (.ref a__law_right) = true)
    (na__law_deed : PySem.W.nsIn K mainGlobals "_law_deed" = some (some (.ref a__law_deed)))
    (lk__law_deed : K.lookup a__law_deed = some ⟨oc__law_deed, od__law_deed, .func (PySem.W.fnOf "_law_deed" "_law_deed" (defArgs s__law_deed) (defBody s__law_deed) (defScope s__law_deed) .none kV__law_deed dc__law_deed pm__law_deed an__law_deed cd__law_deed ct__law_deed), sl__law_deed⟩)
    (ci__law_deed : PySem.W.codeIn K cd__law_deed "_law_deed" = true)
    (kp__law_deed : PySem.W.keepIn K (.ref a__law_deed) = true)
    (na__law_none_refused : PySem.W.nsIn K mainGlobals "_law_none_refused" = some (some (.ref a__law_none_refused)))
    (lk__law_none_refused : K.lookup a__law_none_refused = some ⟨oc__law_none_refused, od__law_none_refused, .func (PySem.W.fnOf "_law_none_refused" "_law_none_refused" (defArgs s__law_none_refused) (defBody s__law_none_refused) (defScope s__law_none_refused) .none kV__law_none_refused dc__law_none_refused pm__law_none_refused an__law_none_refused cd__law_none_refused ct__law_none_refused), sl__law_none_refused⟩)
    (ci__law_none_refused : PySem.W.codeIn K cd__law_none_refused "_law_none_refused" = true)
    (kp__law_none_refused : PySem.W.keepIn K (.ref a__law_none_refused) = true)
    (na_law : PySem.W.nsIn K mainGlobals "law" = some (some (.ref a_law)))
    (lk_law : K.lookup a_law = some ⟨oc_law, od_law, .func (PySem.W.fnOf "law" "law" (defArgs s_law) (defBody s_law) (defScope s_law) .none kV_law dc_law pm_law an_law cd_law ct_law), sl_law⟩)
    (ci_law : PySem.W.codeIn K cd_law "law" = true)
    (kp_law : PySem.W.keepIn K (.ref a_law) = true)
    (ex_BadCount_BadWheel : PySem.W.exmOne K (.ref C_BadWheel) (.ref C_BadCount) = some (subOf "BadCount" "BadWheel"))
    (ex_BadCount_BadCount : PySem.W.exmOne K (.ref C_BadCount) (.ref C_BadCount) = some (subOf "BadCount" "BadCount"))
    (ex_Refused_BadWheel : PySem.W.exmOne K (.ref C_BadWheel) (.ref C_Refused) = some (subOf "Refused" "BadWheel"))
    (ex_Refused_BadCount : PySem.W.exmOne K (.ref C_BadCount) (.ref C_Refused) = some (subOf "Refused" "BadCount")) :
    LawG PySem.Challenge.rw_skeinturns_k22_threads_go_round w K 8 63 "script" mg fa h := by
  have e := hfa.symm.trans (PySem.W.mg_of X G na_law)
  rw [show fa = a_law from Value.ref.inj (Option.some.inj e)]
  have F_want_wheel := fun_mk (st := s_want_wheel) lk_want_wheel ci_want_wheel kp_want_wheel
  have F_left := fun_mk (st := s_left) lk_left ci_left kp_left
  have F_rest := fun_mk (st := s_rest) lk_rest ci_rest kp_rest
  have F_slides_in := fun_mk (st := s_slides_in) lk_slides_in ci_slides_in kp_slides_in
  have F_slides_of := fun_mk (st := s_slides_of) lk_slides_of ci_slides_of kp_slides_of
  have F_round_deed := fun_mk (st := s_round_deed) lk_round_deed ci_round_deed kp_round_deed
  have F__law_pool := fun_mk (st := s__law_pool) lk__law_pool ci__law_pool kp__law_pool
  have F__law_take := fun_mk (st := s__law_take) lk__law_take ci__law_take kp__law_take
  have F__law_one := fun_mk (st := s__law_one) lk__law_one ci__law_one kp__law_one
  have F__law_rest := fun_mk (st := s__law_rest) lk__law_rest ci__law_rest kp__law_rest
  have F__law_laid := fun_mk (st := s__law_laid) lk__law_laid ci__law_laid kp__law_laid
  have F__law_add := fun_mk (st := s__law_add) lk__law_add ci__law_add kp__law_add
  have F__law_told := fun_mk (st := s__law_told) lk__law_told ci__law_told kp__law_told
  have F__law_length := fun_mk (st := s__law_length) lk__law_length ci__law_length kp__law_length
  have F__law_head := fun_mk (st := s__law_head) lk__law_head ci__law_head kp__law_head
  have F__law_threads := fun_mk (st := s__law_threads) lk__law_threads ci__law_threads kp__law_threads
  have F__law_three_coats := fun_mk (st := s__law_three_coats) lk__law_three_coats ci__law_three_coats kp__law_three_coats
  have F__law_places := fun_mk (st := s__law_places) lk__law_places ci__law_places kp__law_places
  have F__law_lets := fun_mk (st := s__law_lets) lk__law_lets ci__law_lets kp__law_lets
  have F__law_is_deed := fun_mk (st := s__law_is_deed) lk__law_is_deed ci__law_is_deed kp__law_is_deed
  have F__law_walk := fun_mk (st := s__law_walk) lk__law_walk ci__law_walk kp__law_walk
  have F__law_led := fun_mk (st := s__law_led) lk__law_led ci__law_led kp__law_led
  have F__law_rounds := fun_mk (st := s__law_rounds) lk__law_rounds ci__law_rounds kp__law_rounds
  have F__law_lengthened := fun_mk (st := s__law_lengthened) lk__law_lengthened ci__law_lengthened kp__law_lengthened
  have F__law_right := fun_mk (st := s__law_right) lk__law_right ci__law_right kp__law_right
  have F__law_deed := fun_mk (st := s__law_deed) lk__law_deed ci__law_deed kp__law_deed
  have F__law_none_refused := fun_mk (st := s__law_none_refused) lk__law_none_refused ci__law_none_refused kp__law_none_refused
  have F_law := fun_mk (st := s_law) lk_law ci_law kp_law
  have ref : RefTxt PySem.Challenge.pw_skeinturns_k22_threads_go_round K mg C_Refused fI cc cda := ⟨⟨_, _, _, _, _, _, _, _, _, _, _, _, _, _, _, _, _, _, _, _, _, lI, cI, fun name L f cdv => ⟨_, rfl⟩⟩, ⟨_, _, _, lcc⟩, ⟨_, _, _, _, _, _, lcd, v2, fi⟩, ⟨_, isR⟩, PySem.W.mg_none_of X G nsS, by decide +kernel, opq⟩
  have e_Refused : ErrTxt K mg C_Refused fI "Refused" C_Refused := { gC := PySem.W.mg_of X G ns_Refused, cls := ⟨_, _, _, _, _, _, _, _, _, _, _, _, _, _, _, xL_Refused, rv_Refused⟩, sa := sa_Refused, ga := ga_Refused, gg := gg_Refused, noN := nw_Refused, iC := iC_Refused, tC := tI, kC := kC_Refused, exC := eC_Refused, veC := vC_Refused, tyC := tC_Refused, hdC := hC_Refused, toR := mR_Refused, sup := su_Refused, ini := in_Refused, clC := cl_Refused, clN := clN, clT := clT, toO := mO_Refused }
  have e_BadWheel : ErrTxt K mg C_Refused fI "BadWheel" C_BadWheel := { gC := PySem.W.mg_of X G ns_BadWheel, cls := ⟨_, _, _, _, _, _, _, _, _, _, _, _, _, _, _, xL_BadWheel, rv_BadWheel⟩, sa := sa_BadWheel, ga := ga_BadWheel, gg := gg_BadWheel, noN := nw_BadWheel, iC := iC_BadWheel, tC := tI, kC := kC_BadWheel, exC := eC_BadWheel, veC := vC_BadWheel, tyC := tC_BadWheel, hdC := hC_BadWheel, toR := mR_BadWheel, sup := su_BadWheel, ini := in_BadWheel, clC := cl_BadWheel, clN := clN, clT := clT, toO := mO_BadWheel }
  have e_BadCount : ErrTxt K mg C_Refused fI "BadCount" C_BadCount := { gC := PySem.W.mg_of X G ns_BadCount, cls := ⟨_, _, _, _, _, _, _, _, _, _, _, _, _, _, _, xL_BadCount, rv_BadCount⟩, sa := sa_BadCount, ga := ga_BadCount, gg := gg_BadCount, noN := nw_BadCount, iC := iC_BadCount, tC := tI, kC := kC_BadCount, exC := eC_BadCount, veC := vC_BadCount, tyC := tC_BadCount, hdC := hC_BadCount, toR := mR_BadCount, sup := su_BadCount, ini := in_BadCount, clC := cl_BadCount, clN := clN, clT := clT, toO := mO_BadCount }
  have T : Txt PySem.Challenge.pw_skeinturns_k22_threads_go_round K mg fI cc cda C_Refused C_BadWheel C_BadCount a_want_wheel a_left a_rest a_slides_in a_slides_of a_round_deed a__law_pool a__law_take a__law_one a__law_rest a__law_laid a__law_add a__law_told a__law_length a__law_head a__law_threads a__law_three_coats a__law_places a__law_lets a__law_is_deed a__law_walk a__law_led a__law_rounds a__law_lengthened a__law_right a__law_deed a__law_none_refused a_law _ _ _ _ _ _ _ _ _ _ _ _ _ _ _ _ _ _ _ _ _ _ _ _ _ _ _ _ := {
    ref := ref,
    e_Refused := e_Refused,
    e_BadWheel := e_BadWheel,
    e_BadCount := e_BadCount,
    exm_BadCount := (fun c C h1 h2 => by
    rw [List.contains_iff_mem] at h1
    simp only [errs_, List.mem_cons, List.not_mem_nil, or_false] at h1
    rcases h1 with rfl | rfl
    · have z := e_BadWheel.gC.symm.trans h2
      cases z
      exact ex_BadCount_BadWheel
    · have z := e_BadCount.gC.symm.trans h2
      cases z
      exact ex_BadCount_BadCount),
    exm_Refused := (fun c C h1 h2 => by
    rw [List.contains_iff_mem] at h1
    simp only [errs_, List.mem_cons, List.not_mem_nil, or_false] at h1
    rcases h1 with rfl | rfl
    · have z := e_BadWheel.gC.symm.trans h2
      cases z
      exact ex_Refused_BadWheel
    · have z := e_BadCount.gC.symm.trans h2
      cases z
      exact ex_Refused_BadCount),
    g_CARRY := ⟨_, PySem.W.mg_of X G ng_CARRY⟩,
    g_MOST_WHEEL := ⟨_, PySem.W.mg_of X G ng_MOST_WHEEL⟩,
    g_ROUND := ⟨_, PySem.W.mg_of X G ng_ROUND⟩,
    b_abs := PySem.W.mg_none_of X G nb_abs,
    b_all := PySem.W.mg_none_of X G nb_all,
    b_any := PySem.W.mg_none_of X G nb_any,
    b_bool := PySem.W.mg_none_of X G nb_bool,
    b_dict := PySem.W.mg_none_of X G nb_dict,
    b_int := PySem.W.mg_none_of X G nb_int,
    b_isinstance := PySem.W.mg_none_of X G nb_isinstance,
    b_len := PySem.W.mg_none_of X G nb_len,
    b_list := PySem.W.mg_none_of X G nb_list,
    b_max := PySem.W.mg_none_of X G nb_max,
    b_range := PySem.W.mg_none_of X G nb_range,
    b_sorted := PySem.W.mg_none_of X G nb_sorted,
    b_sum := PySem.W.mg_none_of X G nb_sum,
    b_tuple := PySem.W.mg_none_of X G nb_tuple,
    m_want_wheel := PySem.W.mg_of X G na_want_wheel,
    F_want_wheel := F_want_wheel,
    m_left := PySem.W.mg_of X G na_left,
    F_left := F_left,
    m_rest := PySem.W.mg_of X G na_rest,
    F_rest := F_rest,
    m_slides_in := PySem.W.mg_of X G na_slides_in,
    F_slides_in := F_slides_in,
    m_slides_of := PySem.W.mg_of X G na_slides_of,
    F_slides_of := F_slides_of,
    m_round_deed := PySem.W.mg_of X G na_round_deed,
    F_round_deed := F_round_deed,
    KD_round_deed := ⟨_, _, _, _, _, _, _, rfl, nk_round_deed⟩,
    m__law_pool := PySem.W.mg_of X G na__law_pool,
    F__law_pool := F__law_pool,
    m__law_take := PySem.W.mg_of X G na__law_take,
    F__law_take := F__law_take,
    m__law_one := PySem.W.mg_of X G na__law_one,
    F__law_one := F__law_one,
    m__law_rest := PySem.W.mg_of X G na__law_rest,
    F__law_rest := F__law_rest,
    m__law_laid := PySem.W.mg_of X G na__law_laid,
    F__law_laid := F__law_laid,
    m__law_add := PySem.W.mg_of X G na__law_add,
    F__law_add := F__law_add,
    m__law_told := PySem.W.mg_of X G na__law_told,
    F__law_told := F__law_told,
    m__law_length := PySem.W.mg_of X G na__law_length,
    F__law_length := F__law_length,
    m__law_head := PySem.W.mg_of X G na__law_head,
    F__law_head := F__law_head,
    m__law_threads := PySem.W.mg_of X G na__law_threads,
    F__law_threads := F__law_threads,
    m__law_three_coats := PySem.W.mg_of X G na__law_three_coats,
    F__law_three_coats := F__law_three_coats,
    m__law_places := PySem.W.mg_of X G na__law_places,
    F__law_places := F__law_places,
    m__law_lets := PySem.W.mg_of X G na__law_lets,
    F__law_lets := F__law_lets,
    m__law_is_deed := PySem.W.mg_of X G na__law_is_deed,
    F__law_is_deed := F__law_is_deed,
    m__law_walk := PySem.W.mg_of X G na__law_walk,
    F__law_walk := F__law_walk,
    m__law_led := PySem.W.mg_of X G na__law_led,
    F__law_led := F__law_led,
    m__law_rounds := PySem.W.mg_of X G na__law_rounds,
    F__law_rounds := F__law_rounds,
    m__law_lengthened := PySem.W.mg_of X G na__law_lengthened,
    F__law_lengthened := F__law_lengthened,
    m__law_right := PySem.W.mg_of X G na__law_right,
    F__law_right := F__law_right,
    m__law_deed := PySem.W.mg_of X G na__law_deed,
    F__law_deed := F__law_deed,
    m__law_none_refused := PySem.W.mg_of X G na__law_none_refused,
    F__law_none_refused := F__law_none_refused,
    m_law := PySem.W.mg_of X G na_law,
    F_law := F_law }
  refine ⟨PySem.W.fnOf "law" "law" (defArgs s_law) (defBody s_law) (defScope s_law) .none kV_law dc_law pm_law an_law cd_law ct_law, [], [], f_law, rfl, (fun p hp => by simp at hp), (fun p hp => by simp at hp), (fun p hp => by simp at hp), fun s u => .of_eq rfl, fun ns h1 h2 => law_true ns h1 h2, fun base hK hG tb => ?_⟩
  have O_want_wheel := ok_want_wheel (PP := PySem.Challenge.pw_skeinturns_k22_threads_go_round) (w := w) (base := base) T
  have O_left := ok_left (PP := PySem.Challenge.pw_skeinturns_k22_threads_go_round) (w := w) (base := base) T
  have O_rest := ok_rest (PP := PySem.Challenge.pw_skeinturns_k22_threads_go_round) (w := w) (base := base) T O_want_wheel O_left
  have O_slides_in := ok_slides_in (PP := PySem.Challenge.pw_skeinturns_k22_threads_go_round) (w := w) (base := base) T
  have O_slides_of := ok_slides_of (PP := PySem.Challenge.pw_skeinturns_k22_threads_go_round) (w := w) (base := base) T O_slides_in
  have O_round_deed := ok_round_deed (PP := PySem.Challenge.pw_skeinturns_k22_threads_go_round) (w := w) (base := base) T O_rest
  have O__law_pool := ok__law_pool (PP := PySem.Challenge.pw_skeinturns_k22_threads_go_round) (w := w) (base := base) T
  have O__law_take := ok__law_take (PP := PySem.Challenge.pw_skeinturns_k22_threads_go_round) (w := w) (base := base) T
  have O__law_one := ok__law_one (PP := PySem.Challenge.pw_skeinturns_k22_threads_go_round) (w := w) (base := base) T O__law_take
  have O__law_rest := ok__law_rest (PP := PySem.Challenge.pw_skeinturns_k22_threads_go_round) (w := w) (base := base) T
  have O__law_laid := ok__law_laid (PP := PySem.Challenge.pw_skeinturns_k22_threads_go_round) (w := w) (base := base) T O__law_rest
  have O__law_add := ok__law_add (PP := PySem.Challenge.pw_skeinturns_k22_threads_go_round) (w := w) (base := base) T
  have O__law_told := ok__law_told (PP := PySem.Challenge.pw_skeinturns_k22_threads_go_round) (w := w) (base := base) T
  have O__law_length := ok__law_length (PP := PySem.Challenge.pw_skeinturns_k22_threads_go_round) (w := w) (base := base) T O__law_take O__law_one
  have O__law_head := ok__law_head (PP := PySem.Challenge.pw_skeinturns_k22_threads_go_round) (w := w) (base := base) T O__law_one O__law_take
  have O__law_threads := ok__law_threads (PP := PySem.Challenge.pw_skeinturns_k22_threads_go_round) (w := w) (base := base) T O__law_take O__law_laid O__law_add O__law_length O__law_one
  have O__law_three_coats := ok__law_three_coats (PP := PySem.Challenge.pw_skeinturns_k22_threads_go_round) (w := w) (base := base) T O__law_take
  have O__law_places := ok__law_places (PP := PySem.Challenge.pw_skeinturns_k22_threads_go_round) (w := w) (base := base) T O__law_take
  have O__law_lets := ok__law_lets (PP := PySem.Challenge.pw_skeinturns_k22_threads_go_round) (w := w) (base := base) T
  have O__law_is_deed := ok__law_is_deed (PP := PySem.Challenge.pw_skeinturns_k22_threads_go_round) (w := w) (base := base) T
  have O__law_walk := ok__law_walk (PP := PySem.Challenge.pw_skeinturns_k22_threads_go_round) (w := w) (base := base) T O__law_laid O__law_is_deed O__law_add O__law_lets O__law_rest
  have O__law_led := ok__law_led (PP := PySem.Challenge.pw_skeinturns_k22_threads_go_round) (w := w) (base := base) T O__law_walk
  have O__law_rounds := ok__law_rounds (PP := PySem.Challenge.pw_skeinturns_k22_threads_go_round) (w := w) (base := base) T O__law_take O__law_one
  have O__law_lengthened := ok__law_lengthened (PP := PySem.Challenge.pw_skeinturns_k22_threads_go_round) (w := w) (base := base) T O__law_add O__law_laid
  have O__law_right := ok__law_right (PP := PySem.Challenge.pw_skeinturns_k22_threads_go_round) (w := w) (base := base) T O__law_led O__law_told O_slides_of
  have O__law_deed := ok__law_deed (PP := PySem.Challenge.pw_skeinturns_k22_threads_go_round) (w := w) (base := base) T O__law_rest
  have O__law_none_refused := ok__law_none_refused (PP := PySem.Challenge.pw_skeinturns_k22_threads_go_round) (w := w) (base := base) T O_round_deed
  have O_law := ok_law (PP := PySem.Challenge.pw_skeinturns_k22_threads_go_round) (w := w) (base := base) T O__law_head O__law_threads O__law_places O__law_three_coats O__law_rest O__law_lengthened O_round_deed O__law_pool O__law_one O__law_take O__law_length O__law_rounds O__law_add O__law_deed O__law_right O__law_none_refused O__law_laid
  exact FnG.of O_law
end Wk
open PySem PySem.W PyProof.Rows
set_option maxHeartbeats 0 in
theorem PySem.Challenge.cw_skeinturns_k22_threads_go_round_holds : PySem.Challenge.rw_skeinturns_k22_threads_go_round.Holds := by
  w_on; o_law; k_head; (case hw => w_witness2)
  k_fill
  refine SK.walk_law (l := PySem.Challenge.rw_skeinturns_k22_threads_go_round) (n := 63) (k := 8) (x := "script") rfl (by decide) rfl ⟨rfl, by decide, by decide⟩ (fun w h Y => (by first | exact PySem.W.kIn_of Y | exact PySem.W.km_in_of Y)) ?F
  case F =>
    intro w mg fa h Y KX G hmg own
    refine' Wk.all_mk KX G hmg Wk.law_true ?ns_Refused ?xL_Refused ?rv_Refused ?sa_Refused ?ga_Refused ?gg_Refused ?nw_Refused ?iC_Refused ?kC_Refused ?eC_Refused ?vC_Refused ?tC_Refused ?hC_Refused ?mR_Refused ?su_Refused ?in_Refused ?cl_Refused ?mO_Refused ?ns_BadWheel ?xL_BadWheel ?rv_BadWheel ?sa_BadWheel ?ga_BadWheel ?gg_BadWheel ?nw_BadWheel ?iC_BadWheel ?kC_BadWheel ?eC_BadWheel ?vC_BadWheel ?tC_BadWheel ?hC_BadWheel ?mR_BadWheel ?su_BadWheel ?in_BadWheel ?cl_BadWheel ?mO_BadWheel ?ns_BadCount ?xL_BadCount ?rv_BadCount ?sa_BadCount ?ga_BadCount ?gg_BadCount ?nw_BadCount ?iC_BadCount ?kC_BadCount ?eC_BadCount ?vC_BadCount ?tC_BadCount ?hC_BadCount ?mR_BadCount ?su_BadCount ?in_BadCount ?cl_BadCount ?mO_BadCount ?tI ?clN ?clT ?lI ?cI ?lcc ?lcd ?v2 ?fi ?isR ?nsS ?opq ?ng_CARRY ?ng_MOST_WHEEL ?ng_ROUND ?nb_abs ?nb_all ?nb_any ?nb_bool ?nb_dict ?nb_int ?nb_isinstance ?nb_len ?nb_list ?nb_max ?nb_range ?nb_sorted ?nb_sum ?nb_tuple ?na_want_wheel ?lk_want_wheel ?ci_want_wheel ?kp_want_wheel ?na_left ?lk_left ?ci_left ?kp_left ?na_rest ?lk_rest ?ci_rest ?kp_rest ?na_slides_in ?lk_slides_in ?ci_slides_in ?kp_slides_in ?na_slides_of ?lk_slides_of ?ci_slides_of ?kp_slides_of ?na_round_deed ?lk_round_deed ?nk_round_deed ?ci_round_deed ?kp_round_deed ?na__law_pool ?lk__law_pool ?ci__law_pool ?kp__law_pool ?na__law_take ?lk__law_take ?ci__law_take ?kp__law_take ?na__law_one ?lk__law_one ?ci__law_one ?kp__law_one ?na__law_rest ?lk__law_rest ?ci__law_rest ?kp__law_rest ?na__law_laid ?lk__law_laid ?ci__law_laid ?kp__law_laid ?na__law_add ?lk__law_add ?ci__law_add ?kp__law_add ?na__law_told ?lk__law_told ?ci__law_told ?kp__law_told ?na__law_length ?lk__law_length ?ci__law_length ?kp__law_length ?na__law_head ?lk__law_head ?ci__law_head ?kp__law_head ?na__law_threads ?lk__law_threads ?ci__law_threads ?kp__law_threads ?na__law_three_coats ?lk__law_three_coats ?ci__law_three_coats ?kp__law_three_coats ?na__law_places ?lk__law_places ?ci__law_places ?kp__law_places ?na__law_lets ?lk__law_lets ?ci__law_lets ?kp__law_lets ?na__law_is_deed ?lk__law_is_deed ?ci__law_is_deed ?kp__law_is_deed ?na__law_walk ?lk__law_walk ?ci__law_walk ?kp__law_walk ?na__law_led ?lk__law_led ?ci__law_led ?kp__law_led ?na__law_rounds ?lk__law_rounds ?ci__law_rounds ?kp__law_rounds ?na__law_lengthened ?lk__law_lengthened ?ci__law_lengthened ?kp__law_lengthened ?na__law_right ?lk__law_right ?ci__law_right ?kp__law_right ?na__law_deed ?lk__law_deed ?ci__law_deed ?kp__law_deed ?na__law_none_refused ?lk__law_none_refused ?ci__law_none_refused ?kp__law_none_refused ?na_law ?lk_law ?ci_law ?kp_law ?ex_BadCount_BadWheel ?ex_BadCount_BadCount ?ex_Refused_BadWheel ?ex_Refused_BadCount
    (case ns_Refused => k_is)
    (case xL_Refused => k_is)
    (case rv_Refused => (first | rfl | decide +kernel))
    (case sa_Refused => k_is)
    (case ga_Refused => k_is)
    (case gg_Refused => k_is)
    (case nw_Refused => k_is)
    (case iC_Refused => k_is)
    (case kC_Refused => k_is)
    (case eC_Refused => k_is)
    (case vC_Refused => k_is)
    (case tC_Refused => k_is)
    (case hC_Refused => k_is)
    (case mR_Refused => k_is)
    (case su_Refused => (first | ks_is | kernel_rfl))
    (case in_Refused => (first | k_is | kernel_rfl))
    (case cl_Refused => k_is)
    (case mO_Refused => k_is)
    (case ns_BadWheel => k_is)
    (case xL_BadWheel => k_is)
    (case rv_BadWheel => (first | rfl | decide +kernel))
    (case sa_BadWheel => k_is)
    (case ga_BadWheel => k_is)
    (case gg_BadWheel => k_is)
    (case nw_BadWheel => k_is)
    (case iC_BadWheel => k_is)
    (case kC_BadWheel => k_is)
    (case eC_BadWheel => k_is)
    (case vC_BadWheel => k_is)
    (case tC_BadWheel => k_is)
    (case hC_BadWheel => k_is)
    (case mR_BadWheel => k_is)
    (case su_BadWheel => (first | ks_is | kernel_rfl))
    (case in_BadWheel => (first | k_is | kernel_rfl))
    (case cl_BadWheel => k_is)
    (case mO_BadWheel => k_is)
    (case ns_BadCount => k_is)
    (case xL_BadCount => k_is)
    (case rv_BadCount => (first | rfl | decide +kernel))
    (case sa_BadCount => k_is)
    (case ga_BadCount => k_is)
    (case gg_BadCount => k_is)
    (case nw_BadCount => k_is)
    (case iC_BadCount => k_is)
    (case kC_BadCount => k_is)
    (case eC_BadCount => k_is)
    (case vC_BadCount => k_is)
    (case tC_BadCount => k_is)
    (case hC_BadCount => k_is)
    (case mR_BadCount => k_is)
    (case su_BadCount => (first | ks_is | kernel_rfl))
    (case in_BadCount => (first | k_is | kernel_rfl))
    (case cl_BadCount => k_is)
    (case mO_BadCount => k_is)
    (case tI => k_is)
    (case clN => k_is)
    (case clT => k_is)
    (case lI => k_is)
    (case cI => k_is)
    (case lcc => k_is)
    (case lcd => k_is)
    (case v2 => rfl)
    (case fi => (first | rfl | decide +kernel))
    (case isR => (first | k_is | kernel_rfl))
    (case nsS => k_is)
    (case opq => k_is)
    (case ng_CARRY => k_is)
    (case ng_MOST_WHEEL => k_is)
    (case ng_ROUND => k_is)
    (case nb_abs => k_is)
    (case nb_all => k_is)
    (case nb_any => k_is)
    (case nb_bool => k_is)
    (case nb_dict => k_is)
    (case nb_int => k_is)
    (case nb_isinstance => k_is)
    (case nb_len => k_is)
    (case nb_list => k_is)
    (case nb_max => k_is)
    (case nb_range => k_is)
    (case nb_sorted => k_is)
    (case nb_sum => k_is)
    (case nb_tuple => k_is)
    (case na_want_wheel => k_is)
    (case lk_want_wheel => k_is)
    (case ci_want_wheel => k_is)
    (case kp_want_wheel => k_is)
    (case na_left => k_is)
    (case lk_left => k_is)
    (case ci_left => k_is)
    (case kp_left => k_is)
    (case na_rest => k_is)
    (case lk_rest => k_is)
    (case ci_rest => k_is)
    (case kp_rest => k_is)
    (case na_slides_in => k_is)
    (case lk_slides_in => k_is)
    (case ci_slides_in => k_is)
    (case kp_slides_in => k_is)
    (case na_slides_of => k_is)
    (case lk_slides_of => k_is)
    (case ci_slides_of => k_is)
    (case kp_slides_of => k_is)
    (case na_round_deed => k_is)
    (case lk_round_deed => k_is)
    (case nk_round_deed => k_is)
    (case ci_round_deed => k_is)
    (case kp_round_deed => k_is)
    (case na__law_pool => k_is)
    (case lk__law_pool => k_is)
    (case ci__law_pool => k_is)
    (case kp__law_pool => k_is)
    (case na__law_take => k_is)
    (case lk__law_take => k_is)
    (case ci__law_take => k_is)
    (case kp__law_take => k_is)
    (case na__law_one => k_is)
    (case lk__law_one => k_is)
    (case ci__law_one => k_is)
    (case kp__law_one => k_is)
    (case na__law_rest => k_is)
    (case lk__law_rest => k_is)
    (case ci__law_rest => k_is)
    (case kp__law_rest => k_is)
    (case na__law_laid => k_is)
    (case lk__law_laid => k_is)
    (case ci__law_laid => k_is)
    (case kp__law_laid => k_is)
    (case na__law_add => k_is)
    (case lk__law_add => k_is)
    (case ci__law_add => k_is)
    (case kp__law_add => k_is)
    (case na__law_told => k_is)
    (case lk__law_told => k_is)
    (case ci__law_told => k_is)
    (case kp__law_told => k_is)
    (case na__law_length => k_is)
    (case lk__law_length => k_is)
    (case ci__law_length => k_is)
    (case kp__law_length => k_is)
    (case na__law_head => k_is)
    (case lk__law_head => k_is)
    (case ci__law_head => k_is)
    (case kp__law_head => k_is)
    (case na__law_threads => k_is)
    (case lk__law_threads => k_is)
    (case ci__law_threads => k_is)
    (case kp__law_threads => k_is)
    (case na__law_three_coats => k_is)
    (case lk__law_three_coats => k_is)
    (case ci__law_three_coats => k_is)
    (case kp__law_three_coats => k_is)
    (case na__law_places => k_is)
    (case lk__law_places => k_is)
    (case ci__law_places => k_is)
    (case kp__law_places => k_is)
    (case na__law_lets => k_is)
    (case lk__law_lets => k_is)
    (case ci__law_lets => k_is)
    (case kp__law_lets => k_is)
    (case na__law_is_deed => k_is)
    (case lk__law_is_deed => k_is)
    (case ci__law_is_deed => k_is)
    (case kp__law_is_deed => k_is)
    (case na__law_walk => k_is)
    (case lk__law_walk => k_is)
    (case ci__law_walk => k_is)
    (case kp__law_walk => k_is)
    (case na__law_led => k_is)
    (case lk__law_led => k_is)
    (case ci__law_led => k_is)
    (case kp__law_led => k_is)
    (case na__law_rounds => k_is)
    (case lk__law_rounds => k_is)
    (case ci__law_rounds => k_is)
    (case kp__law_rounds => k_is)
    (case na__law_lengthened => k_is)
    (case lk__law_lengthened => k_is)
    (case ci__law_lengthened => k_is)
    (case kp__law_lengthened => k_is)
    (case na__law_right => k_is)
    (case lk__law_right => k_is)
    (case ci__law_right => k_is)
    (case kp__law_right => k_is)
    (case na__law_deed => k_is)
    (case lk__law_deed => k_is)
    (case ci__law_deed => k_is)
    (case kp__law_deed => k_is)
    (case na__law_none_refused => k_is)
    (case lk__law_none_refused => k_is)
    (case ci__law_none_refused => k_is)
    (case kp__law_none_refused => k_is)
    (case na_law => k_is)
    (case lk_law => k_is)
    (case ci_law => k_is)
    (case kp_law => k_is)
    (case ex_BadCount_BadWheel => (first | k_is | kernel_rfl))
    (case ex_BadCount_BadCount => (first | k_is | kernel_rfl))
    (case ex_Refused_BadWheel => (first | k_is | kernel_rfl))
    (case ex_Refused_BadCount => (first | k_is | kernel_rfl))
