import PyProof.Rows.All
import Wide.All
import OpenK.AllK
import Wide.FinOn
import HandS.ForMost
import HandS.ForExc
import HandS.IsInst
import HandS.TupAny
import HandS.TupMul
import HandS.Deep
import HandS.Wide
import HandS.WordsExc
import HandS.ExcOwn
import KE.GoesEnum
import HandS.Conv
import HandS.Star
import HandS.Style
import HandS.CallSlots
import KE.KRevSl
import HandS.Ends
import PySem.Challenge.RW_layertrees_k02_names_by_hand
set_option Elab.async false
set_option linter.all false
set_option maxRecDepth 100000
set_option maxHeartbeats 0
namespace DE
open PySem L2

/-! ## data, the store, results -/
/-- plain data: a tuple is a tree; a list, a dict, an instance is a cell of the store -/
inductive D where
  | non | bl (b : Bool) | int (i : Int) | str (x : List Nat) | tup (xs : List D) | ref (n : Nat)
  /-- a list that nobody writes: the script -/
  | scr (xs : List D)
/-- a dict's key: a number, a text -/
inductive DK where
  | i (i : Int) | s (x : List Nat)
/-- a cell: a list; a dict whose keys are numbers and texts; one whose keys are tuples of them -/
inductive C where
  | lst (xs : List D)
  | dct (kvs : List (DK × D))
  | dtt (kvs : List (List DK × D))
structure Store where
  n : Nat
  cs : List (Nat × C)
def lookN : Nat → List (Nat × C) → Option C
  | _, [] => none
  | i, (j, c) :: r => if Nat.beq i j then some c else lookN i r
def Store.get (S : Store) (i : Nat) : Option C := lookN i S.cs
def setN (i : Nat) (c : C) : List (Nat × C) → List (Nat × C)
  | [] => []
  | (j, d) :: r => if Nat.beq i j then (j, c) :: r else (j, d) :: setN i c r
def Store.set (S : Store) (i : Nat) (c : C) : Store := ⟨S.n, setN i c S.cs⟩
def Store.add (S : Store) (c : C) : Store := ⟨S.n + 1, (S.n, c) :: S.cs⟩
structure Exn where
  cls : Nat
  fs : List D
inductive R (α : Type) where
  | ok (a : α) (S : Store)
  | ex (x : Exn) (S : Store)
  | bad
def R.bind {α β : Type} (r : R α) (f : α → Store → R β) : R β := match r with
  | .ok a S => f a S
  | .ex x S => .ex x S
  | .bad => .bad
abbrev Env := List (Option D)
abbrev Ev := Env → Store → R D
abbrev Et := Env → Store → R Bool
abbrev Es := Env → Store → R (List D)

theorem beq_ne {i j : Nat} (h : i ≠ j) : Nat.beq i j = false := by
  cases e : Nat.beq i j with
  | false => rfl
  | true => exact absurd (Nat.eq_of_beq_eq_true e) h
theorem lookN_ge {i : Nat} : ∀ {l : List (Nat × C)}, (∀ p ∈ l, p.1 < i) → lookN i l = none
  | [], _ => rfl
  | (j, c) :: r, h => by
    have hj : Nat.beq i j = false := by
      cases e : Nat.beq i j with
      | false => rfl
      | true =>
        have := h (j, c) (List.mem_cons_self ..)
        have e2 : i = j := Nat.eq_of_beq_eq_true e
        simp only at this; omega
    unfold lookN; rw [hj]; exact lookN_ge fun p hp => h p (List.mem_cons_of_mem _ hp)
theorem lookN_set_same {i : Nat} {c : C} : ∀ {l : List (Nat × C)} {d : C}, lookN i l = some d → lookN i (setN i c l) = some c
  | (j, e) :: r, d, h => by
    unfold lookN at h; unfold setN
    cases q : Nat.beq i j with
    | true => show lookN i ((j, c) :: r) = _; unfold lookN; rw [q]; rfl
    | false =>
      rw [q] at h
      show lookN i ((j, e) :: setN i c r) = _
      unfold lookN; rw [q]
      exact lookN_set_same h
theorem lookN_set_ne {i k : Nat} {c : C} (hk : k ≠ i) : ∀ {l : List (Nat × C)}, lookN k (setN i c l) = lookN k l
  | [] => rfl
  | (j, e) :: r => by
    unfold setN
    cases q : Nat.beq i j with
    | true =>
      have e2 : i = j := Nat.eq_of_beq_eq_true q
      have hkj : Nat.beq k j = false := by
        cases z : Nat.beq k j with
        | false => rfl
        | true => exact absurd ((Nat.eq_of_beq_eq_true z).trans e2.symm) hk
      show lookN k ((j, c) :: r) = lookN k ((j, e) :: r)
      unfold lookN; rw [hkj]; rfl
    | false =>
      show (if Nat.beq k j = true then some e else lookN k (setN i c r)) = (if Nat.beq k j = true then some e else lookN k r)
      rw [lookN_set_ne hk]

/-! ## relations -/
/-- a list that stands: the module's own, or an object that no cell owns -/
def FroL (K : PySem.W.Frag) (φ : List Addr) (H : Hp) (a : Addr) (xs : List V) : Prop :=
  ((∃ o, H a = some (.frz o (.lst xs))) ∧ a ∉ φ) ∨
    ∃ (o : Obj) (its : Array Value) (n : Nat), K.lookup a = some o ∧ o.cls = .type "list" ∧ o.dict = none ∧ o.data = .seq its n ∧ its.size ≤ sizeLine ∧ Vals xs its.toList
/-- each sign is one of Unicode's -/
def okS (x : List Nat) : Prop := ∀ c ∈ x, c < 1114112
/-- a text's signs as the model's text -/
abbrev mkS (x : List Nat) : Str := ⟨x.toArray⟩
mutual
inductive DR (K : PySem.W.Frag) (φ : List Addr) (H : Hp) : D → V → Prop
  | non : DR K φ H .non .non
  | bl (b : Bool) : DR K φ H (.bl b) (.bl b)
  | int (i : Int) : DR K φ H (.int i) (.int i)
  | str {x : List Nat} (ok : okS x) : DR K φ H (.str x) (.str (mkS x))
  | tup {ds : List D} {a : Addr} {vs : List V} : SqT K H a vs → DRs K φ H ds vs → DR K φ H (.tup ds) (.ref a)
  | ref {n : Nat} {a : Addr} : φ[n]? = some a → DR K φ H (.ref n) (.ref a)
  | scr {ds : List D} {a : Addr} {vs : List V} : FroL K φ H a vs → DRs K φ H ds vs → DR K φ H (.scr ds) (.ref a)
inductive DRs (K : PySem.W.Frag) (φ : List Addr) (H : Hp) : List D → List V → Prop
  | nil : DRs K φ H [] []
  | cons {d : D} {v : V} {ds : List D} {vs : List V} : DR K φ H d v → DRs K φ H ds vs → DRs K φ H (d :: ds) (v :: vs)
end
structure Ext (K : PySem.W.Frag) (φ : List Addr) (H : Hp) (φ' : List Addr) (H' : Hp) : Prop where
  pre : ∃ l, φ' = φ ++ l
  keep : ∀ b o, H b = some o → b ∉ φ → H' b = some o
  new : ∀ b ∈ φ', b ∉ φ → H b = none
  tup : ∀ a xs, SqT K H a xs → SqT K H' a xs
theorem Ext.refl {K φ H} : Ext K φ H φ H := ⟨⟨[], by simp⟩, fun _ _ h _ => h, fun _ h n => absurd h n, fun _ _ h => h⟩
theorem Ext.trans {K φ H φ1 H1 φ2 H2} (a : Ext K φ H φ1 H1) (b : Ext K φ1 H1 φ2 H2) : Ext K φ H φ2 H2 := by
  obtain ⟨l1, e1⟩ := a.pre
  obtain ⟨l2, e2⟩ := b.pre
  refine ⟨⟨l1 ++ l2, by rw [e2, e1, List.append_assoc]⟩, fun c o h n => ?_, fun c h n => ?_, fun c xs h => b.tup c xs (a.tup c xs h)⟩
  · refine b.keep c o (a.keep c o h n) fun z => ?_
    have := a.new c z n
    rw [h] at this; cases this
  · by_cases z : c ∈ φ1
    · exact a.new c z n
    · have q := b.new c h z
      cases e : H c with
      | none => rfl
      | some o => rw [a.keep c o e n] at q; cases q
theorem FroL.ext {K φ H φ' H'} (x : Ext K φ H φ' H') {a xs} (h : FroL K φ H a xs) : FroL K φ' H' a xs := by
  rcases h with ⟨⟨o, h⟩, n⟩ | h
  · refine .inl ⟨⟨o, x.keep _ _ h n⟩, fun z => ?_⟩
    have q := x.new a z n
    rw [h] at q; cases q
  · exact .inr h
theorem FroL.sql {K φ H a xs} (h : FroL K φ H a xs) : SqL K H a xs := by
  rcases h with ⟨⟨o, h⟩, _⟩ | h
  · exact .inl (.inr ⟨o, h⟩)
  · exact .inr h
mutual
theorem DR.ext {K φ H φ' H'} (x : Ext K φ H φ' H') : ∀ {d : D} {v : V}, DR K φ H d v → DR K φ' H' d v
  | _, _, .non => .non
  | _, _, .bl b => .bl b
  | _, _, .int i => .int i
  | _, _, .str s => .str s
  | _, _, .tup h hs => .tup (x.tup _ _ h) (DRs.ext x hs)
  | _, _, .ref (n := n) h => .ref (by
    obtain ⟨l, e⟩ := x.pre
    rw [e, List.getElem?_append_left (List.getElem?_eq_some_iff.mp h).1]; exact h)
  | _, _, .scr h hs => .scr (h.ext x) (DRs.ext x hs)
theorem DRs.ext {K φ H φ' H'} (x : Ext K φ H φ' H') : ∀ {ds : List D} {vs : List V}, DRs K φ H ds vs → DRs K φ' H' ds vs
  | _, _, .nil => .nil
  | _, _, .cons h hs => .cons (DR.ext x h) (DRs.ext x hs)
end
section
variable {K : PySem.W.Frag} {φ : List Addr} {H : Hp}
theorem DRs.length : ∀ {ds : List D} {vs : List V}, DRs K φ H ds vs → vs.length = ds.length
  | _, _, .nil => rfl
  | _, _, .cons _ h => by simp [DRs.length h]
theorem DRs.get : ∀ {ds : List D} {vs : List V} {i : Nat} {d : D}, DRs K φ H ds vs → ds[i]? = some d → ∃ v, vs[i]? = some v ∧ DR K φ H d v
  | _, _, i, _, .nil, e => by simp at e
  | _, _, 0, _, .cons h _, e => by simp at e; subst e; exact ⟨_, rfl, h⟩
  | _, _, i + 1, d, .cons _ h, e => by
    obtain ⟨v, e1, r⟩ := DRs.get (i := i) (d := d) h (by simpa using e)
    exact ⟨v, by simpa using e1, r⟩
theorem DRs.append : ∀ {ds es : List D} {vs ws : List V}, DRs K φ H ds vs → DRs K φ H es ws → DRs K φ H (ds ++ es) (vs ++ ws)
  | _, _, _, _, .nil, h => h
  | _, _, _, _, .cons a h, g => .cons a (DRs.append h g)
theorem DRs.drop : ∀ {ds : List D} {vs : List V} (n : Nat), DRs K φ H ds vs → DRs K φ H (ds.drop n) (vs.drop n)
  | _, _, 0, h => h
  | _, _, _ + 1, .nil => .nil
  | _, _, n + 1, .cons _ h => DRs.drop n h
theorem DRs.take : ∀ {ds : List D} {vs : List V} (n : Nat), DRs K φ H ds vs → DRs K φ H (ds.take n) (vs.take n)
  | _, _, 0, _ => .nil
  | _, _, _ + 1, .nil => .nil
  | _, _, n + 1, .cons a h => .cons a (DRs.take n h)
theorem DRs.set : ∀ {ds : List D} {vs : List V} {d : D} {v : V} (n : Nat), DRs K φ H ds vs → DR K φ H d v → DRs K φ H (ds.set n d) (vs.set n v)
  | _, _, _, _, _, .nil, _ => .nil
  | _, _, _, _, 0, .cons _ h, r => .cons r h
  | _, _, _, _, n + 1, .cons a h, r => .cons a (DRs.set n h r)
theorem DRs.eraseIdx : ∀ {ds : List D} {vs : List V} (n : Nat), DRs K φ H ds vs → DRs K φ H (ds.eraseIdx n) (vs.eraseIdx n)
  | _, _, _, .nil => .nil
  | _, _, 0, .cons _ h => h
  | _, _, n + 1, .cons a h => .cons a (DRs.eraseIdx n h)
theorem DRs.reverse {ds : List D} {vs : List V} (h : DRs K φ H ds vs) : DRs K φ H ds.reverse vs.reverse := by
  induction h using DRs.rec (motive_1 := fun _ _ _ => True) with
  | nil => exact .nil
  | cons a h _ ih => rw [List.reverse_cons, List.reverse_cons]; exact ih.append (.cons a .nil)
  | _ => trivial
def toK : DK → Key
  | .i i => .inl i
  | .s x => .inr (mkS x)
def okK : DK → Prop
  | .i _ => True
  | .s x => okS x
/-- what a cell says of the object -/
def CellR (K : PySem.W.Frag) (φ : List Addr) (H : Hp) (a : Addr) : C → Prop
  | .lst ds => ∃ vs, H a = some (.lst vs) ∧ DRs K φ H ds vs
  | .dct kvs => ∃ vs, H a = some (.dK ((kvs.map fun p => toK p.1).zip vs)) ∧ DRs K φ H (kvs.map (·.2)) vs ∧ ∀ p ∈ kvs, okK p.1
  | .dtt kvs => ∃ vs, H a = some (.dT ((kvs.map fun p => p.1.map toK).zip vs)) ∧ DRs K φ H (kvs.map (·.2)) vs ∧ ∀ p ∈ kvs, ∀ k ∈ p.1, okK k
structure Rel (K : PySem.W.Frag) (φ : List Addr) (H : Hp) (S : Store) : Prop where
  len : φ.length = S.n
  nd : φ.Nodup
  lt : ∀ p ∈ S.cs, p.1 < S.n
  full : ∀ n, n < S.n → ∃ c, S.get n = some c
  cell : ∀ n c, S.get n = some c → ∃ a, φ[n]? = some a ∧ CellR K φ H a c
structure EnvR (K : PySem.W.Frag) (φ : List Addr) (H : Hp) (env : Env) (σ : St) : Prop where
  len : env.length = σ.length
  at' : ∀ (i : Nat) (d : D), env[i]? = some (some d) → ∃ v : V, σ[i]? = some (some v) ∧ DR K φ H d v
theorem EnvR.ext {φ' H' env σ} (x : Ext K φ H φ' H') (e : EnvR K φ H env σ) : EnvR K φ' H' env σ :=
  ⟨e.len, fun i d h => let ⟨v, h1, h2⟩ := e.at' i d h; ⟨v, h1, h2.ext x⟩⟩
theorem EnvR.set {env σ} (e : EnvR K φ H env σ) {d : D} {v : V} (r : DR K φ H d v) (i : Nat) : EnvR K φ H (env.set i (some d)) (σ.set i (some v)) := by
  refine ⟨by simp [e.len], fun j d' h => ?_⟩
  by_cases hj : i = j
  · subst hj
    rw [List.getElem?_set] at h ⊢
    rw [e.len] at h
    by_cases hl : i < σ.length
    · simp [hl] at h ⊢; subst h; exact r
    · simp [hl] at h
  · rw [List.getElem?_set_ne hj] at h ⊢; exact e.at' j d' h
theorem EnvR.clear {env σ} (e : EnvR K φ H env σ) (i : Nat) : EnvR K φ H (env.set i none) (σ.set i none) := by
  refine ⟨by simp [e.len], fun j d' h => ?_⟩
  by_cases hj : i = j
  · subst hj
    rw [List.getElem?_set] at h
    by_cases hl : i < env.length <;> simp [hl] at h
  · rw [List.getElem?_set_ne hj] at h ⊢; exact e.at' j d' h

/-! ### how the store grows and changes -/
theorem SqT.upd_ne {b : Addr} {o : HO} (hb : ∀ xs, H b ≠ some (.tup xs)) (hf : ∀ ob u, H b ≠ some (.frz ob u)) {a : Addr} {xs : List V} (h : SqT K H a xs) : SqT K (upd H b o) a xs := by
  rcases h with (h | ⟨ob, h⟩) | h
  · have : a ≠ b := fun z => hb xs (z ▸ h)
    exact .inl (.inl (by rw [L2.upd_ne this]; exact h))
  · have : a ≠ b := fun z => hf _ _ (z ▸ h)
    exact .inl (.inr ⟨ob, by rw [L2.upd_ne this]; exact h⟩)
  · exact .inr h
theorem SqL.upd_ne {b : Addr} {o : HO} {a : Addr} {xs : List V} (hab : a ≠ b) (h : SqL K H a xs) : SqL K (upd H b o) a xs := by
  rcases h with (h | ⟨ob, h⟩) | h
  · exact .inl (.inl (by rw [L2.upd_ne hab]; exact h))
  · exact .inl (.inr ⟨ob, by rw [L2.upd_ne hab]; exact h⟩)
  · exact .inr h
theorem CellR.of {φ' : List Addr} {H' : Hp} (x : Ext K φ H φ' H') {a : Addr} (hk : ∀ o, H a = some o → H' a = some o) {c : C} (h : CellR K φ H a c) : CellR K φ' H' a c := by
  cases c with
  | lst ds => obtain ⟨vs, e, r⟩ := h; exact ⟨vs, hk _ e, r.ext x⟩
  | dct ds => obtain ⟨vs, e, r, o⟩ := h; exact ⟨vs, hk _ e, r.ext x, o⟩
  | dtt ds => obtain ⟨vs, e, r, o⟩ := h; exact ⟨vs, hk _ e, r.ext x, o⟩
/-- what a cell's object is -/
def Own : HO → Prop
  | .lst _ => True
  | .dK _ => True
  | .dT _ => True
  | .ins _ _ _ => True
  | .ext _ => True
  | _ => False
theorem CellR.own {a : Addr} {c : C} (h : CellR K φ H a c) : ∃ o, H a = some o ∧ Own o := by
  cases c with
  | lst ds => obtain ⟨vs, e, r⟩ := h; exact ⟨_, e, trivial⟩
  | dct ds => obtain ⟨vs, e, r, o⟩ := h; exact ⟨_, e, trivial⟩
  | dtt ds => obtain ⟨vs, e, r, o⟩ := h; exact ⟨_, e, trivial⟩
theorem Rel.own {S : Store} (r : Rel K φ H S) {a : Addr} (h : a ∈ φ) : ∃ o, H a = some o ∧ Own o := by
  obtain ⟨n, hn, e⟩ := List.mem_iff_getElem.mp h
  obtain ⟨c, hc⟩ := r.full n (by rw [← r.len]; exact hn)
  obtain ⟨b, eb, cr⟩ := r.cell n c hc
  have : b = a := by rw [List.getElem?_eq_getElem hn] at eb; rw [← e]; exact (Option.some.inj eb).symm
  exact this ▸ cr.own
theorem Rel.free {S : Store} (r : Rel K φ H S) {a : Addr} (h : H a = none) : a ∉ φ := fun z => by
  obtain ⟨o, e, _⟩ := r.own z
  rw [h] at e; cases e
/-- an untracked address is written: a tuple, an anonymous list .. -/
theorem Rel.fresh {S : Store} (r : Rel K φ H S) {p : Addr} (hp : H p = none) (o : HO) : Ext K φ H φ (upd H p o) ∧ Rel K φ (upd H p o) S := by
  have x : Ext K φ H φ (upd H p o) := by
    refine ⟨⟨[], by simp⟩, fun b u h _ => ?_, fun b h n => absurd h n, fun a xs h => SqT.upd_ne (fun ys => by rw [hp]; exact fun z => nomatch z) (fun _ _ => by rw [hp]; exact fun z => nomatch z) h⟩
    rw [L2.upd_ne (L2.ne_of_none h hp)]; exact h
  refine ⟨x, ⟨r.len, r.nd, r.lt, r.full, fun n c h => ?_⟩⟩
  obtain ⟨a, ea, cr⟩ := r.cell n c h
  refine ⟨a, ea, cr.of x fun o' e => ?_⟩
  rw [L2.upd_ne (L2.ne_of_none e hp)]; exact e
/-- a new cell -/
theorem Rel.add {S : Store} (r : Rel K φ H S) {p : Addr} (hp : H p = none) {o : HO} {c : C} (hc : ∀ φ', Ext K φ H φ' (upd H p o) → CellR K φ' (upd H p o) p c) : Ext K φ H (φ ++ [p]) (upd H p o) ∧ Rel K (φ ++ [p]) (upd H p o) (S.add c) := by
  obtain ⟨x0, r0⟩ := r.fresh hp o
  have hpφ := r.free hp
  have x : Ext K φ H (φ ++ [p]) (upd H p o) := ⟨⟨[p], rfl⟩, x0.keep, fun b h n => by
    rcases List.mem_append.mp h with h | h
    · exact absurd h n
    · rw [List.mem_singleton.mp h]; exact hp, x0.tup⟩
  refine ⟨x, ⟨by simp [Store.add, r.len], ?_, fun q hq => ?_, fun n hn => ?_, fun n c' h => ?_⟩⟩
  · rw [List.nodup_append]
    refine ⟨r.nd, by simp, fun a ha b hb => ?_⟩
    rw [List.mem_singleton.mp hb]
    exact fun z => hpφ (z ▸ ha)
  · rcases List.mem_cons.mp hq with rfl | hq
    · exact Nat.lt_succ_self _
    · exact Nat.lt_succ_of_lt (r.lt q hq)
  · show ∃ c', lookN n ((S.n, c) :: S.cs) = some c'
    unfold lookN
    by_cases e : n = S.n
    · rw [e, Nat.beq_refl]; exact ⟨c, rfl⟩
    · have : Nat.beq n S.n = false := beq_ne e
      rw [this]
      have hn' : n < S.n + 1 := hn
      exact r.full n (by omega)
  · have h' : lookN n ((S.n, c) :: S.cs) = some c' := h
    unfold lookN at h'
    by_cases e : n = S.n
    · rw [e, Nat.beq_refl] at h'
      cases h'
      refine ⟨p, ?_, hc _ x⟩
      rw [e, ← r.len, List.getElem?_append_right (Nat.le_refl _)]; simp
    · have : Nat.beq n S.n = false := beq_ne e
      rw [this] at h'
      obtain ⟨a, ea, cr⟩ := r.cell n c' h'
      refine ⟨a, ?_, cr.of x fun o' e' => ?_⟩
      · rw [List.getElem?_append_left (List.getElem?_eq_some_iff.mp ea).1]; exact ea
      · rw [L2.upd_ne (L2.ne_of_none e' hp)]; exact e'
/-- a cell's object is changed -/
theorem Rel.upd {S : Store} (r : Rel K φ H S) {n : Nat} {a : Addr} {c0 c : C} (h0 : S.get n = some c0) (ha : φ[n]? = some a) {o : HO} (hc : ∀ H', Ext K φ H φ H' → H' a = some o → CellR K φ H' a c) :
    Ext K φ H φ (L2.upd H a o) ∧ Rel K φ (L2.upd H a o) (S.set n c) := by
  have hmem : a ∈ φ := List.mem_of_getElem? ha
  obtain ⟨o0, e0, own0⟩ := r.own hmem
  have x : Ext K φ H φ (L2.upd H a o) := by
    refine ⟨⟨[], by simp⟩, fun b u h nb => ?_, fun b h nb => absurd h nb, fun b xs h => SqT.upd_ne (fun ys z => ?_) (fun ob u z => ?_) h⟩
    · rw [L2.upd_ne (show b ≠ a from fun z => nb (by rw [z]; exact hmem))]; exact h
    · rw [e0] at z; cases z; exact own0
    · rw [e0] at z; cases z; exact own0
  refine ⟨x, ⟨r.len, r.nd, fun p hp => ?_, fun k hk => ?_, fun k c' h => ?_⟩⟩
  · have hp' : p ∈ setN n c S.cs := hp
    have : ∀ l : List (Nat × C), (∀ q ∈ l, q.1 < S.n) → ∀ q ∈ setN n c l, q.1 < S.n := by
      intro l
      induction l with
      | nil => intro _ q hq; cases hq
      | cons y l ih =>
        obtain ⟨j, d⟩ := y
        intro hl q hq
        unfold setN at hq
        split at hq
        · rcases List.mem_cons.mp hq with rfl | hq
          · exact hl (j, d) (List.mem_cons_self ..)
          · exact hl q (List.mem_cons_of_mem _ hq)
        · rcases List.mem_cons.mp hq with rfl | hq
          · exact hl (j, d) (List.mem_cons_self ..)
          · exact ih (fun q hq => hl q (List.mem_cons_of_mem _ hq)) q hq
    exact this S.cs r.lt p hp'
  · by_cases e : k = n
    · subst e; exact ⟨c, lookN_set_same h0⟩
    · obtain ⟨c', h⟩ := r.full k hk
      exact ⟨c', (lookN_set_ne e).trans h⟩
  · by_cases e : k = n
    · subst e
      have : (S.set k c).get k = some c := lookN_set_same h0
      rw [this] at h; cases h
      exact ⟨a, ha, hc _ x L2.upd_same⟩
    · have h' : S.get k = some c' := (lookN_set_ne e).symm.trans h
      obtain ⟨b, eb, cr⟩ := r.cell k c' h'
      refine ⟨b, eb, cr.of x fun o' e' => ?_⟩
      have hba : b ≠ a := fun z => by
        subst z
        obtain ⟨h1, e1⟩ := List.getElem?_eq_some_iff.mp eb
        obtain ⟨h2, e2⟩ := List.getElem?_eq_some_iff.mp ha
        exact e ((List.getElem_inj r.nd).mp (e1.trans e2.symm))
      rw [L2.upd_ne hba]; exact e'
/-- a list that no cell owns is changed -/
theorem FroL.anon {p : Addr} {o : HO} {ys : List V} (hp : H p = some (.lst ys)) {a : Addr} {xs : List V} (h : FroL K φ H a xs) : FroL K φ (L2.upd H p o) a xs := by
  rcases h with ⟨⟨ob, h⟩, n⟩ | h
  · refine .inl ⟨⟨ob, ?_⟩, n⟩
    rw [L2.upd_ne (fun z => by rw [z, hp] at h; cases h)]; exact h
  · exact .inr h
mutual
theorem DR.anon {p : Addr} {o : HO} {ys : List V} (hp : H p = some (.lst ys)) : ∀ {d : D} {v : V}, DR K φ H d v → DR K φ (L2.upd H p o) d v
  | _, _, .non => .non
  | _, _, .bl b => .bl b
  | _, _, .int i => .int i
  | _, _, .str s => .str s
  | _, _, .tup h hs => .tup (SqT.upd_ne (fun _ z => by rw [hp] at z; cases z) (fun _ _ z => by rw [hp] at z; cases z) h) (DRs.anon hp hs)
  | _, _, .ref h => .ref h
  | _, _, .scr h hs => .scr (h.anon hp) (DRs.anon hp hs)
theorem DRs.anon {p : Addr} {o : HO} {ys : List V} (hp : H p = some (.lst ys)) : ∀ {ds : List D} {vs : List V}, DRs K φ H ds vs → DRs K φ (L2.upd H p o) ds vs
  | _, _, .nil => .nil
  | _, _, .cons h hs => .cons (DR.anon hp h) (DRs.anon hp hs)
end
theorem CellR.anon {p : Addr} {o : HO} {ys : List V} (hp : H p = some (.lst ys)) {a : Addr} (ha : a ≠ p) {c : C} (h : CellR K φ H a c) : CellR K φ (L2.upd H p o) a c := by
  cases c with
  | lst ds => obtain ⟨vs, e, r⟩ := h; exact ⟨vs, by rw [L2.upd_ne ha]; exact e, r.anon hp⟩
  | dct ds => obtain ⟨vs, e, r, o⟩ := h; exact ⟨vs, by rw [L2.upd_ne ha]; exact e, r.anon hp, o⟩
  | dtt ds => obtain ⟨vs, e, r, o⟩ := h; exact ⟨vs, by rw [L2.upd_ne ha]; exact e, r.anon hp, o⟩
theorem Rel.anon {S : Store} (r : Rel K φ H S) {p : Addr} {o : HO} {ys : List V} (hp : H p = some (.lst ys)) (hn : p ∉ φ) : Rel K φ (L2.upd H p o) S :=
  ⟨r.len, r.nd, r.lt, r.full, fun n c h => by
    obtain ⟨a, ea, cr⟩ := r.cell n c h
    exact ⟨a, ea, cr.anon hp fun z => hn (z ▸ List.mem_of_getElem? ea)⟩⟩
/-- an anonymous list becomes a cell -/
theorem Rel.adopt {S : Store} (r : Rel K φ H S) {p : Addr} {vs : List V} {ds : List D} (hp : H p = some (.lst vs)) (hn : p ∉ φ) (hd : DRs K φ H ds vs) : Rel K (φ ++ [p]) H (S.add (.lst ds)) ∧ ∀ φ0 H0, Ext K φ0 H0 φ H → H0 p = none → Ext K φ0 H0 (φ ++ [p]) H := by
  have x : Ext K φ H (φ ++ [p]) H → True := fun _ => trivial
  have drs : ∀ {es : List D} {ws : List V}, DRs K φ H es ws → DRs K (φ ++ [p]) H es ws := by
    -- what does not own p is not touched
    have fro : ∀ {a : Addr} {xs : List V}, FroL K φ H a xs → FroL K (φ ++ [p]) H a xs := fun {a xs} h => by
      rcases h with ⟨⟨ob, h⟩, n⟩ | h
      · refine .inl ⟨⟨ob, h⟩, fun z => ?_⟩
        rcases List.mem_append.mp z with z | z
        · exact n z
        · rw [List.mem_singleton.mp z, hp] at h; cases h
      · exact .inr h
    have ref : ∀ {n : Nat} {a : Addr}, φ[n]? = some a → (φ ++ [p])[n]? = some a := fun {n a} h => by
      rw [List.getElem?_append_left (List.getElem?_eq_some_iff.mp h).1]; exact h
    intro es ws h
    exact DRs.rec (K := K) (φ := φ) (H := H) (motive_1 := fun d v _ => DR K (φ ++ [p]) H d v) (motive_2 := fun ds vs _ => DRs K (φ ++ [p]) H ds vs)
      .non (fun b => .bl b) (fun i => .int i) (fun ok => .str ok) (fun h _ ih => .tup h ih) (fun h => .ref (ref h)) (fun h _ ih => .scr (fro h) ih) .nil (fun _ _ a b => .cons a b) h
  refine ⟨⟨by simp [Store.add, r.len], ?_, fun q hq => ?_, fun n hn' => ?_, fun n c' h => ?_⟩, fun φ0 H0 x0 h0 => ⟨?_, x0.keep, fun b hb nb => ?_, x0.tup⟩⟩
  · rw [List.nodup_append]
    refine ⟨r.nd, by simp, fun a ha b hb => ?_⟩
    rw [List.mem_singleton.mp hb]
    exact fun z => hn (z ▸ ha)
  · rcases List.mem_cons.mp hq with rfl | hq
    · exact Nat.lt_succ_self _
    · exact Nat.lt_succ_of_lt (r.lt q hq)
  · show ∃ c', lookN n ((S.n, .lst ds) :: S.cs) = some c'
    unfold lookN
    by_cases e : n = S.n
    · rw [e, Nat.beq_refl]; exact ⟨_, rfl⟩
    · rw [beq_ne e]
      have hn' : n < S.n + 1 := hn'
      exact r.full n (by omega)
  · have h' : lookN n ((S.n, .lst ds) :: S.cs) = some c' := h
    unfold lookN at h'
    by_cases e : n = S.n
    · rw [e, Nat.beq_refl] at h'
      cases h'
      refine ⟨p, ?_, vs, hp, drs hd⟩
      rw [e, ← r.len, List.getElem?_append_right (Nat.le_refl _)]; simp
    · rw [beq_ne e] at h'
      obtain ⟨a, ea, cr⟩ := r.cell n c' h'
      refine ⟨a, ?_, ?_⟩
      · rw [List.getElem?_append_left (List.getElem?_eq_some_iff.mp ea).1]; exact ea
      · cases c' with
        | lst es => obtain ⟨ws, e1, e2⟩ := cr; exact ⟨ws, e1, drs e2⟩
        | dct es => obtain ⟨ws, e1, e2, o⟩ := cr; exact ⟨ws, e1, drs e2, o⟩
        | dtt es => obtain ⟨ws, e1, e2, o⟩ := cr; exact ⟨ws, e1, drs e2, o⟩
  · obtain ⟨l, el⟩ := x0.pre
    exact ⟨l ++ [p], by rw [el, List.append_assoc]⟩
  · rcases List.mem_append.mp hb with hb | hb
    · exact x0.new b hb nb
    · rw [List.mem_singleton.mp hb]; exact h0
end
end DE

namespace DE
open PySem L2 PyProof.Rows

/-! ## soundness: the readings made of the evaluation functions -/
abbrev XRel := List Addr → Hp → Exn → Value → Option Addr → Prop
def Post {α : Type} (K : PySem.W.Frag) (XR : XRel) (W : WX) (σ : L2.St) (φ : List Addr) (H : Hp) (r : R α) (Good : List Addr → Hp → Store → α → Prop) : Prop :=
  match r with
  | .ok a S' => ∀ φ' H', Ext K φ H φ' H' → Rel K φ' H' S' → Good φ' H' S' a
  | .ex x S' => ∀ φ' H' cls dx, Ext K φ H φ' H' → Rel K φ' H' S' → XR φ' H' x cls dx → W cls dx σ H'
  | .bad => False
/-- an operation that raises nothing -/
def PostO {α : Type} (K : PySem.W.Frag) (φ : List Addr) (H : Hp) (r : Option (α × Store)) (Good : List Addr → Hp → Store → α → Prop) : Prop :=
  match r with
  | some (a, S') => ∀ φ' H', Ext K φ H φ' H' → Rel K φ' H' S' → Good φ' H' S' a
  | none => False
def R.of {α : Type} : Option (α × Store) → R α
  | some (a, S) => .ok a S
  | none => .bad
section
variable {K : PySem.W.Frag} {XR : XRel} {W : WX} {σ : L2.St} {φ : List Addr} {H : Hp}
theorem Post.of {α : Type} {r : Option (α × Store)} {G : List Addr → Hp → Store → α → Prop} (h : Post K XR W σ φ H (R.of r) G) : PostO K φ H r G := by
  cases r with
  | none => exact h
  | some p => exact h
theorem Post.mono {α : Type} {r : R α} {G G' : List Addr → Hp → Store → α → Prop} (h : Post K XR W σ φ H r G) (hg : ∀ φ' H' S' a, Ext K φ H φ' H' → Rel K φ' H' S' → G φ' H' S' a → G' φ' H' S' a) : Post K XR W σ φ H r G' := by
  cases r with
  | ok a S => exact fun φ' H' x r => hg _ _ _ _ x r (h φ' H' x r)
  | ex x S => exact h
  | bad => exact h
theorem Post.ext {α : Type} {φ1 H1} (x : Ext K φ H φ1 H1) {r : R α} {G : List Addr → Hp → Store → α → Prop} (h : Post K XR W σ φ H r G) : Post K XR W σ φ1 H1 r G := by
  cases r with
  | ok a S => exact fun φ' H' y r => h φ' H' (x.trans y) r
  | ex e S => exact fun φ' H' c d y r => h φ' H' c d (x.trans y) r
  | bad => exact h
theorem Post.bind {α β : Type} {r : R α} {f : α → Store → R β} {G : List Addr → Hp → Store → β → Prop} (h : Post K XR W σ φ H (r.bind f) G) : Post K XR W σ φ H r fun φ1 H1 S1 a => Post K XR W σ φ1 H1 (f a S1) G := by
  cases r with
  | ok a S => exact fun φ1 H1 x r1 => Post.ext x h
  | ex x S => exact h
  | bad => exact h
theorem PostO.ok {α : Type} {S S' : Store} {a : α} {G : List Addr → Hp → Store → α → Prop} {φ' H'} (h : PostO K φ H (some (a, S')) G) (x : Ext K φ H φ' H') (r : Rel K φ' H' S') : G φ' H' S' a := h φ' H' x r
end
/-- an expression's reading: its evaluation function on data that lies in the heap -/
def TI (K : PySem.W.Frag) (XR : XRel) (W : WX) (t : Ev) : TE := fun σ H Q => ∃ φ S env, Rel K φ H S ∧ EnvR K φ H env σ ∧ Post K XR W σ φ H (t env S) fun φ' H' _ d => ∀ v, DR K φ' H' d v → Q v H'
def TIt (K : PySem.W.Frag) (XR : XRel) (W : WX) (t : Et) : TT := fun σ H Q => ∃ φ S env, Rel K φ H S ∧ EnvR K φ H env σ ∧ Post K XR W σ φ H (t env S) fun _ H' _ b => Q b H'
def TIa (K : PySem.W.Frag) (XR : XRel) (W : WX) (t : Es) : TA := fun σ H Q => ∃ φ S env, Rel K φ H S ∧ EnvR K φ H env σ ∧ Post K XR W σ φ H (t env S) fun φ' H' _ ds => ∀ vs, DRs K φ' H' ds vs → Q vs H'
abbrev SE (X : Cx) (XR : XRel) (W : WX) (e : Expr) (t : Ev) : Prop := PE X e (TI X.K XR W t)
abbrev ST (X : Cx) (XR : XRel) (W : WX) (e : Expr) (t : Et) : Prop := PT X e (TIt X.K XR W t)
abbrev SA (X : Cx) (XR : XRel) (W : WX) (es : List Expr) (t : Es) : Prop := PA X es (TIa X.K XR W t)
theorem PE.imp {X : Cx} {e : Expr} {t t' : TE} (h : PE X e t) (i : ∀ σ H Q, t' σ H Q → t σ H Q) : PE X e t' := ⟨fun pins s σ H Q I q => h.run pins s σ H Q I (i σ H Q q)⟩
theorem PT.imp {X : Cx} {e : Expr} {t t' : TT} (h : PT X e t) (i : ∀ σ H Q, t' σ H Q → t σ H Q) : PT X e t' := ⟨fun pins s σ H Q I q => h.run pins s σ H Q I (i σ H Q q)⟩
theorem PW.imp {X : Cx} {e : Expr} {t t' : TT} (h : PW X e t) (i : ∀ σ H Q, t' σ H Q → t σ H Q) : PW X e t' := ⟨fun wh pins s σ H Q I q => h.run wh pins s σ H Q I (i σ H Q q)⟩
theorem PA.imp {X : Cx} {es : List Expr} {t t' : TA} (h : PA X es t) (i : ∀ σ H Q, t' σ H Q → t σ H Q) : PA X es t' := ⟨fun pos pins s σ H Q I q => h.run pos pins s σ H Q I (i σ H Q q)⟩

/-! ### the evaluation functions -/
def getE : Env → Nat → Option D
  | [], _ => none
  | o :: _, 0 => o
  | _ :: r, n + 1 => getE r n
theorem getE_eq : ∀ (env : Env) (i : Nat) (d : D), getE env i = some d → env[i]? = some (some d)
  | [], _, _, h => by cases h
  | o :: r, 0, d, h => by simp; exact h
  | o :: r, n + 1, d, h => by simpa using getE_eq r n d h
def var (i : Nat) : Ev := fun env S => match getE env i with
  | some d => .ok d S
  | none => .bad
def cst (d : D) : Ev := fun _ S => .ok d S
def bin (g : D → D → Store → Option (D × Store)) (a b : Ev) : Ev := fun env S => (a env S).bind fun x S1 => (b env S1).bind fun y S2 => R.of (g x y S2)
def una (g : D → Store → Option (D × Store)) (a : Ev) : Ev := fun env S => (a env S).bind fun x S1 => R.of (g x S1)
def nilE : Es := fun _ S => .ok [] S
def consE (a : Ev) (r : Es) : Es := fun env S => (a env S).bind fun x S1 => (r env S1).bind fun xs S2 => .ok (x :: xs) S2
/-- a list's longest length -/
def line : Nat := 16777216
theorem line_eq : line = sizeLine := sizeLine_eq.symm
def tupE (es : Es) : Ev := fun env S => (es env S).bind fun xs S1 => if Nat.ble xs.length line then .ok (.tup xs) S1 else .bad
def lstE (es : Es) : Ev := fun env S => (es env S).bind fun xs S1 => if Nat.ble xs.length line then .ok (.ref S1.n) (S1.add (.lst xs)) else .bad
def fnE (g : List D → Store → Option (D × Store)) (es : Es) : Ev := fun env S => (es env S).bind fun xs S1 => R.of (g xs S1)
/-- a call of an own def -/
def callE (c : List D → Store → R D) (es : Es) : Ev := fun env S => (es env S).bind fun xs S1 => c xs S1
def andE (a b : Et) : Et := fun env S => (a env S).bind fun c S1 => match c with
  | true => b env S1
  | false => .ok false S1
def orE (a b : Et) : Et := fun env S => (a env S).bind fun c S1 => match c with
  | true => .ok true S1
  | false => b env S1
def notE (a : Et) : Et := fun env S => (a env S).bind fun c S1 => .ok (!c) S1
def iteE (c : Et) (a b : Ev) : Ev := fun env S => (c env S).bind fun k S1 => match k with
  | true => a env S1
  | false => b env S1
def truth (d : D) (S : Store) : Option (Bool × Store) := match d with
  | .non => some (false, S)
  | .bl b => some (b, S)
  | .int i => some (i != 0, S)
  | .str [] => some (false, S)
  | .str x => if Nat.ble x.length line then some (true, S) else none
  | .tup [] => some (false, S)
  | .tup _ => some (true, S)
  | .scr [] => some (false, S)
  | .scr _ => some (true, S)
  | .ref n => match S.get n with
    | some (.lst []) => some (false, S)
    | some (.lst _) => some (true, S)
    | some (.dct []) => some (false, S)
    | some (.dct _) => some (true, S)
    | _ => none
def tstE (a : Ev) : Et := fun env S => (a env S).bind fun d S1 => R.of (truth d S1)
/-- a value that is a Bool -/
def isB : D → Store → Option (Bool × Store)
  | .bl b, S => some (b, S)
  | _, _ => none
def blE (a : Ev) : Et := fun env S => (a env S).bind fun d S1 => R.of (isB d S1)
/-- a test's answer as a value -/
def valE (a : Et) : Ev := fun env S => (a env S).bind fun b S1 => .ok (.bl b) S1

section
variable {X : Cx} {XR : XRel} {W : WX} {pos : Pos}
theorem se_var {i : Nat} {x : Str} (hN : X.N[i]? = some x := by rfl) (hv : Vis X.env.scope x := by first | exact Or.inl rfl | exact Or.inr (Or.inl rfl) | exact Or.inr (Or.inr rfl)) (hd : (x == ("__debug__" : Str)) = false := by decide)
    (hcd : (x == ("__classdict__" : Str)) = false := by decide) : SE X XR W (.Name x pos) (var i) := by
  refine PE.imp (pe_var hN hv hd hcd) fun σ H Q ⟨φ, S, env, r, e, h⟩ => ?_
  unfold var at h
  cases g : getE env i with
  | none => rw [g] at h; exact h.elim
  | some d =>
    rw [g] at h
    obtain ⟨v, hv, dr⟩ := e.at' i d (getE_eq env i d g)
    exact ⟨v, hv, h φ H .refl r v dr⟩
theorem se_of {e : Expr} {d : D} {v : V} (h : PE X e (tC v)) (hd : ∀ φ H, DR X.K φ H d v) : SE X XR W e (cst d) :=
  PE.imp h fun σ H Q ⟨φ, S, env, r, e, h⟩ => h φ H .refl r v (hd φ H)
theorem se_non {j} : SE X XR W (.Constant .none j pos) (cst .non) := se_of pe_non fun _ _ => .non
theorem se_bl {b j} : SE X XR W (.Constant (.bool b) j pos) (cst (.bl b)) := se_of pe_bl fun _ _ => .bl b
theorem se_int {i j} : SE X XR W (.Constant (.int i) j pos) (cst (.int i)) := se_of pe_int fun _ _ => .int i
theorem okS_of {l : List Nat} (h : (l.all fun c => Nat.blt c 1114112) = true) : okS l := fun c hc => by
  have := List.all_eq_true.mp h c hc
  exact Nat.le_of_ble_eq_true this
theorem se_str {x : Str} {l : List Nat} {j} (h : x = mkS l := by decide +kernel) (ok : (l.all fun c => Nat.blt c 1114112) = true := by decide +kernel) : SE X XR W (.Constant (.str x) j pos) (cst (.str l)) := se_of pe_str fun _ _ => h ▸ .str (okS_of ok)
/-- a text of the module -/
theorem se_gstr {x : Str} {l : List Nat} {tk : Tok} (hg : Gl X x) (hm : X.mg x = some (.str (mkS l) tk)) (hd : (x == ("__debug__" : Str)) = false := by decide) (ok : (l.all fun c => Nat.blt c 1114112) = true := by decide +kernel) : SE X XR W (.Name x pos) (cst (.str l)) :=
  se_of (pe_glob hg hm (v := .str (mkS l)) ⟨tk, rfl⟩ hd) fun _ _ => .str (okS_of ok)
theorem se_gint {x : Str} {i : Int} {tk : Tok} (hg : Gl X x) (hm : X.mg x = some (.int i tk)) (hd : (x == ("__debug__" : Str)) = false := by decide) : SE X XR W (.Name x pos) (cst (.int i)) :=
  se_of (pe_glob hg hm (v := .int i) ⟨tk, rfl⟩ hd) fun _ _ => .int i

/-- a two-place operation on data -/
def RI (K : PySem.W.Frag) (g : D → D → Store → Option (D × Store)) : R2 := fun x y H Q => ∃ φ S dx dy, Rel K φ H S ∧ DR K φ H dx x ∧ DR K φ H dy y ∧ PostO K φ H (g dx dy S) fun φ' H' _ d => ∀ v, DR K φ' H' d v → Q v H'
def RU (K : PySem.W.Frag) (g : D → Store → Option (D × Store)) : V → Hp → VK → Prop := fun x H Q => ∃ φ S dx, Rel K φ H S ∧ DR K φ H dx x ∧ PostO K φ H (g dx S) fun φ' H' _ d => ∀ v, DR K φ' H' d v → Q v H'
def RF (K : PySem.W.Frag) (g : List D → Store → Option (D × Store)) : List V → Hp → VK → Prop := fun xs H Q => ∃ φ S ds, Rel K φ H S ∧ DRs K φ H ds xs ∧ PostO K φ H (g ds S) fun φ' H' _ d => ∀ v, DR K φ' H' d v → Q v H'
theorem ti_op {g : D → D → Store → Option (D × Store)} {ta tb : Ev} {σ H Q} (h : TI X.K XR W (bin g ta tb) σ H Q) : tOp (RI X.K g) (TI X.K XR W ta) (TI X.K XR W tb) σ H Q := by
  obtain ⟨φ, S, env, r, e, h⟩ := h
  refine ⟨φ, S, env, r, e, (Post.bind h).mono fun φ1 H1 S1 x x1 r1 h1 v dx => ?_⟩
  refine ⟨φ1, S1, env, r1, e.ext x1, (Post.bind h1).mono fun φ2 H2 S2 y x2 r2 h2 u dy => ?_⟩
  exact ⟨φ2, S2, x, y, r2, dx.ext x2, dy, h2.of⟩
theorem se_bin {op : Operator} {g : D → D → Store → Option (D × Store)} (ho : OpR X (binaryOp op) (RI X.K g)) {a b : Expr} {ta tb : Ev} (ha : SE X XR W a ta) (hb : SE X XR W b tb) : SE X XR W (.BinOp a op b pos) (bin g ta tb) :=
  PE.imp (pe_op ho ha hb) fun σ H Q h => ti_op h
theorem se_cmp {op : CmpOp} {g : D → D → Store → Option (D × Store)} (ho : OpR X (compareOp op) (RI X.K g)) {a b : Expr} {ta tb : Ev} (ha : SE X XR W a ta) (hb : SE X XR W b tb) (hm : behindInMarks op b = false := by first | exact nomark _ | rfl) : SE X XR W (.Compare a [op] [b] pos) (bin g ta tb) :=
  PE.imp (pe_cmpR ho ha hb hm) fun σ H Q h => ti_op h
theorem ti_bl {t : Ev} {σ H Q} (h : TIt X.K XR W (blE t) σ H Q) : tTest (TI X.K XR W t) σ H Q := by
  obtain ⟨φ, S, env, r, e, h⟩ := h
  refine ⟨φ, S, env, r, e, (Post.bind h).mono fun φ1 H1 S1 d x1 r1 h1 v dr => ?_⟩
  cases dr with
  | bl b => exact ⟨b, rfl, h1 φ1 H1 .refl r1⟩
  | _ => exact h1.elim
/-- a comparison as a test -/
theorem st_cmp {op : CmpOp} {g : D → D → Store → Option (D × Store)} (ho : OpR X (compareOp op) (RI X.K g)) {a b : Expr} {ta tb : Ev} (ha : SE X XR W a ta) (hb : SE X XR W b tb) (hm : behindInMarks op b = false := by first | exact nomark _ | rfl) : ST X XR W (.Compare a [op] [b] pos) (blE (bin g ta tb)) := by
  refine PT.imp (pt_cmpR ho ha hb hm) fun σ H Q h => ?_
  obtain ⟨φ, S, env, r, e, h⟩ := h
  have h0 := h
  have := ti_op (X := X) (XR := XR) (W := W) (g := g) (ta := ta) (tb := tb) (σ := σ) (H := H) (Q := fun x H' => ∃ k, x = .bl k ∧ Q k H') ⟨φ, S, env, r, e, (Post.bind h).mono fun φ1 H1 S1 d x1 r1 h1 v dr => by
    cases dr with
    | bl b => exact ⟨b, rfl, h1 φ1 H1 .refl r1⟩
    | _ => exact h1.elim⟩
  exact this
theorem se_un {op : UnaryOp} {g : D → Store → Option (D × Store)} (ho : UnR X (unaryOp op) (RU X.K g)) {a : Expr} {ta : Ev} (ha : SE X XR W a ta) : SE X XR W (.UnaryOp op a pos) (una g ta) := by
  refine PE.imp (pe_un ho ha) fun σ H Q ⟨φ, S, env, r, e, h⟩ => ?_
  exact ⟨φ, S, env, r, e, (Post.bind h).mono fun φ1 H1 S1 x x1 r1 h1 v dx => ⟨φ1, S1, x, r1, dx, h1.of⟩⟩
theorem sa_nil : SA X XR W [] nilE := PA.imp pa_nil fun σ H Q ⟨φ, S, env, r, e, h⟩ => h φ H .refl r [] .nil
theorem sa_cons {e : Expr} {es : List Expr} {a : Ev} {r : Es} (ha : SE X XR W e a) (hr : SA X XR W es r) (hs : starEach (e :: es) X.env = (false, eval e X.env) :: starEach es X.env := by rfl) : SA X XR W (e :: es) (consE a r) := by
  refine PA.imp (pa_cons ha hr hs) fun σ H Q ⟨φ, S, env, rr, e, h⟩ => ?_
  refine ⟨φ, S, env, rr, e, (Post.bind h).mono fun φ1 H1 S1 x x1 r1 h1 v dx => ?_⟩
  refine ⟨φ1, S1, env, r1, e.ext x1, (Post.bind h1).mono fun φ2 H2 S2 xs x2 r2 h2 vs ds => ?_⟩
  exact h2 φ2 H2 .refl r2 (v :: vs) (.cons (dx.ext x2) ds)
theorem ble_line {n : Nat} (h : Nat.ble n line = true) : n ≤ sizeLine := by rw [← line_eq]; exact Nat.le_of_ble_eq_true h
theorem se_tup {es : List Expr} {k} {t : Es} (h : SA X XR W es t) : SE X XR W (.Tuple es k pos) (tupE t) := by
  refine PE.imp (pe_tup h) fun σ H Q ⟨φ, S, env, r, e, h⟩ => ?_
  refine ⟨φ, S, env, r, e, (Post.bind h).mono fun φ1 H1 S1 xs x1 r1 h1 vs dvs => ?_⟩
  split at h1
  · rename_i hl
    refine ⟨by rw [dvs.length]; exact ble_line hl, fun p hp => ?_⟩
    obtain ⟨x2, r2⟩ := r1.fresh hp (.tup vs)
    exact h1 φ1 _ x2 r2 (.ref p) (.tup (.inl (.inl upd_same)) (dvs.ext x2))
  · exact h1.elim
theorem se_lst {es : List Expr} {t : Es} (h : SA X XR W es t) : SE X XR W (.List es pos) (lstE t) := by
  refine PE.imp (pe_lst h) fun σ H Q ⟨φ, S, env, r, e, h⟩ => ?_
  refine ⟨φ, S, env, r, e, (Post.bind h).mono fun φ1 H1 S1 xs x1 r1 h1 vs dvs => ?_⟩
  split at h1
  · rename_i hl
    refine ⟨by rw [dvs.length]; exact ble_line hl, fun p hp => ?_⟩
    obtain ⟨x2, r2⟩ := r1.add (c := .lst xs) hp (o := .lst vs) fun φ' x => ⟨vs, upd_same, dvs.ext x⟩
    refine h1 _ _ x2 r2 (.ref p) (.ref ?_)
    rw [← r1.len, List.getElem?_append_right (Nat.le_refl _)]; simp
  · exact h1.elim
theorem st_and {a b : Expr} {rest : List Expr} {ta tb : Et} (ha : ST X XR W a ta) (hb : PW X (.BoolOp .And (b :: rest) pos) (TIt X.K XR W tb)) : PW X (.BoolOp .And (a :: b :: rest) pos) (TIt X.K XR W (andE ta tb)) := by
  refine PW.imp (pw_and ha hb) fun σ H Q ⟨φ, S, env, r, e, h⟩ => ?_
  refine ⟨φ, S, env, r, e, (Post.bind h).mono fun φ1 H1 S1 c x1 r1 h1 => ?_⟩
  cases c with
  | true => rw [if_pos rfl]; exact ⟨φ1, S1, env, r1, e.ext x1, h1⟩
  | false => rw [if_neg Bool.false_ne_true]; exact h1 φ1 H1 .refl r1
theorem st_or {a b : Expr} {rest : List Expr} {ta tb : Et} (ha : ST X XR W a ta) (hb : PW X (.BoolOp .Or (b :: rest) pos) (TIt X.K XR W tb)) : PW X (.BoolOp .Or (a :: b :: rest) pos) (TIt X.K XR W (orE ta tb)) := by
  refine PW.imp (pw_or ha hb) fun σ H Q ⟨φ, S, env, r, e, h⟩ => ?_
  refine ⟨φ, S, env, r, e, (Post.bind h).mono fun φ1 H1 S1 c x1 r1 h1 => ?_⟩
  cases c with
  | true => rw [if_pos rfl]; exact h1 φ1 H1 .refl r1
  | false => rw [if_neg Bool.false_ne_true]; exact ⟨φ1, S1, env, r1, e.ext x1, h1⟩
theorem st_and1 {a : Expr} {ta : Et} (ha : ST X XR W a ta) : PW X (.BoolOp .And [a] pos) (TIt X.K XR W ta) := pw_and1 ha
theorem st_or1 {a : Expr} {ta : Et} (ha : ST X XR W a ta) : PW X (.BoolOp .Or [a] pos) (TIt X.K XR W ta) := pw_or1 ha
theorem st_not {a : Expr} {ta : Et} (ha : ST X XR W a ta) : ST X XR W (.UnaryOp .Not a pos) (notE ta) := by
  refine PT.imp (pt_not ha) fun σ H Q ⟨φ, S, env, r, e, h⟩ => ?_
  exact ⟨φ, S, env, r, e, (Post.bind h).mono fun φ1 H1 S1 c x1 r1 h1 => h1 φ1 H1 .refl r1⟩
/-- a value that is a Bool, as a test -/
theorem st_val {e : Expr} {t : Ev} (h : SE X XR W e t) (he : ∀ whole, isTrue e X.env whole = (do let v ← whole; standAt e.pos; holding [v] (truthy v)) := by intro _; rfl) : ST X XR W e (blE t) := by
  refine PT.imp (pt_val h he) fun σ H Q h => ?_
  exact ti_bl h
theorem tru_of {φ H S} {d : D} {v : V} {b : Bool} {S' : Store} (r : Rel X.K φ H S) (dr : DR X.K φ H d v) (h : truth d S = some (b, S')) : TruV X.K v H b ∧ S' = S := by
  unfold truth at h
  cases dr with
  | non => cases h; exact ⟨rfl, rfl⟩
  | bl b => cases h; exact ⟨rfl, rfl⟩
  | int i => cases h; exact ⟨rfl, rfl⟩
  | @str x ok =>
    cases x with
    | nil => cases h; exact ⟨⟨Nat.zero_le _, rfl⟩, rfl⟩
    | cons c x =>
      simp only at h
      split at h
      · rename_i hl
        cases h
        refine ⟨⟨ble_line hl, ?_⟩, rfl⟩
        show true = (((mkS (c :: x)).length : Int) != 0)
        have e : ((mkS (c :: x)).length : Nat) = x.length + 1 := by show (c :: x).toArray.size = _; simp
        rw [e]; symm; simp; omega
      · cases h
  | tup hs ds =>
    refine ⟨.inr (.inl ⟨_, hs, ?_⟩), ?_⟩
    · cases ds with
      | nil => cases h; rfl
      | cons _ _ => cases h; rfl
    · cases ds <;> cases h <;> rfl
  | scr hs ds =>
    refine ⟨.inl ⟨_, hs.sql, ?_⟩, ?_⟩
    · cases ds with
      | nil => cases h; rfl
      | cons _ _ => cases h; rfl
    · cases ds <;> cases h <;> rfl
  | @ref n a hn =>
    simp only at h
    cases g : S.get n with
    | none => rw [g] at h; cases h
    | some c =>
      rw [g] at h
      obtain ⟨b', eb, cr⟩ := r.cell n c g
      rw [hn] at eb; cases eb
      cases c with
      | lst ds =>
        obtain ⟨vs, e, hd⟩ := cr
        refine ⟨.inl ⟨vs, .of e, ?_⟩, ?_⟩
        · cases hd <;> cases h <;> rfl
        · cases hd <;> cases h <;> rfl
      | dct ds =>
        obtain ⟨vs, e, hd, _⟩ := cr
        cases ds with
        | nil => cases h; cases hd; exact ⟨.inr (.inr ⟨_, e, rfl⟩), rfl⟩
        | cons d ds => cases h; cases hd; exact ⟨.inr (.inr ⟨_, e, rfl⟩), rfl⟩
      | dtt ds => cases h
theorem st_truth {e : Expr} {t : Ev} (h : SE X XR W e t) (he : ∀ whole, isTrue e X.env whole = (do let v ← whole; standAt e.pos; holding [v] (truthy v)) := by intro _; rfl) : ST X XR W e (tstE t) := by
  refine PT.imp (pt_truth h he) fun σ H Q ⟨φ, S, env, r, e, h⟩ => ?_
  refine ⟨φ, S, env, r, e, (Post.bind h).mono fun φ1 H1 S1 d x1 r1 h1 v dr => ?_⟩
  cases q : truth d S1 with
  | none => rw [q] at h1; exact h1.elim
  | some p =>
    obtain ⟨b, S'⟩ := p
    rw [q] at h1
    obtain ⟨tv, rfl⟩ := tru_of r1 dr q
    exact ⟨b, tv, h1 φ1 H1 .refl r1⟩
theorem se_ite {c a b : Expr} {tc : Et} {ta tb : Ev} (hc : ST X XR W c tc) (ha : SE X XR W a ta) (hb : SE X XR W b tb) : SE X XR W (.IfExp c a b pos) (iteE tc ta tb) := by
  refine PE.imp (pe_ifExp hc ha hb) fun σ H Q ⟨φ, S, env, r, e, h⟩ => ?_
  refine ⟨φ, S, env, r, e, (Post.bind h).mono fun φ1 H1 S1 c x1 r1 h1 => ?_⟩
  cases c with
  | true => rw [if_pos rfl]; exact ⟨φ1, S1, env, r1, e.ext x1, h1⟩
  | false => rw [if_neg Bool.false_ne_true]; exact ⟨φ1, S1, env, r1, e.ext x1, h1⟩
/-! and, or, not as values: each part but the last a Bool -/
def andV (a b : Ev) : Ev := fun env S => (blE a env S).bind fun c S1 => match c with
  | true => b env S1
  | false => .ok (.bl false) S1
def orV (a b : Ev) : Ev := fun env S => (blE a env S).bind fun c S1 => match c with
  | true => .ok (.bl true) S1
  | false => b env S1
def notV (a : Ev) : Ev := fun env S => (blE a env S).bind fun c S1 => .ok (.bl !c) S1
theorem bl_bind {t : Ev} {σ φ H S env} {α : Type} {f : Bool → Store → R α} {G} (h : Post X.K XR W σ φ H ((blE t env S).bind f) G) :
    Post X.K XR W σ φ H (t env S) fun φ1 H1 S1 d => ∀ v, DR X.K φ1 H1 d v → ∃ c, v = .bl c ∧ Post X.K XR W σ φ1 H1 (f c S1) G := by
  have h2 := Post.bind (Post.bind h)
  refine h2.mono fun φ1 H1 S1 d x1 r1 h1 v dr => ?_
  cases dr with
  | bl b => exact ⟨b, rfl, h1 φ1 H1 .refl r1⟩
  | _ => exact h1.elim
theorem se_one {op} {a : Expr} {ta : Ev} (ha : SE X XR W a ta) : SE X XR W (.BoolOp op [a] pos) ta := pe_one ha
theorem se_and {a b : Expr} {rest : List Expr} {ta tb : Ev} (ha : SE X XR W a ta) (hb : SE X XR W (.BoolOp .And (b :: rest) pos) tb) : SE X XR W (.BoolOp .And (a :: b :: rest) pos) (andV ta tb) := by
  refine PE.imp (pe_and ha hb) fun σ H Q ⟨φ, S, env, r, e, h⟩ => ?_
  refine ⟨φ, S, env, r, e, (bl_bind h).mono fun φ1 H1 S1 d x1 r1 h1 v dr => ?_⟩
  obtain ⟨c, rfl, h1⟩ := h1 v dr
  refine ⟨c, rfl, ?_⟩
  cases c with
  | true => rw [if_pos rfl]; exact ⟨φ1, S1, env, r1, e.ext x1, h1⟩
  | false => rw [if_neg Bool.false_ne_true]; exact h1 φ1 H1 .refl r1 _ (.bl false)
theorem se_or {a b : Expr} {rest : List Expr} {ta tb : Ev} (ha : SE X XR W a ta) (hb : SE X XR W (.BoolOp .Or (b :: rest) pos) tb) : SE X XR W (.BoolOp .Or (a :: b :: rest) pos) (orV ta tb) := by
  refine PE.imp (pe_or ha hb) fun σ H Q ⟨φ, S, env, r, e, h⟩ => ?_
  refine ⟨φ, S, env, r, e, (bl_bind h).mono fun φ1 H1 S1 d x1 r1 h1 v dr => ?_⟩
  obtain ⟨c, rfl, h1⟩ := h1 v dr
  refine ⟨c, rfl, ?_⟩
  cases c with
  | true => rw [if_pos rfl]; exact h1 φ1 H1 .refl r1 _ (.bl true)
  | false => rw [if_neg Bool.false_ne_true]; exact ⟨φ1, S1, env, r1, e.ext x1, h1⟩
theorem se_not {a : Expr} {ta : Ev} (ha : SE X XR W a ta) : SE X XR W (.UnaryOp .Not a pos) (notV ta) := by
  refine PE.imp (pe_not ha) fun σ H Q ⟨φ, S, env, r, e, h⟩ => ?_
  refine ⟨φ, S, env, r, e, (bl_bind h).mono fun φ1 H1 S1 d x1 r1 h1 v dr => ?_⟩
  obtain ⟨c, rfl, h1⟩ := h1 v dr
  exact ⟨c, rfl, h1 φ1 H1 .refl r1 _ (.bl _)⟩
/-! calls of what is built in -/
theorem se_callB {x : Str} {p : Pos} {id : String} {e : Expr} {es : List Expr} {g : List D → Store → Option (D × Store)} {t : Es} (hc : CallR X (.builtin id) (RF X.K g)) (hg : Gl X x) (hm : X.mg x = none) (hv : bootBuiltins x = some (.builtin id)) (ha : SA X XR W (e :: es) t)
    (hn : x ≠ "__name__" := by decide) (hdb : (x == ("__debug__" : Str)) = false := by decide) (he : starEach (e :: es) X.env = (false, eval e X.env) :: starEach es X.env := by rfl) (hpl : (backTo pos (starEach es X.env)).any (·.1) = false := by rfl) :
    SE X XR W (.Call (.Name x p) (e :: es) [] pos) (fnE g t) := by
  refine PE.imp (pe_callB hc hg hm hv ha hn hdb he hpl) fun σ H Q ⟨φ, S, env, r, e, h⟩ => ?_
  exact ⟨φ, S, env, r, e, (Post.bind h).mono fun φ1 H1 S1 ds x1 r1 h1 vs dvs => ⟨φ1, S1, ds, r1, dvs, h1.of⟩⟩
theorem se_callTy {x : Str} {p : Pos} {T : String} {e : Expr} {es : List Expr} {g : List D → Store → Option (D × Store)} {t : Es} (hc : CallR X (.type T) (RF X.K g)) (hg : Gl X x) (hm : X.mg x = none) (hv : bootBuiltins x = some (.type T)) (ha : SA X XR W (e :: es) t)
    (hn : x ≠ "__name__" := by decide) (hdb : (x == ("__debug__" : Str)) = false := by decide) (he : starEach (e :: es) X.env = (false, eval e X.env) :: starEach es X.env := by rfl) (hpl : (backTo pos (starEach es X.env)).any (·.1) = false := by rfl) :
    SE X XR W (.Call (.Name x p) (e :: es) [] pos) (fnE g t) := by
  refine PE.imp (pe_callTy hc hg hm hv ha hn hdb he hpl) fun σ H Q ⟨φ, S, env, r, e, h⟩ => ?_
  exact ⟨φ, S, env, r, e, (Post.bind h).mono fun φ1 H1 S1 ds x1 r1 h1 vs dvs => ⟨φ1, S1, ds, r1, dvs, h1.of⟩⟩
/-! isinstance(x, T), T a built-in class -/
def tyD (d : D) (S : Store) : Option String := match d with
  | .non => some "NoneType"
  | .bl _ => some "bool"
  | .int _ => some "int"
  | .str _ => some "str"
  | .tup _ => some "tuple"
  | .scr _ => some "list"
  | .ref n => match S.get n with
    | some (.lst _) => some "list"
    | some (.dct _) => some "dict"
    | some (.dtt _) => some "dict"
    | _ => none
/-- the built-in classes that are asked for: what is one of them -/
inductive BT where
  | int | str | bool | tuple | list | dict
def BT.name : BT → String
  | .int => "int" | .str => "str" | .bool => "bool" | .tuple => "tuple" | .list => "list" | .dict => "dict"
def isiD (T : BT) (d : D) (S : Store) : Option (D × Store) := match d, T with
  | .bl _, .bool => some (.bl true, S)
  | .bl _, .int => some (.bl true, S)
  | .int _, .int => some (.bl true, S)
  | .str _, .str => some (.bl true, S)
  | .tup _, .tuple => some (.bl true, S)
  | .scr _, .list => some (.bl true, S)
  | .ref n, .list => match S.get n with
    | some (.lst _) => some (.bl true, S)
    | some _ => some (.bl false, S)
    | none => none
  | .ref n, .dict => match S.get n with
    | some (.dct _) => some (.bl true, S)
    | some (.dtt _) => some (.bl true, S)
    | some _ => some (.bl false, S)
    | none => none
  | .ref n, _ => match S.get n with
    | some _ => some (.bl false, S)
    | none => none
  | _, _ => some (.bl false, S)
theorem isi_of {φ H S} {T : BT} {d : D} {v : V} {o : D} {S' : Store} (r : Rel X.K φ H S) (dr : DR X.K φ H d v) (h : isiD T d S = some (o, S')) :
    S' = S ∧ ∃ b t, o = .bl b ∧ TyX X.K H v t ∧ PySem.W.kitOne X.K t (.type T.name) = some b := by
  unfold isiD at h
  cases dr with
  | non => cases T <;> cases h <;> exact ⟨rfl, _, _, rfl, .base .non, kit_ty (by decide +kernel)⟩
  | bl b => cases T <;> cases h <;> exact ⟨rfl, _, _, rfl, .base (.bl b), kit_ty (by decide +kernel)⟩
  | int i => cases T <;> cases h <;> exact ⟨rfl, _, _, rfl, .base (.int i), kit_ty (by decide +kernel)⟩
  | str x => cases T <;> cases h <;> exact ⟨rfl, _, _, rfl, .base (.str _), kit_ty (by decide +kernel)⟩
  | @tup ds0 a0 vs0 hs ds =>
    have ty : TyX X.K H (.ref a0) (.type "tuple") := by
      rcases hs with (hs | ⟨ob, hs⟩) | ⟨ob, its, n, hk, hc, _⟩
      · exact .base (.tup hs)
      · exact .fTuple hs
      · exact .kTuple hk hc
    cases T <;> cases h <;> exact ⟨rfl, _, _, rfl, ty, kit_ty (by decide +kernel)⟩
  | @scr ds0 a0 vs0 hs ds =>
    have ty : TyX X.K H (.ref a0) (.type "list") := by
      rcases hs.sql with (hs | ⟨ob, hs⟩) | ⟨ob, its, n, hk, hc, _⟩
      · exact .base (.lst hs)
      · exact .base (.frz hs)
      · exact .kList hk hc
    cases T <;> cases h <;> exact ⟨rfl, _, _, rfl, ty, kit_ty (by decide +kernel)⟩
  | @ref n a hn =>
    cases g : S.get n with
    | none => cases T <;> simp [g] at h
    | some c =>
      obtain ⟨b', eb, cr⟩ := r.cell n c g
      rw [hn] at eb; cases eb
      cases c with
      | lst ds =>
        obtain ⟨vs, e, hd⟩ := cr
        cases T <;> simp [g] at h <;> obtain ⟨rfl, rfl⟩ := h <;> exact ⟨rfl, _, _, rfl, .base (.lst e), kit_ty (by decide +kernel)⟩
      | dct ds =>
        obtain ⟨vs, e, hd, _⟩ := cr
        cases T <;> simp [g] at h <;> obtain ⟨rfl, rfl⟩ := h <;> exact ⟨rfl, _, _, rfl, .base (.dK e), kit_ty (by decide +kernel)⟩
      | dtt ds =>
        obtain ⟨vs, e, hd, _⟩ := cr
        cases T <;> simp [g] at h <;> obtain ⟨rfl, rfl⟩ := h <;> exact ⟨rfl, _, _, rfl, .base (.dT e), kit_ty (by decide +kernel)⟩
theorem se_isi {T : BT} {p q : Pos} {Tn : Str} {a : Expr} {ta : Ev} (ha : SE X XR W a ta) (hg : Gl X "isinstance") (hm : X.mg "isinstance" = none) (hgT : Gl X Tn) (hmT : X.mg Tn = none) (hT : bootBuiltins Tn = some (.type T.name))
    (hn : Tn ≠ "__name__" := by decide) (hd : (Tn == ("__debug__" : Str)) = false := by decide)
    (hs : starEach [a, .Name Tn q] X.env = (false, eval a X.env) :: starEach [.Name Tn q] X.env := by rfl) (hpl : (backTo pos (starEach [.Name Tn q] X.env)).any (·.1) = false := by rfl) :
    SE X XR W (.Call (.Name "isinstance" p) [a, .Name Tn q] [] pos) (una (isiD T) ta) := by
  refine PE.imp (pe_callB call_isi hg hm (by decide +kernel) (pa_cons ha (pa_cons (pe_bltn hgT hmT hT (v := .ty T.name) rfl hn hd) pa_nil) hs) (by decide) (by decide) hs hpl) fun σ H Q ⟨φ, S, env, r, e, h⟩ => ?_
  refine ⟨φ, S, env, r, e, (Post.bind h).mono fun φ1 H1 S1 d x1 r1 h1 v dv => ?_⟩
  cases q : isiD T d S1 with
  | none => rw [q] at h1; exact h1.elim
  | some p =>
    obtain ⟨o, S'⟩ := p
    rw [q] at h1
    obtain ⟨rfl, b, t, rfl, ty, k⟩ := isi_of r1 dv q
    exact ⟨v, .ty T.name, t, .type T.name, b, rfl, .ty _, ty, k, h1 φ1 H1 .refl r1 _ (.bl b)⟩
end
end DE

namespace DE
open PySem L2 PyProof.Rows

/-! ## operations on data -/
def list? (S : Store) : D → Option (List D)
  | .scr xs => some xs
  | .ref n => match S.get n with
    | some (.lst xs) => some xs
    | _ => none
  | _ => none
section
variable {K : PySem.W.Frag} {φ : List Addr} {H : Hp} {S : Store}
theorem list_of (r : Rel K φ H S) {d : D} {v : V} (dr : DR K φ H d v) {xs : List D} (h : list? S d = some xs) : ∃ a vs, v = .ref a ∧ SqL K H a vs ∧ DRs K φ H xs vs := by
  cases dr with
  | scr hs ds => cases h; exact ⟨_, _, rfl, hs.sql, ds⟩
  | @ref n a hn =>
    simp only [list?] at h
    cases g : S.get n with
    | none => rw [g] at h; cases h
    | some c =>
      rw [g] at h
      obtain ⟨b, eb, cr⟩ := r.cell n c g
      rw [hn] at eb; cases eb
      cases c with
      | dct _ => cases h
      | dtt _ => cases h
      | lst ds =>
        cases h
        obtain ⟨vs, e, hd⟩ := cr
        exact ⟨a, vs, rfl, .of e, hd⟩
  | _ => cases h
/-- a cell that is a list -/
theorem cell_lst (r : Rel K φ H S) {n : Nat} {v : V} (dr : DR K φ H (.ref n) v) {xs : List D} (h : S.get n = some (.lst xs)) : ∃ a vs, v = .ref a ∧ φ[n]? = some a ∧ H a = some (.lst vs) ∧ DRs K φ H xs vs := by
  cases dr with
  | @ref n a hn =>
    obtain ⟨b, eb, vs, e, hd⟩ := r.cell n _ h
    rw [hn] at eb; cases eb
    exact ⟨a, vs, rfl, hn, e, hd⟩
theorem DR.int' {i : Int} {v : V} (h : DR K φ H (.int i) v) : v = .int i := by cases h; rfl
theorem DR.bl' {i : Bool} {v : V} (h : DR K φ H (.bl i) v) : v = .bl i := by cases h; rfl
theorem DR.str' {x : List Nat} {v : V} (h : DR K φ H (.str x) v) : v = .str (mkS x) ∧ okS x := by cases h with | str ok => exact ⟨rfl, ok⟩
theorem DR.tup' {ds : List D} {v : V} (h : DR K φ H (.tup ds) v) : ∃ a vs, v = .ref a ∧ SqT K H a vs ∧ DRs K φ H ds vs := by cases h with | tup h1 h2 => exact ⟨_, _, rfl, h1, h2⟩
end
/-! ### == -/
def beqNL : List Nat → List Nat → Bool
  | [], [] => true
  | x :: xs, y :: ys => match Nat.beq x y with
    | true => beqNL xs ys
    | false => false
  | _, _ => false
theorem beqNL_iff : ∀ {xs ys : List Nat}, beqNL xs ys = true ↔ xs = ys
  | [], [] => by simp [beqNL]
  | [], _ :: _ => by simp [beqNL]
  | _ :: _, [] => by simp [beqNL]
  | x :: xs, y :: ys => by
    unfold beqNL
    cases e : Nat.beq x y with
    | true =>
      have := Nat.eq_of_beq_eq_true e
      subst this
      simp [beqNL_iff (xs := xs) (ys := ys)]
    | false =>
      have : x ≠ y := fun z => by subst z; rw [Nat.beq_refl] at e; cases e
      simp [this]
def allEq (f : D → D → Bool) : List D → List D → Bool
  | [], [] => true
  | x :: xs, y :: ys => match f x y with
    | true => allEq f xs ys
    | false => false
  | _, _ => false
def allP (f : D → Bool) : List D → Bool
  | [] => true
  | x :: xs => match f x with
    | true => allP f xs
    | false => false
/-- data alone, at most n deep -/
def plainD (S : Store) : Nat → D → Bool
  | _, .non => true
  | _, .bl _ => true
  | _, .int _ => true
  | _, .str _ => true
  | n + 1, .tup xs => allP (plainD S n) xs
  | n + 1, d => match list? S d with
    | some xs => allP (plainD S n) xs
    | none => false
  | 0, _ => false
def toP (S : Store) : Nat → D → PyData
  | _, .non => .none
  | _, .bl b => .bool b
  | _, .int i => .int i
  | _, .str x => .str (mkS x)
  | n + 1, .tup xs => .tuple (xs.map (toP S n))
  | n + 1, d => match list? S d with
    | some xs => .list (xs.map (toP S n))
    | none => .none
  | 0, _ => .none
def eqD (S : Store) : Nat → D → D → Bool
  | _, .non, .non => true
  | _, .bl a, .bl b => a == b
  | _, .bl a, .int j => (if a then 1 else 0) == j
  | _, .int i, .bl b => i == (if b then 1 else 0)
  | _, .int i, .int j => i == j
  | _, .str x, .str y => beqNL x y
  | n + 1, .tup xs, .tup ys => allEq (eqD S n) xs ys
  | n + 1, .scr xs, d => match list? S d with
    | some ys => allEq (eqD S n) xs ys
    | none => false
  | n + 1, .ref i, d => match list? S (.ref i), list? S d with
    | some xs, some ys => allEq (eqD S n) xs ys
    | _, _ => false
  | _, _, _ => false
theorem allP_iff {f : D → Bool} : ∀ {xs : List D}, allP f xs = true ↔ ∀ x ∈ xs, f x = true
  | [] => by simp [allP]
  | x :: xs => by
    unfold allP
    cases e : f x with
    | true => simp [e, allP_iff (xs := xs)]
    | false => simp [e]
theorem depthAll_le {n : Nat} : ∀ {ps : List PyData}, (∀ p ∈ ps, p.depth ≤ n) → PyData.depthAll ps ≤ n
  | [], _ => Nat.zero_le _
  | p :: ps, h => by
    have h1 := h p (List.mem_cons_self ..)
    have h2 := depthAll_le (ps := ps) fun q hq => h q (List.mem_cons_of_mem _ hq)
    simp only [PyData.depthAll]; omega
theorem canLayAll_iff : ∀ {ps : List PyData}, (∀ p ∈ ps, p.canLay0 = true) → PyData.canLayAll0 ps = true
  | [], _ => rfl
  | p :: ps, h => by
    simp only [PyData.canLayAll0, h p (List.mem_cons_self ..), canLayAll_iff (ps := ps) fun q hq => h q (List.mem_cons_of_mem _ hq), Bool.and_self]
section
variable {K : PySem.W.Frag} {φ : List Addr} {H : Hp} {S : Store}
theorem strOk_of {x : List Nat} (h : okS x) : PyData.strOk (mkS x) = true := by
  unfold PyData.strOk
  rw [Array.all_eq_true_iff_forall_mem]
  intro c hc
  exact decide_eq_true (h c (by simpa using hc))
theorem plain_of (r : Rel K φ H S) : ∀ (n : Nat) (d : D) (v : V), plainD S n d = true → DR K φ H d v → Dp K H v (toP S n d) ∧ (toP S n d).canLay0 = true ∧ (toP S n d).depth ≤ n := by
  have many : ∀ n, (∀ (d : D) (v : V), plainD S n d = true → DR K φ H d v → Dp K H v (toP S n d) ∧ (toP S n d).canLay0 = true ∧ (toP S n d).depth ≤ n) →
      ∀ (ds : List D) (vs : List V), allP (plainD S n) ds = true → DRs K φ H ds vs → DpAll K H vs (ds.map (toP S n)) ∧ PyData.canLayAll0 (ds.map (toP S n)) = true ∧ PyData.depthAll (ds.map (toP S n)) ≤ n := by
    intro n ih ds vs hp hd
    refine ⟨?_, ?_, ?_⟩
    · induction ds generalizing vs with
      | nil => cases hd; exact .nil
      | cons d ds ihd =>
        cases hd with
        | cons h1 h2 =>
          have := allP_iff.mp hp
          exact .cons (ih d _ (this d (List.mem_cons_self ..)) h1).1 (ihd _ (allP_iff.mpr fun x hx => this x (List.mem_cons_of_mem _ hx)) h2)
    · refine canLayAll_iff fun p hp' => ?_
      obtain ⟨d, hd', rfl⟩ := List.mem_map.mp hp'
      obtain ⟨i, hi, e⟩ := List.mem_iff_getElem.mp hd'
      obtain ⟨v, _, rv⟩ := hd.get (i := i) (d := d) (by rw [List.getElem?_eq_getElem hi, e])
      exact (ih d v (allP_iff.mp hp d hd') rv).2.1
    · refine depthAll_le fun p hp' => ?_
      obtain ⟨d, hd', rfl⟩ := List.mem_map.mp hp'
      obtain ⟨i, hi, e⟩ := List.mem_iff_getElem.mp hd'
      obtain ⟨v, _, rv⟩ := hd.get (i := i) (d := d) (by rw [List.getElem?_eq_getElem hi, e])
      exact (ih d v (allP_iff.mp hp d hd') rv).2.2
  intro n
  induction n with
  | zero =>
    intro d v hp hd
    cases hd with
    | non => exact ⟨.non, rfl, Nat.le_refl _⟩
    | bl b => exact ⟨.bl b, rfl, Nat.le_refl _⟩
    | int i => exact ⟨.int i, rfl, Nat.le_refl _⟩
    | str ok => exact ⟨.str _, by simp only [toP, PyData.canLay0]; exact strOk_of ok, Nat.le_refl _⟩
    | tup _ _ => cases hp
    | scr _ _ => cases hp
    | ref _ => cases hp
  | succ n ih =>
    intro d v hp hd
    cases hd with
    | non => exact ⟨.non, rfl, Nat.zero_le _⟩
    | bl b => exact ⟨.bl b, rfl, Nat.zero_le _⟩
    | int i => exact ⟨.int i, rfl, Nat.zero_le _⟩
    | str ok => exact ⟨.str _, by simp only [toP, PyData.canLay0]; exact strOk_of ok, Nat.zero_le _⟩
    | tup hs ds =>
      obtain ⟨h1, h2, h3⟩ := many n ih _ _ hp ds
      refine ⟨.tup hs h1, ?_, ?_⟩
      · simp only [toP, PyData.canLay0]; exact h2
      · simp only [toP, PyData.depth]; omega
    | scr hs ds =>
      obtain ⟨h1, h2, h3⟩ := many n ih _ _ hp ds
      refine ⟨.lst hs.sql h1, ?_, ?_⟩
      · simp only [toP, list?, PyData.canLay0]; exact h2
      · simp only [toP, list?, PyData.depth]; omega
    | @ref i a hn =>
      cases g : list? S (.ref i) with
      | none => simp only [plainD, g] at hp; cases hp
      | some xs =>
        simp only [plainD, g] at hp
        obtain ⟨b, vs, e, hs, ds⟩ := list_of r (.ref hn) g
        cases e
        obtain ⟨h1, h2, h3⟩ := many n ih _ _ hp ds
        refine ⟨?_, ?_, ?_⟩
        · simp only [toP, g]; exact .lst hs h1
        · simp only [toP, g, PyData.canLay0]; exact h2
        · simp only [toP, g, PyData.depth]; omega
theorem shaped_of {n : Nat} {p : PyData} (h1 : p.canLay0 = true) (h2 : p.depth ≤ n) (hn : n ≤ 64) : SeqAt.shaped p = true := by
  unfold SeqAt.shaped
  rw [h1, decide_eq_true (Nat.le_trans h2 hn)]; rfl
theorem eqvAll_map {n : Nat} {f : D → D → Bool} (hf : ∀ x y, plainD S n x = true → plainD S n y = true → f x y = PyData.eqv (toP S n x) (toP S n y)) : ∀ {xs ys : List D}, allP (plainD S n) xs = true → allP (plainD S n) ys = true →
    allEq f xs ys = PyData.eqvAll (xs.map (toP S n)) (ys.map (toP S n))
  | [], [], _, _ => by simp [allEq, PyData.eqvAll]
  | [], _ :: _, _, _ => by simp [allEq, PyData.eqvAll]
  | _ :: _, [], _, _ => by simp [allEq, PyData.eqvAll]
  | x :: xs, y :: ys, h1, h2 => by
    have a1 := allP_iff.mp h1
    have a2 := allP_iff.mp h2
    have e := hf x y (a1 x (List.mem_cons_self ..)) (a2 y (List.mem_cons_self ..))
    have ih := eqvAll_map hf (xs := xs) (ys := ys) (allP_iff.mpr fun z hz => a1 z (List.mem_cons_of_mem _ hz)) (allP_iff.mpr fun z hz => a2 z (List.mem_cons_of_mem _ hz))
    simp only [List.map_cons, PyData.eqvAll]
    unfold allEq
    rw [e, ih]
    cases PyData.eqv (toP S n x) (toP S n y) <;> rfl
theorem eqD_eq : ∀ (n : Nat) (x y : D), plainD S n x = true → plainD S n y = true → eqD S n x y = PyData.eqv (toP S n x) (toP S n y) := by
  have se : ∀ x y : List Nat, beqNL x y = (mkS x == mkS y) := fun x y => by
    rw [Bool.eq_iff_iff, beqNL_iff, beq_iff_eq]
    constructor
    · intro e; rw [e]
    · intro e; have := congrArg (fun z : Str => z.cps.toList) e; simpa using this
  intro n
  induction n with
  | zero =>
    intro x y hx hy
    cases x <;> cases y <;> first
      | (simp only [eqD, toP, PyData.eqv]; done)
      | (simp only [eqD, toP, PyData.eqv]; exact se _ _)
      | exact absurd hx Bool.false_ne_true
      | exact absurd hy Bool.false_ne_true
  | succ n ih =>
    intro x y hx hy
    cases x with
    | non =>
      cases y with
      | ref j =>
        cases g : list? S (.ref j) with
        | none => simp only [plainD, g] at hy; cases hy
        | some ys => simp [eqD, toP, PyData.eqv, g]
      | _ => simp [eqD, toP, PyData.eqv, list?]
    | bl b =>
      cases y with
      | ref j =>
        cases g : list? S (.ref j) with
        | none => simp only [plainD, g] at hy; cases hy
        | some ys => simp [eqD, toP, PyData.eqv, g]
      | _ => simp [eqD, toP, PyData.eqv, list?]
    | int i =>
      cases y with
      | ref j =>
        cases g : list? S (.ref j) with
        | none => simp only [plainD, g] at hy; cases hy
        | some ys => simp [eqD, toP, PyData.eqv, g]
      | _ => simp [eqD, toP, PyData.eqv, list?]
    | str x =>
      cases y with
      | ref j =>
        cases g : list? S (.ref j) with
        | none => simp only [plainD, g] at hy; cases hy
        | some ys => simp [eqD, toP, PyData.eqv, g]
      | str y => simp only [eqD, toP, PyData.eqv]; exact se _ _
      | _ => simp [eqD, toP, PyData.eqv, list?]
    | tup xs =>
      cases y with
      | ref j =>
        cases g : list? S (.ref j) with
        | none => simp only [plainD, g] at hy; cases hy
        | some ys => simp [eqD, toP, PyData.eqv, g]
      | tup ys => simp only [eqD, toP, PyData.eqv]; exact eqvAll_map ih hx hy
      | _ => simp [eqD, toP, PyData.eqv, list?]
    | scr xs =>
      cases y with
      | ref j =>
        cases g : list? S (.ref j) with
        | none => simp only [plainD, g] at hy; cases hy
        | some ys =>
          have hy' : allP (plainD S n) ys = true := by
            have z : (match list? S (.ref j) with | some xs => allP (plainD S n) xs | none => false) = true := hy
            rw [g] at z; exact z
          have e1 : toP S (n + 1) (.ref j) = .list (ys.map (toP S n)) := by
            show (match list? S (.ref j) with | some xs => PyData.list (xs.map (toP S n)) | none => .none) = _
            rw [g]
          have e2 : eqD S (n + 1) (.scr xs) (.ref j) = allEq (eqD S n) xs ys := by
            show (match list? S (.ref j) with | some ys => allEq (eqD S n) xs ys | none => false) = _
            rw [g]
          rw [e1, e2]
          exact eqvAll_map ih hx hy'
      | scr ys => simp only [eqD, toP, PyData.eqv, list?]; exact eqvAll_map ih hx hy
      | _ => simp [eqD, toP, PyData.eqv, list?]
    | ref i =>
      cases gi : list? S (.ref i) with
      | none => simp only [plainD, gi] at hx; cases hx
      | some xs =>
        simp only [plainD, gi] at hx
        cases y with
        | ref j =>
          cases g : list? S (.ref j) with
          | none => simp only [plainD, g] at hy; cases hy
          | some ys =>
            simp only [plainD, g] at hy
            simp only [eqD, toP, PyData.eqv, g, gi]
            exact eqvAll_map ih hx hy
        | scr ys => simp only [eqD, toP, PyData.eqv, gi]; exact eqvAll_map ih hx hy
        | non => simp [eqD, toP, PyData.eqv, gi]; simp [list?]
        | bl _ => simp [eqD, toP, PyData.eqv, gi]; simp [list?]
        | int _ => simp [eqD, toP, PyData.eqv, gi]; simp [list?]
        | str _ => simp [eqD, toP, PyData.eqv, gi]; simp [list?]
        | tup _ => simp [eqD, toP, PyData.eqv, gi]; simp [list?]
end
def eqO (x y : D) (S : Store) : Option (D × Store) := match plainD S 60 x, plainD S 60 y with
  | true, true => some (.bl (eqD S 60 x y), S)
  | _, _ => none
def neO (x y : D) (S : Store) : Option (D × Store) := match plainD S 60 x, plainD S 60 y with
  | true, true => some (.bl (!eqD S 60 x y), S)
  | _, _ => none
section
variable {X : Cx}
theorem or_eq (hu : X.A.units + 64 < cLine) : OpR X (compareOp .Eq) (RI X.K eqO) := by
  intro pins s σ H x y v u Q I rx ry ⟨φ, S, dx, dy, r, hx, hy, h⟩
  unfold eqO at h
  cases p1 : plainD S 60 dx with
  | false => rw [p1] at h; exact h.elim
  | true =>
    cases p2 : plainD S 60 dy with
    | false => rw [p1, p2] at h; exact h.elim
    | true =>
      rw [p1, p2] at h
      obtain ⟨a1, a2, a3⟩ := plain_of r 60 dx x p1 hx
      obtain ⟨b1, b2, b3⟩ := plain_of r 60 dy y p2 hy
      exact op_eqD hu pins s σ H x y v u Q I rx ry ⟨_, _, a1, b1, shaped_of a2 a3 (by decide), shaped_of b2 b3 (by decide), by
        rw [← eqD_eq 60 dx dy p1 p2]; exact h φ H .refl r _ (.bl _)⟩
theorem or_ne (hu : X.A.units + 64 < cLine) : OpR X (compareOp .NotEq) (RI X.K neO) := by
  intro pins s σ H x y v u Q I rx ry ⟨φ, S, dx, dy, r, hx, hy, h⟩
  unfold neO at h
  cases p1 : plainD S 60 dx with
  | false => rw [p1] at h; exact h.elim
  | true =>
    cases p2 : plainD S 60 dy with
    | false => rw [p1, p2] at h; exact h.elim
    | true =>
      rw [p1, p2] at h
      obtain ⟨a1, a2, a3⟩ := plain_of r 60 dx x p1 hx
      obtain ⟨b1, b2, b3⟩ := plain_of r 60 dy y p2 hy
      exact op_neD hu pins s σ H x y v u Q I rx ry ⟨_, _, a1, b1, shaped_of a2 a3 (by decide), shaped_of b2 b3 (by decide), by
        rw [← eqD_eq 60 dx dy p1 p2]; exact h φ H .refl r _ (.bl _)⟩
end
end DE

namespace DE
open PySem L2 PyProof.Rows

/-! ## arithmetic -/
def addO (x y : D) (S : Store) : Option (D × Store) := match x, y with
  | .int i, .int j => some (.int (i + j), S)
  | .str a, .str b => if Nat.ble (a.length + b.length) line then some (.str (a ++ b), S) else none
  | .tup a, .tup b => if Nat.ble (a.length + b.length) line then some (.tup (a ++ b), S) else none
  | .ref i, .ref j => match S.get i, S.get j with
    | some (.lst a), some (.lst b) => if Nat.ble (a.length + b.length) line then some (.ref S.n, S.add (.lst (a ++ b))) else none
    | _, _ => none
  | _, _ => none
def subO (x y : D) (S : Store) : Option (D × Store) := match x, y with
  | .int i, .int j => some (.int (i - j), S)
  | _, _ => none
/-- n copies, one behind the other -/
def repL {α : Type} (x : List α) : Nat → List α
  | 0 => []
  | n + 1 => x ++ repL x n
def mulO (x y : D) (S : Store) : Option (D × Store) := match x, y with
  | .int i, .int j => if Nat.blt (i.natAbs.log2 + j.natAbs.log2) 1000000 then some (.int (i * j), S) else none
  | .str a, .int j => if Nat.ble j.natAbs 100000 && Nat.ble a.length 100 then some (.str (repL a j.toNat), S) else none
  | .tup a, .int j => if Nat.ble 2 j.toNat && Nat.ble j.toNat 1000 && Nat.ble a.length 1000 && Nat.ble 1 a.length then some (.tup (repL a j.toNat), S) else none
  | .ref i, .int j => match S.get i with
    | some (.lst a) => if Nat.ble j.natAbs 10000 && Nat.ble a.length 1000 then some (.ref S.n, S.add (.lst (repL a j.toNat))) else none
    | _ => none
  | _, _ => none
def divO (x y : D) (S : Store) : Option (D × Store) := match x, y with
  | .int i, .int j => if Nat.ble 1 j.toNat && Nat.blt j.toNat.log2 9000 then some (.int (i / j), S) else none
  | _, _ => none
def modO (x y : D) (S : Store) : Option (D × Store) := match x, y with
  | .int i, .int j => if Nat.ble 1 j.toNat then some (.int (i % j), S) else none
  | _, _ => none
def powO (x y : D) (S : Store) : Option (D × Store) := match x, y with
  | .int i, .int (.ofNat n) => if Nat.ble i.natAbs.log2 5000 && Nat.ble n 5000 then some (.int (i ^ n), S) else none
  | _, _ => none
def bandO (x y : D) (S : Store) : Option (D × Store) := match x, y with
  | .int i, .int j => some (.int (Builtin.bitAnd i j), S)
  | _, _ => none
def negO (x : D) (S : Store) : Option (D × Store) := match x with
  | .int i => some (.int (-i), S)
  | _ => none
section
variable {X : Cx}
theorem okS_append {a b : List Nat} (h1 : okS a) (h2 : okS b) : okS (a ++ b) := fun c hc => (List.mem_append.mp hc).elim (h1 c) (h2 c)
theorem str_app (a b : List Nat) : mkS a ++ mkS b = mkS (a ++ b) := by
  show Str.mk (a.toArray ++ b.toArray) = _
  simp
theorem mkS_length (a : List Nat) : (mkS a).length = a.length := by show a.toArray.size = _; simp
theorem mkS_cps (a : List Nat) : (mkS a).cps.toList = a := by simp
theorem or_add : OpR X (binaryOp .Add) (RI X.K addO) := by
  intro pins s σ H x y v u Q I rx ry ⟨φ, S, dx, dy, r, hx, hy, h⟩
  unfold addO at h
  split at h
  · rw [hx.int'] at rx; rw [hy.int'] at ry
    exact op_add pins s σ H _ _ v u Q I rx ry ⟨_, _, rfl, rfl, h φ H .refl r _ (.int _)⟩
  · split at h
    · rename_i hl
      obtain ⟨e1, o1⟩ := hx.str'; obtain ⟨e2, o2⟩ := hy.str'
      rw [e1] at rx; rw [e2] at ry
      refine op_add_str pins s σ H _ _ v u Q I rx ry ⟨_, _, rfl, rfl, by rw [mkS_length, mkS_length]; exact ble_line hl, ?_⟩
      rw [str_app]; exact h φ H .refl r _ (.str (okS_append o1 o2))
    · exact h.elim
  · split at h
    · rename_i a b hl
      obtain ⟨a1, vs, e1, s1, d1⟩ := hx.tup'; obtain ⟨a2, ws, e2, s2, d2⟩ := hy.tup'
      rw [e1] at rx; rw [e2] at ry
      have l1 := d1.length; have l2 := d2.length
      refine op_catA pins s σ H _ _ v u Q I rx ry ⟨a1, a2, vs, ws, rfl, rfl, s1, s2, by rw [l1, l2]; exact ble_line hl, fun z => ?_, fun z1 z2 => ?_, fun z1 z2 p hp => ?_⟩
      · have : a = [] := by cases d1 with | nil => rfl | cons _ _ => cases z
        subst this
        exact h φ H .refl r _ (.tup s2 d2)
      · have : b = [] := by cases d2 with | nil => rfl | cons _ _ => cases z2
        subst this
        rw [List.append_nil] at h
        exact h φ H .refl r _ (.tup s1 d1)
      · obtain ⟨x2, r2⟩ := r.fresh hp (.tup (vs ++ ws))
        exact h φ _ x2 r2 _ (.tup (.inl (.inl upd_same)) ((d1.ext x2).append (d2.ext x2)))
    · exact h.elim
  · split at h
    · rename_i g1 g2
      split at h
      · rename_i hl
        obtain ⟨a1, vs, e1, f1, h1, d1⟩ := cell_lst r hx g1; obtain ⟨a2, ws, e2, f2, h2, d2⟩ := cell_lst r hy g2
        rw [e1] at rx; rw [e2] at ry
        have l1 := d1.length; have l2 := d2.length
        refine op_cat pins s σ H _ _ v u Q I rx ry ⟨a1, a2, vs, ws, rfl, rfl, h1, h2, by rw [l1, l2]; exact ble_line hl, fun p hp => ?_⟩
        obtain ⟨x2, r2⟩ := r.add (c := .lst _) hp (o := .lst (vs ++ ws)) fun φ' x => ⟨_, upd_same, (d1.ext x).append (d2.ext x)⟩
        refine h _ _ x2 r2 _ (.ref ?_)
        rw [← r.len, List.getElem?_append_right (Nat.le_refl _)]; simp
      · exact h.elim
    · exact h.elim
  · exact h.elim
theorem or_sub : OpR X (binaryOp .Sub) (RI X.K subO) := by
  intro pins s σ H x y v u Q I rx ry ⟨φ, S, dx, dy, r, hx, hy, h⟩
  unfold subO at h
  split at h
  · rw [hx.int'] at rx; rw [hy.int'] at ry
    exact op_sub pins s σ H _ _ v u Q I rx ry ⟨_, _, rfl, rfl, h φ H .refl r _ (.int _)⟩
  · exact h.elim
theorem rep_flat {α : Type} (x : List α) : ∀ n, (List.replicate n x).flatten = repL x n
  | 0 => rfl
  | n + 1 => by rw [List.replicate_succ, List.flatten_cons, rep_flat x n]; rfl
theorem okS_rep {x : List Nat} (h : okS x) : ∀ n, okS (repL x n)
  | 0 => fun _ z => nomatch z
  | n + 1 => okS_append h (okS_rep h n)
theorem repL_map {K φ H} {ds : List D} {vs : List V} (h : DRs K φ H ds vs) : ∀ n, DRs K φ H (repL ds n) (repL vs n)
  | 0 => .nil
  | n + 1 => h.append (repL_map h n)
theorem fold_rep (a : Array Nat) : ∀ (n : Nat) (acc : Array Nat), (List.replicate n a).foldl (· ++ ·) acc = acc ++ (repL a.toList n).toArray
  | 0, acc => by simp [repL]
  | n + 1, acc => by
    rw [List.replicate_succ, List.foldl_cons, fold_rep a n]
    apply Array.toList_inj.mp
    simp [repL]
theorem mul_txt (a : List Nat) (j : Int) : Txt.mul (mkS a) j = mkS (repL a j.toNat) := by
  unfold Txt.mul
  by_cases h : j < 1
  · rw [if_pos h]
    have : j.toNat = 0 := by omega
    rw [this]; rfl
  · rw [if_neg h]
    split
    · rename_i h2
      rcases Bool.or_eq_true_iff.mp h2 with h3 | h3
      · have : j = 1 := by simpa using h3
        subst this
        show mkS a = mkS (a ++ [])
        rw [List.append_nil]
      · have : a = [] := by
          have := eq_of_beq h3
          rw [mkS_length] at this
          exact List.eq_nil_of_length_eq_zero this
        subst this
        have : ∀ n, repL ([] : List Nat) n = [] := fun n => by induction n with | zero => rfl | succ n ih => simp [repL, ih]
        rw [this]
    · rw [fold_rep]; simp
theorem or_mul : OpR X (binaryOp .Mult) (RI X.K mulO) := by
  intro pins s σ H x y v u Q I rx ry ⟨φ, S, dx, dy, r, hx, hy, h⟩
  unfold mulO at h
  split at h
  · split at h
    · rename_i hl
      rw [hx.int'] at rx; rw [hy.int'] at ry
      exact op_mulW pins s σ H _ _ v u Q I rx ry ⟨_, _, rfl, rfl, Nat.le_of_ble_eq_true hl, h φ H .refl r _ (.int _)⟩
    · exact h.elim
  · split at h
    · rename_i a j hl
      obtain ⟨e1, o1⟩ := hx.str'
      rw [e1] at rx; rw [hy.int'] at ry
      obtain ⟨h1, h2⟩ := Bool.and_eq_true_iff.mp hl
      have h1 := Nat.le_of_ble_eq_true h1
      have h2 := Nat.le_of_ble_eq_true h2
      obtain ⟨t, rfl⟩ := rx
      obtain ⟨t', rfl⟩ := ry
      have hm := mul_txt a j
      refine SB.mul ⟨?_, fun k1 k2 => ?_, fun k1 k2 => ?_⟩ fun t' k => ?_
      · rw [Bool.or_eq_false_iff]; constructor <;> apply decide_eq_false <;> omega
      · rw [mkS_length]
        have : (2 ^ 63 - 1 : Int) / 100000 ≤ (2 ^ 63 - 1) / j := by
          rw [Int.le_ediv_iff_mul_le (by omega)]
          have : (2 ^ 63 - 1 : Int) / 100000 * j ≤ (2 ^ 63 - 1 : Int) / 100000 * 100000 := Int.mul_le_mul_of_nonneg_left (by omega) (by decide)
          have : (2 ^ 63 - 1 : Int) / 100000 * 100000 ≤ 2 ^ 63 - 1 := by decide
          omega
        have : (100 : Int) ≤ (2 ^ 63 - 1 : Int) / 100000 := by decide
        omega
      · rw [mkS_length]
        unfold Builtin.Str.tooLong
        apply decide_eq_false
        have : a.length * j.toNat ≤ 100 * 100000 := Nat.mul_le_mul h2 (by omega)
        have := sizeLine_eq
        omega
      · rw [hm]
        exact ⟨.str _, H, I.tok _, ⟨_, rfl⟩, h φ H .refl r _ (.str (okS_rep o1 _))⟩
    · exact h.elim
  · split at h
    · rename_i a j hl
      obtain ⟨a1, vs, e1, s1, d1⟩ := hx.tup'
      rw [e1] at rx; rw [hy.int'] at ry
      obtain ⟨h3, h4⟩ := Bool.and_eq_true_iff.mp hl
      obtain ⟨h2, h3⟩ := Bool.and_eq_true_iff.mp h3
      obtain ⟨h1, h2⟩ := Bool.and_eq_true_iff.mp h2
      have h1 := Nat.le_of_ble_eq_true h1
      have h2 := Nat.le_of_ble_eq_true h2
      have h3 := Nat.le_of_ble_eq_true h3
      have h4 := Nat.le_of_ble_eq_true h4
      have l1 := d1.length
      refine op_repT pins s σ H _ _ v u Q I rx ry ⟨a1, j, vs, rfl, rfl, s1, fun z => ?_, by omega, by omega, by omega, fun p hp => ?_⟩
      · rw [z] at l1; simp at l1; omega
      · obtain ⟨x2, r2⟩ := r.fresh hp (.tup (List.replicate j.toNat vs).flatten)
        have q : DRs X.K φ H (repL a j.toNat) (List.replicate j.toNat vs).flatten := by rw [rep_flat]; exact repL_map d1 _
        exact h φ _ x2 r2 _ (.tup (.inl (.inl upd_same)) (q.ext x2))
    · exact h.elim
  · split at h
    · split at h
      · rename_i n j _ a g hl
        obtain ⟨a1, vs, e1, f1, h1, d1⟩ := cell_lst r hx g
        rw [e1] at rx; rw [hy.int'] at ry
        obtain ⟨k1, k2⟩ := Bool.and_eq_true_iff.mp hl
        have k1 := Nat.le_of_ble_eq_true k1
        have k2 := Nat.le_of_ble_eq_true k2
        have l1 := d1.length
        have : vs.length * j.toNat ≤ 1000 * 10000 := Nat.mul_le_mul (by omega) (by omega)
        have := sizeLine_eq
        refine op_rep pins s σ H _ _ v u Q I rx ry ⟨a1, j, vs, rfl, rfl, h1, by omega, by omega, by omega, fun p hp => ?_⟩
        have q : DRs X.K φ H (repL a j.toNat) (List.replicate j.toNat vs).flatten := by rw [rep_flat]; exact repL_map d1 _
        obtain ⟨x2, r2⟩ := r.add (c := .lst (repL a j.toNat)) hp (o := .lst (List.replicate j.toNat vs).flatten) fun φ' x => ⟨_, upd_same, q.ext x⟩
        refine h _ _ x2 r2 _ (.ref ?_)
        rw [← r.len, List.getElem?_append_right (Nat.le_refl _)]; simp
      · exact h.elim
    · exact h.elim
  · exact h.elim
theorem or_div : OpR X (binaryOp .FloorDiv) (RI X.K divO) := by
  intro pins s σ H x y v u Q I rx ry ⟨φ, S, dx, dy, r, hx, hy, h⟩
  unfold divO at h
  split at h
  · split at h
    · rename_i i j hl
      rw [hx.int'] at rx; rw [hy.int'] at ry
      obtain ⟨h1, h2⟩ := Bool.and_eq_true_iff.mp hl
      have h1 := Nat.le_of_ble_eq_true h1
      have h2 : j.toNat.log2 < 9000 := Nat.le_of_ble_eq_true h2
      have e : j.natAbs = j.toNat := by omega
      exact op_fdivW pins s σ H _ _ v u Q I rx ry ⟨_, _, rfl, rfl, ⟨by omega, by rw [e]; exact h2⟩, h φ H .refl r _ (.int _)⟩
    · exact h.elim
  · exact h.elim
theorem or_mod : OpR X (binaryOp .Mod) (RI X.K modO) := by
  intro pins s σ H x y v u Q I rx ry ⟨φ, S, dx, dy, r, hx, hy, h⟩
  unfold modO at h
  split at h
  · split at h
    · rename_i i j hl
      rw [hx.int'] at rx; rw [hy.int'] at ry
      have h1 := Nat.le_of_ble_eq_true hl
      exact op_mod pins s σ H _ _ v u Q I rx ry ⟨_, _, rfl, rfl, by omega, h φ H .refl r _ (.int _)⟩
    · exact h.elim
  · exact h.elim
theorem or_pow : OpR X (binaryOp .Pow) (RI X.K powO) := by
  intro pins s σ H x y v u Q I rx ry ⟨φ, S, dx, dy, r, hx, hy, h⟩
  unfold powO at h
  split at h
  · split at h
    · rename_i i n hl
      rw [hx.int'] at rx; rw [hy.int'] at ry
      obtain ⟨h1, h2⟩ := Bool.and_eq_true_iff.mp hl
      have h1 := Nat.le_of_ble_eq_true h1
      have h2 := Nat.le_of_ble_eq_true h2
      obtain ⟨t, rfl⟩ := rx
      obtain ⟨t', rfl⟩ := ry
      refine pow_int (n := Int.ofNat n) (Int.natCast_nonneg _) ?_ ⟨.int (i ^ n), H, I.tok _, ⟨_, rfl⟩, h φ H .refl r _ (.int _)⟩
      have b : Builtin.Int.intBits i ≤ 5001 := by unfold Builtin.Int.intBits; split <;> omega
      have : Builtin.Int.intBits i * n ≤ 5001 * 5000 := Nat.mul_le_mul b h2
      have e : ((Builtin.Int.intBits i : Nat) : Int) * Int.ofNat n = ((Builtin.Int.intBits i * n : Nat) : Int) := by push_cast; rfl
      rw [e]; omega
    · exact h.elim
  · exact h.elim
theorem or_band : OpR X (binaryOp .BitAnd) (RI X.K bandO) := by
  intro pins s σ H x y v u Q I rx ry ⟨φ, S, dx, dy, r, hx, hy, h⟩
  unfold bandO at h
  split at h
  · rw [hx.int'] at rx; rw [hy.int'] at ry
    exact op_and pins s σ H _ _ v u Q I rx ry ⟨_, _, rfl, rfl, h φ H .refl r _ (.int _)⟩
  · exact h.elim
theorem or_neg : UnR X (unaryOp .USub) (RU X.K negO) := by
  intro pins s σ H x v Q I rx ⟨φ, S, dx, r, hx, h⟩
  unfold negO at h
  split at h
  · rw [hx.int'] at rx
    exact un_neg pins s σ H _ v Q I rx ⟨_, rfl, h φ H .refl r _ (.int _)⟩
  · exact h.elim
end
/-! ## order, in, is -/
def ltNL : List Nat → List Nat → Bool
  | _, [] => false
  | [], _ :: _ => true
  | x :: xs, y :: ys => match Nat.blt x y with
    | true => true
    | false => match Nat.beq x y with
      | true => ltNL xs ys
      | false => false
theorem ltNL_eq : ∀ xs ys : List Nat, ltNL xs ys = decide (xs < ys)
  | [], [] => by simp [ltNL]
  | _ :: _, [] => by simp [ltNL]
  | [], _ :: _ => by simp [ltNL]
  | x :: xs, y :: ys => by
    rw [Bool.eq_iff_iff, decide_eq_true_eq, List.cons_lt_cons_iff, ← decide_eq_true_eq (p := xs < ys), ← ltNL_eq xs ys]
    have e0 : ltNL (x :: xs) (y :: ys) = (match Nat.blt x y with
      | true => true
      | false => match Nat.beq x y with
        | true => ltNL xs ys
        | false => false) := rfl
    rw [e0]
    cases e : Nat.blt x y with
    | true =>
      have : x < y := Nat.le_of_ble_eq_true e
      simp [this]
    | false =>
      have n1 : ¬ x < y := fun z => by
        have : Nat.blt x y = true := Nat.ble_eq_true_of_le z
        rw [e] at this; cases this
      cases e2 : Nat.beq x y with
      | true =>
        have := Nat.eq_of_beq_eq_true e2
        subst this
        simp
      | false =>
        have : x ≠ y := fun z => by subst z; rw [Nat.beq_refl] at e2; cases e2
        simp [n1, this]
def ltI (i j : Int) : Bool := decide (i < j)
def leI (i j : Int) : Bool := decide (i ≤ j)
def ltO (x y : D) (S : Store) : Option (D × Store) := match x, y with
  | .int i, .int j => some (.bl (ltI i j), S)
  | .str a, .str b => some (.bl (ltNL a b), S)
  | _, _ => none
def leO (x y : D) (S : Store) : Option (D × Store) := match x, y with
  | .int i, .int j => some (.bl (leI i j), S)
  | .str a, .str b => some (.bl (!ltNL b a), S)
  | _, _ => none
def gtO (x y : D) (S : Store) : Option (D × Store) := ltO y x S
def geO (x y : D) (S : Store) : Option (D × Store) := leO y x S
section
variable {X : Cx}
theorem or_lt : OpR X (compareOp .Lt) (RI X.K ltO) := by
  intro pins s σ H x y v u Q I rx ry ⟨φ, S, dx, dy, r, hx, hy, h⟩
  unfold ltO at h
  split at h
  · rw [hx.int'] at rx; rw [hy.int'] at ry
    exact op_lt pins s σ H _ _ v u Q I rx ry ⟨_, _, rfl, rfl, h φ H .refl r _ (.bl _)⟩
  · obtain ⟨e1, o1⟩ := hx.str'; obtain ⟨e2, o2⟩ := hy.str'
    rw [e1] at rx; rw [e2] at ry
    exact op_lt_str pins s σ H _ _ v u Q I rx ry ⟨_, _, rfl, rfl, by rw [mkS_cps, mkS_cps, ← ltNL_eq]; exact h φ H .refl r _ (.bl _)⟩
  · exact h.elim
theorem or_le : OpR X (compareOp .LtE) (RI X.K leO) := by
  intro pins s σ H x y v u Q I rx ry ⟨φ, S, dx, dy, r, hx, hy, h⟩
  unfold leO at h
  split at h
  · rw [hx.int'] at rx; rw [hy.int'] at ry
    exact op_le pins s σ H _ _ v u Q I rx ry ⟨_, _, rfl, rfl, h φ H .refl r _ (.bl _)⟩
  · obtain ⟨e1, o1⟩ := hx.str'; obtain ⟨e2, o2⟩ := hy.str'
    rw [e1] at rx; rw [e2] at ry
    exact op_le_str pins s σ H _ _ v u Q I rx ry ⟨_, _, rfl, rfl, by rw [mkS_cps, mkS_cps, ← ltNL_eq]; exact h φ H .refl r _ (.bl _)⟩
  · exact h.elim
theorem or_gt : OpR X (compareOp .Gt) (RI X.K gtO) := by
  intro pins s σ H x y v u Q I rx ry ⟨φ, S, dx, dy, r, hx, hy, h⟩
  unfold gtO ltO at h
  split at h
  · rw [hx.int'] at rx; rw [hy.int'] at ry
    exact op_gt pins s σ H _ _ v u Q I rx ry ⟨_, _, rfl, rfl, h φ H .refl r _ (.bl _)⟩
  · obtain ⟨e1, o1⟩ := hx.str'; obtain ⟨e2, o2⟩ := hy.str'
    rw [e1] at rx; rw [e2] at ry
    exact op_gt_str pins s σ H _ _ v u Q I rx ry ⟨_, _, rfl, rfl, by rw [mkS_cps, mkS_cps, ← ltNL_eq]; exact h φ H .refl r _ (.bl _)⟩
  · exact h.elim
theorem or_ge : OpR X (compareOp .GtE) (RI X.K geO) := by
  intro pins s σ H x y v u Q I rx ry ⟨φ, S, dx, dy, r, hx, hy, h⟩
  unfold geO leO at h
  split at h
  · rw [hx.int'] at rx; rw [hy.int'] at ry
    exact op_ge pins s σ H _ _ v u Q I rx ry ⟨_, _, rfl, rfl, h φ H .refl r _ (.bl _)⟩
  · obtain ⟨e1, o1⟩ := hx.str'; obtain ⟨e2, o2⟩ := hy.str'
    rw [e1] at rx; rw [e2] at ry
    exact op_ge_str pins s σ H _ _ v u Q I rx ry ⟨_, _, rfl, rfl, by rw [mkS_cps, mkS_cps, ← ltNL_eq]; exact h φ H .refl r _ (.bl _)⟩
  · exact h.elim
end
def memN (c : Nat) : List Nat → Bool
  | [] => false
  | x :: xs => match Nat.beq c x with
    | true => true
    | false => memN c xs
theorem memN_eq (c : Nat) : ∀ xs, memN c xs = decide (c ∈ xs)
  | [] => by simp [memN]
  | x :: xs => by
    unfold memN
    cases e : Nat.beq c x with
    | true => have := Nat.eq_of_beq_eq_true e; simp [this]
    | false =>
      have : c ≠ x := fun z => by subst z; rw [Nat.beq_refl] at e; cases e
      simp [memN_eq c xs, this]
def anyD (f : D → Bool) : List D → Bool
  | [] => false
  | x :: xs => match f x with
    | true => true
    | false => anyD f xs
def flatD : D → Bool
  | .non => true | .bl _ => true | .int _ => true | .str _ => true
  | _ => false
/-- x in y -/
def inB (x y : D) (S : Store) : Option Bool := match y with
  | .str b => match x with
    | .str [c] => some (memN c b)
    | _ => none
  | .tup ys => if flatD x && allP flatD ys then some (anyD (fun z => eqD S 0 z x) ys) else none
  | y => match list? S y with
    | some ys => if plainD S 60 x && allP (plainD S 60) ys then some (anyD (fun z => eqD S 60 z x) ys) else none
    | none => none
def inO (x y : D) (S : Store) : Option (D × Store) := (inB x y S).map fun b => (.bl b, S)
def ninO (x y : D) (S : Store) : Option (D × Store) := (inB x y S).map fun b => (.bl !b, S)
def isNonD : D → Bool
  | .non => true
  | _ => false
def isN (x y : D) (S : Store) : Option (D × Store) := match y with
  | .non => some (.bl (isNonD x), S)
  | _ => none
def isnN (x y : D) (S : Store) : Option (D × Store) := match y with
  | .non => some (.bl (!isNonD x), S)
  | _ => none
theorem anyD_eq {α : Type} (f : D → Bool) (g : α → Bool) (t : D → α) : ∀ {xs : List D}, (∀ x ∈ xs, f x = g (t x)) → anyD f xs = (xs.map t).any g
  | [], _ => rfl
  | x :: xs, h => by
    unfold anyD
    rw [List.map_cons, List.any_cons, h x (List.mem_cons_self ..)]
    cases g (t x) with
    | true => rfl
    | false => simpa using anyD_eq f g t (xs := xs) fun y hy => h y (List.mem_cons_of_mem _ hy)
section
variable {X : Cx} {K : PySem.W.Frag} {φ : List Addr} {H : Hp} {S : Store}
theorem flat_of {d : D} {v : V} (h : flatD d = true) (r : DR K φ H d v) : flatV v = true := by
  cases r <;> first | rfl | cases h
theorem flat_eq {d e : D} {v w : V} (hd : flatD d = true) (he : flatD e = true) (r : DR K φ H d v) (q : DR K φ H e w) : eqD S 0 d e = eqV v w := by
  cases r <;> cases q <;> first
    | exact absurd hd Bool.false_ne_true
    | exact absurd he Bool.false_ne_true
    | (simp [eqD, eqV, beqNL_iff]; done)
    | (simp only [eqD, eqV]; rw [Bool.eq_iff_iff]; simp [beqNL_iff]; done)
    | rfl
end
end DE

namespace DE
open PySem L2 PyProof.Rows
section
variable {X : Cx} {K : PySem.W.Frag} {φ : List Addr} {H : Hp} {S : Store}
theorem flat_any {d : D} {v : V} (fd : flatD d = true) (r : DR K φ H d v) : ∀ {ds : List D} {vs : List V}, allP flatD ds = true → DRs K φ H ds vs → vs.all flatV = true ∧ anyD (fun z => eqD S 0 z d) ds = inV v vs
  | _, _, _, .nil => ⟨rfl, rfl⟩
  | _ :: ds, _ :: vs, hp, .cons h hs => by
    have a := allP_iff.mp hp
    have fx := a _ (List.mem_cons_self ..)
    obtain ⟨h1, h2⟩ := flat_any fd r (ds := ds) (vs := vs) (allP_iff.mpr fun x hx => a x (List.mem_cons_of_mem _ hx)) hs
    refine ⟨by rw [List.all_cons, flat_of fx h, h1]; rfl, ?_⟩
    have e := flat_eq (S := S) fx fd h r
    unfold anyD inV
    rw [List.any_cons, e]
    cases eqV _ v with
    | true => rfl
    | false => exact h2
theorem in_any {b : Bool} {dx dy : D} {x y : V} (r : Rel K φ H S) (hx : DR K φ H dx x) (hy : DR K φ H dy y) (h : inB dx dy S = some b) :
    (∃ (c : Nat) (z : List Nat), x = .str (mkS [c]) ∧ y = .str (mkS z) ∧ b = decide (c ∈ (mkS z).cps.toList)) ∨
    (∃ p xs, y = .ref p ∧ SqT K H p xs ∧ flatV x = true ∧ xs.all flatV = true ∧ b = inV x xs) ∨
    (∃ d ds, Dp K H x d ∧ Dp K H y (.list ds) ∧ SeqAt.shaped d = true ∧ SeqAt.shaped (.list ds) = true ∧ b = ds.any fun z => PyData.eqv z d) := by
  unfold inB at h
  have lst : ∀ {ys : List D}, list? S dy = some ys → (plainD S 60 dx && allP (plainD S 60) ys) = true → b = anyD (fun z => eqD S 60 z dx) ys →
      ∃ d ds, Dp K H x d ∧ Dp K H y (.list ds) ∧ SeqAt.shaped d = true ∧ SeqAt.shaped (.list ds) = true ∧ b = ds.any fun z => PyData.eqv z d := by
    intro ys g hp e
    obtain ⟨p1, p2⟩ := Bool.and_eq_true_iff.mp hp
    obtain ⟨a1, a2, a3⟩ := plain_of r 60 dx x p1 hx
    have p3 : plainD S 61 dy = true ∧ toP S 61 dy = .list (ys.map (toP S 60)) := by
      cases dy with
      | ref n =>
        constructor
        · show (match list? S (.ref n) with | some xs => allP (plainD S 60) xs | none => false) = true
          rw [g]; exact p2
        · show (match list? S (.ref n) with | some xs => PyData.list (xs.map (toP S 60)) | none => .none) = _
          rw [g]
      | scr zs => cases g; exact ⟨p2, rfl⟩
      | _ => cases g
    obtain ⟨b1, b2, b3⟩ := plain_of r 61 dy y p3.1 hy
    rw [p3.2] at b1 b2 b3
    refine ⟨_, _, a1, b1, shaped_of a2 a3 (by decide), shaped_of b2 b3 (by decide), ?_⟩
    rw [e]
    exact anyD_eq _ _ _ fun z hz => eqD_eq 60 z dx (allP_iff.mp p2 z hz) p1
  split at h
  · rename_i b0
    split at h
    · rename_i c
      cases h
      obtain ⟨e1, o1⟩ := hx.str'; obtain ⟨e2, o2⟩ := hy.str'
      exact .inl ⟨c, b0, e1, e2, by rw [mkS_cps, memN_eq]⟩
    · cases h
  · rename_i ys
    split at h
    · rename_i hl
      cases h
      obtain ⟨f1, f2⟩ := Bool.and_eq_true_iff.mp hl
      obtain ⟨a, vs, e, s1, d1⟩ := hy.tup'
      obtain ⟨g1, g2⟩ := flat_any (S := S) f1 hx f2 d1
      exact .inr (.inl ⟨a, vs, e, s1, flat_of f1 hx, g1, g2⟩)
    · cases h
  · split at h
    · rename_i g
      split at h
      · rename_i hl
        cases h
        exact .inr (.inr (lst g hl rfl))
      · cases h
    · cases h
theorem or_in (hu : X.A.units + 65 < cLine) : OpR X (compareOp .In) (RI X.K inO) := by
  intro pins s σ H x y v u Q I rx ry ⟨φ, S, dx, dy, r, hx, hy, h⟩
  unfold inO at h
  cases g : inB dx dy S with
  | none => rw [g] at h; exact h.elim
  | some b =>
    rw [g] at h
    have q : Q (.bl b) H := h φ H .refl r _ (.bl b)
    rcases in_any r hx hy g with ⟨c, z, e1, e2, e⟩ | ⟨p, xs, e1, e2, e3, e4, e⟩ | ⟨d, ds, e1, e2, e3, e4, e⟩
    · subst e1 e2
      exact op_in_sign pins s σ H _ _ v u Q I rx ry ⟨c, mkS z, rfl, rfl, e ▸ q⟩
    · subst e1
      exact op_in_seq pins s σ H _ _ v u Q I rx ry ⟨p, xs, rfl, .inr e2, e3, e4, e ▸ q⟩
    · exact op_inD hu pins s σ H _ _ v u Q I rx ry ⟨d, ds, e1, e2, e3, e4, e ▸ q⟩
theorem or_nin (hu : X.A.units + 65 < cLine) : OpR X (compareOp .NotIn) (RI X.K ninO) := by
  intro pins s σ H x y v u Q I rx ry ⟨φ, S, dx, dy, r, hx, hy, h⟩
  unfold ninO at h
  cases g : inB dx dy S with
  | none => rw [g] at h; exact h.elim
  | some b =>
    rw [g] at h
    have q : Q (.bl !b) H := h φ H .refl r _ (.bl !b)
    rcases in_any r hx hy g with ⟨c, z, e1, e2, e⟩ | ⟨p, xs, e1, e2, e3, e4, e⟩ | ⟨d, ds, e1, e2, e3, e4, e⟩
    · subst e1 e2
      exact op_notIn_sign pins s σ H _ _ v u Q I rx ry ⟨c, mkS z, rfl, rfl, e ▸ q⟩
    · subst e1
      exact op_notIn_seq pins s σ H _ _ v u Q I rx ry ⟨p, xs, rfl, .inr e2, e3, e4, by rw [if_pos rfl]; exact e ▸ q⟩
    · exact op_notInD hu pins s σ H _ _ v u Q I rx ry ⟨d, ds, e1, e2, e3, e4, e ▸ q⟩
theorem isnone_eq {d : D} {v : V} (r : DR K φ H d v) : isNonD d = decide (v = .non) := by
  cases r <;> simp [isNonD]
theorem or_is : OpR X (compareOp .Is) (RI X.K isN) := by
  intro pins s σ H x y v u Q I rx ry ⟨φ, S, dx, dy, r, hx, hy, h⟩
  unfold isN at h
  split at h
  · have : y = .non := by cases hy; rfl
    refine op_isN pins s σ H _ _ v u Q I rx ry ⟨this, ?_⟩
    rw [← isnone_eq hx]
    exact h φ H .refl r _ (.bl _)
  · exact h.elim
theorem or_isnt : OpR X (compareOp .IsNot) (RI X.K isnN) := by
  intro pins s σ H x y v u Q I rx ry ⟨φ, S, dx, dy, r, hx, hy, h⟩
  unfold isnN at h
  split at h
  · have : y = .non := by cases hy; rfl
    refine op_notN pins s σ H _ _ v u Q I rx ry ⟨this, ?_⟩
    rw [← isnone_eq hx]
    exact h φ H .refl r _ (.bl _)
  · exact h.elim
end
/-! ## chains a < b < c -/
def chainE (g g' : D → D → Store → Option (D × Store)) (a b c : Ev) : Ev := fun env S => (a env S).bind fun x S1 => (b env S1).bind fun y S2 => (R.of (g x y S2)).bind fun z S3 => (R.of (isB z S3)).bind fun k S4 => match k with
  | true => (c env S4).bind fun w S5 => R.of (g' y w S5)
  | false => .ok (.bl false) S4
section
variable {X : Cx} {XR : XRel} {W : WX} {pos : Pos}
theorem ti_chain {g g' : D → D → Store → Option (D × Store)} {ta tb tc : Ev} {σ H Q} (h : TI X.K XR W (chainE g g' ta tb tc) σ H Q) : tChain (RI X.K g) (RI X.K g') (TI X.K XR W ta) (TI X.K XR W tb) (TI X.K XR W tc) σ H Q := by
  obtain ⟨φ, S, env, r, e, h⟩ := h
  refine ⟨φ, S, env, r, e, (Post.bind h).mono fun φ1 H1 S1 x x1 r1 h1 v dx => ?_⟩
  refine ⟨φ1, S1, env, r1, e.ext x1, (Post.bind h1).mono fun φ2 H2 S2 y x2 r2 h2 u dy => ?_⟩
  refine ⟨φ2, S2, x, y, r2, dx.ext x2, dy, ?_⟩
  have h3 := (Post.bind h2).of
  cases q : g x y S2 with
  | none => rw [q] at h3; exact h3.elim
  | some p =>
    obtain ⟨z, S3⟩ := p
    rw [q] at h3
    intro φ3 H3 x3 r3 w dz
    have h4 := (Post.bind (h3 φ3 H3 x3 r3)).of
    cases dz with
    | bl k =>
      refine ⟨k, rfl, ?_⟩
      have h5 := h4 φ3 H3 .refl r3
      cases k with
      | true =>
        rw [if_pos rfl]
        refine ⟨φ3, S3, env, r3, (e.ext x1).ext (x2.trans x3), (Post.bind h5).mono fun φ4 H4 S4 w x4 r4 h6 wv dw => ?_⟩
        exact ⟨φ4, S4, y, w, r4, dy.ext (x3.trans x4), dw, h6.of⟩
      | false => rw [if_neg Bool.false_ne_true]; exact h5 φ3 H3 .refl r3 _ (.bl false)
    | _ => exact h4.elim
theorem se_chain {op op' : CmpOp} {g g' : D → D → Store → Option (D × Store)} {a b c : Expr} {ta tb tc : Ev} (ho : OpR X (compareOp op) (RI X.K g)) (ho' : OpR X (compareOp op') (RI X.K g')) (ha : SE X XR W a ta) (hb : SE X XR W b tb) (hc : SE X XR W c tc) (hm : lastMarks [op, op'] [b, c] = false := by with_unfolding_all rfl) :
    SE X XR W (.Compare a [op, op'] [b, c] pos) (chainE g g' ta tb tc) := PE.imp (pe_chain ho ho' ha hb hc hm) fun σ H Q h => ti_chain h
theorem st_chain {op op' : CmpOp} {g g' : D → D → Store → Option (D × Store)} {a b c : Expr} {ta tb tc : Ev} (ho : OpR X (compareOp op) (RI X.K g)) (ho' : OpR X (compareOp op') (RI X.K g')) (ha : SE X XR W a ta) (hb : SE X XR W b tb) (hc : SE X XR W c tc) (hm : lastMarks [op, op'] [b, c] = false := by with_unfolding_all rfl) :
    ST X XR W (.Compare a [op, op'] [b, c] pos) (blE (chainE g g' ta tb tc)) := by
  refine PT.imp (pt_chain ho ho' ha hb hc hm) fun σ H Q ⟨φ, S, env, r, e, h⟩ => ?_
  have := ti_chain (X := X) (XR := XR) (W := W) (g := g) (g' := g') (ta := ta) (tb := tb) (tc := tc) (σ := σ) (H := H) (Q := fun x H' => ∃ k, x = .bl k ∧ Q k H') ⟨φ, S, env, r, e, (Post.bind h).mono fun φ1 H1 S1 d x1 r1 h1 v dr => by
    cases dr with
    | bl b => exact ⟨b, rfl, h1 φ1 H1 .refl r1⟩
    | _ => exact h1.elim⟩
  exact this
end
/-! ## subscripts -/
/-- the item at a place, from behind where it is negative -/
def nthI {α : Type} (xs : List α) : Int → Option α
  | .ofNat k => xs[k]?
  | .negSucc k => if Nat.blt k xs.length then xs[xs.length - (k + 1)]? else none
theorem nthI_atI {α : Type} {xs : List α} {i : Int} {v : α} (h : nthI xs i = some v) : atI xs i = some v := by
  cases i with
  | ofNat k => exact atI_nat h
  | negSucc k =>
    have e0 : nthI xs (.negSucc k) = (if Nat.blt k xs.length then xs[xs.length - (k + 1)]? else none) := rfl
    rw [e0] at h
    split at h
    · rename_i hl
      have hl : k < xs.length := Nat.le_of_ble_eq_true hl
      unfold atI ixN
      rw [if_neg (by omega), if_pos (by omega)]
      have : (Int.negSucc k + (xs.length : Int)).toNat = xs.length - (k + 1) := by omega
      simp only [Option.bind_some, this]
      exact h
    · cases h
def idxO (x y : D) (S : Store) : Option (D × Store) := match x, y with
  | .tup xs, .int i => (nthI xs i).map fun d => (d, S)
  | .str xs, .int i => if Nat.ble xs.length line then (nthI xs i).map fun c => (.str [c], S) else none
  | x, .int i => match list? S x with
    | some xs => (nthI xs i).map fun d => (d, S)
    | none => none
  | _, _ => none
theorem atI_some {α : Type} {xs : List α} {i : Int} {v : α} (h : atI xs i = some v) : ∃ j, ixN xs.length i = some j ∧ xs[j]? = some v := by
  unfold atI at h
  cases q : ixN xs.length i with
  | none => rw [q] at h; cases h
  | some j => rw [q] at h; exact ⟨j, rfl, h⟩
section
variable {X : Cx} {K : PySem.W.Frag} {φ : List Addr} {H : Hp} {S : Store}
theorem DRs.atI {ds : List D} {vs : List V} (h : DRs K φ H ds vs) {i : Int} {d : D} (e : L2.atI ds i = some d) : ∃ v, L2.atI vs i = some v ∧ DR K φ H d v := by
  obtain ⟨j, e1, e2⟩ := atI_some e
  obtain ⟨v, h1, h2⟩ := h.get e2
  refine ⟨v, ?_, h2⟩
  unfold L2.atI
  rw [h.length, e1]; exact h1
theorem ir_idx : IxR X (RI X.K idxO) := by
  intro value slice pins s σ H x y v u Q I rx ry ⟨φ, S, dx, dy, r, hx, hy, h⟩ hsub
  unfold idxO at h
  split at h
  · rename_i xs i
    rw [hy.int'] at ry
    cases g : nthI xs i with
    | none => rw [g] at h; exact h.elim
    | some d =>
      rw [g] at h
      obtain ⟨a, vs, e, s1, d1⟩ := hx.tup'
      rw [e] at rx
      obtain ⟨w, w1, w2⟩ := d1.atI (nthI_atI g)
      exact ix_tup value slice pins s σ H _ _ v u Q I rx ry ⟨a, vs, i, w, rfl, rfl, s1, w1, h φ H .refl r _ w2⟩ hsub
  · rename_i xs i
    rw [hy.int'] at ry
    split at h
    · rename_i hl
      cases g : nthI xs i with
      | none => rw [g] at h; exact h.elim
      | some d =>
        rw [g] at h
        obtain ⟨e, o⟩ := hx.str'
        rw [e] at rx
        refine ix_str value slice pins s σ H _ _ v u Q I rx ry ⟨mkS xs, i, d, rfl, rfl, by rw [mkS_length]; exact ble_line hl, by rw [mkS_cps]; exact nthI_atI g, h φ H .refl r _ (.str (x := [d]) fun c hc => ?_)⟩ hsub
        rw [List.mem_singleton.mp hc]
        obtain ⟨j, _, q⟩ := atI_some (nthI_atI g)
        exact o d (List.mem_of_getElem? q)
    · exact h.elim
  · rename_i i _ _
    rw [hy.int'] at ry
    cases gl : list? S dx with
    | none => rw [gl] at h; exact h.elim
    | some xs =>
      rw [gl] at h
      cases g : nthI xs i with
      | none => simp only [g] at h; exact h.elim
      | some d =>
        simp only [g] at h
        obtain ⟨a, vs, e, s1, d1⟩ := list_of r hx gl
        rw [e] at rx
        obtain ⟨w, w1, w2⟩ := d1.atI (nthI_atI g)
        exact ix_list value slice pins s σ H _ _ v u Q I rx ry ⟨a, vs, i, w, rfl, rfl, s1, w1, h φ H .refl r _ w2⟩ hsub
  · exact h.elim
end
section
variable {X : Cx} {XR : XRel} {W : WX} {pos : Pos}
theorem se_ix {a b : Expr} {ta tb : Ev} (ha : SE X XR W a ta) (hb : SE X XR W b tb) (hs : PlainIx b := by intro _ _; rfl) : SE X XR W (.Subscript a b pos) (bin idxO ta tb) :=
  PE.imp (pe_ix ir_idx ha hb hs) fun σ H Q h => ti_op h
end
/-! slices -/
def cutD {α : Type} (xs : List α) (lo hi : Option Int) : List α := (xs.drop (HT.sIx xs.length 0 lo)).take (HT.sIx xs.length xs.length hi - HT.sIx xs.length 0 lo)
def slO (x : D) (lo hi : Option Int) (S : Store) : Option (D × Store) := match x with
  | .tup xs => some (.tup (cutD xs lo hi), S)
  | .str xs => if Nat.ble xs.length line then some (.str (cutD xs lo hi), S) else none
  | x => match list? S x with
    | some xs => some (.ref S.n, S.add (.lst (cutD xs lo hi)))
    | none => none
abbrev Eo := Env → Store → R (Option Int)
def noPart : Eo := fun _ S => .ok none S
def isI : D → Store → Option (Option Int × Store)
  | .int i, S => some (some i, S)
  | _, _ => none
def partE (a : Ev) : Eo := fun env S => (a env S).bind fun d S1 => R.of (isI d S1)
def slE (a : Ev) (lo hi : Eo) : Ev := fun env S => (a env S).bind fun x S1 => (lo env S1).bind fun l S2 => (hi env S2).bind fun h S3 => R.of (slO x l h S3)
def TIo (K : PySem.W.Frag) (XR : XRel) (W : WX) (t : Eo) : TO := fun σ H Q => ∃ φ S env, Rel K φ H S ∧ EnvR K φ H env σ ∧ Post K XR W σ φ H (t env S) fun _ H' _ o => Q o H'
abbrev SO (X : Cx) (XR : XRel) (W : WX) (e : Option Expr) (t : Eo) : Prop := PO X e (TIo X.K XR W t)
theorem PO.imp {X : Cx} {e : Option Expr} {t t' : TO} (h : PO X e t) (i : ∀ σ H Q, t' σ H Q → t σ H Q) : PO X e t' := by
  obtain ⟨h⟩ := h
  exact ⟨by intros; apply h <;> first | assumption | (apply i; assumption)⟩
section
variable {X : Cx} {XR : XRel} {W : WX} {pos : Pos} {K : PySem.W.Frag} {φ : List Addr} {H : Hp} {S : Store}
theorem so_none : SO X XR W none noPart := PO.imp po_none fun σ H Q ⟨φ, S, env, r, e, h⟩ => h φ H .refl r
theorem so_some {a : Expr} {ta : Ev} (h : SE X XR W a ta) : SO X XR W (some a) (partE ta) := by
  refine PO.imp (po_some h) fun σ H Q ⟨φ, S, env, r, e, h⟩ => ?_
  refine ⟨φ, S, env, r, e, (Post.bind h).mono fun φ1 H1 S1 d x1 r1 h1 v dv => ?_⟩
  cases dv with
  | int i => exact ⟨i, rfl, h1 φ1 H1 .refl r1⟩
  | _ => exact h1.elim
def RSl (K : PySem.W.Frag) : V → Option Int → Option Int → Hp → VK → Prop := fun x lo hi H Q => ∃ φ S dx, Rel K φ H S ∧ DR K φ H dx x ∧ PostO K φ H (slO dx lo hi S) fun φ' H' _ d => ∀ v, DR K φ' H' d v → Q v H'
theorem okS_cut {x : List Nat} (h : okS x) (lo hi : Option Int) : okS (cutD x lo hi) := fun c hc => h c (List.mem_of_mem_drop (List.mem_of_mem_take hc))
theorem DRs.cut {ds : List D} {vs : List V} (h : DRs K φ H ds vs) (lo hi : Option Int) : DRs K φ H (cutD ds lo hi) (cutV vs lo hi) := by
  unfold cutD cutV
  rw [h.length]
  exact (h.drop _).take _
theorem sr_all : SlR X (RSl X.K) := by
  intro pins s σ H x v vl vu lo hi sl Q I rx hs pl pu ⟨φ, S, dx, r, hx, h⟩
  unfold slO at h
  split at h
  · rename_i xs
    obtain ⟨a, vs, e, s1, d1⟩ := hx.tup'
    rw [e] at rx
    refine sl_tupA pins s σ H _ v vl vu lo hi sl Q I rx hs pl pu ⟨a, vs, rfl, s1, fun z => ?_, fun z p hp => ?_⟩
    · have e1 : cutV vs lo hi = vs := by unfold cutV; rw [z.1, z.2]; simp
      have d2 := d1.cut lo hi
      rw [e1] at d2
      exact h φ H .refl r _ (.tup s1 d2)
    · obtain ⟨x2, r2⟩ := r.fresh hp (.tup (cutV vs lo hi))
      exact h φ _ x2 r2 _ (.tup (.inl (.inl upd_same)) ((d1.cut lo hi).ext x2))
  · rename_i xs
    split at h
    · rename_i hl
      obtain ⟨e, o⟩ := hx.str'
      rw [e] at rx
      refine sl_str pins s σ H _ v vl vu lo hi sl Q I rx hs pl pu ⟨mkS xs, rfl, by rw [mkS_length]; exact ble_line hl, ?_⟩
      have : cutS (mkS xs) lo hi = mkS (cutD xs lo hi) := by unfold cutS cutD; rw [mkS_cps, mkS_length]
      rw [this]
      exact h φ H .refl r _ (.str (okS_cut o lo hi))
    · exact h.elim
  · cases gl : list? S dx with
    | none => rw [gl] at h; exact h.elim
    | some xs =>
      rw [gl] at h
      obtain ⟨a, vs, e, s1, d1⟩ := list_of r hx gl
      rw [e] at rx
      refine sl_list pins s σ H _ v vl vu lo hi sl Q I rx hs pl pu ⟨a, vs, rfl, s1, fun p hp => ?_⟩
      obtain ⟨x2, r2⟩ := r.add (c := .lst (cutD xs lo hi)) hp (o := .lst (cutV vs lo hi)) fun φ' x => ⟨_, upd_same, (d1.cut lo hi).ext x⟩
      refine h _ _ x2 r2 _ (.ref ?_)
      rw [← r.len, List.getElem?_append_right (Nat.le_refl _)]; simp
theorem se_sl {a : Expr} {lo hi : Option Expr} {ta : Ev} {tl th : Eo} {p2 : Pos} (ha : SE X XR W a ta) (hl : SO X XR W lo tl) (hh : SO X XR W hi th) : SE X XR W (.Subscript a (.Slice lo hi none p2) pos) (slE ta tl th) := by
  refine PE.imp (pe_slice sr_all ha hl hh) fun σ H Q ⟨φ, S, env, r, e, h⟩ => ?_
  refine ⟨φ, S, env, r, e, (Post.bind h).mono fun φ1 H1 S1 x x1 r1 h1 v dx => ?_⟩
  refine ⟨φ1, S1, env, r1, e.ext x1, (Post.bind h1).mono fun φ2 H2 S2 l x2 r2 h2 => ?_⟩
  refine ⟨φ2, S2, env, r2, (e.ext x1).ext x2, (Post.bind h2).mono fun φ3 H3 S3 k x3 r3 h3 => ?_⟩
  exact ⟨φ3, S3, x, r3, dx.ext (x2.trans x3), h3.of⟩
end
end DE

namespace DE
open PySem L2 PyProof.Rows
/-! ## what is built in -/
def seq? (S : Store) : D → Option (List D)
  | .tup xs => some xs
  | d => list? S d
def lenF (ds : List D) (S : Store) : Option (D × Store) := match ds with
  | [.str x] => if Nat.ble x.length line then some (.int x.length, S) else none
  | [d] => match seq? S d with
    | some xs => some (.int xs.length, S)
    | none => none
  | _ => none
def intF (ds : List D) (S : Store) : Option (D × Store) := match ds with
  | [.int i] => some (.int i, S)
  | [.bl b] => some (.int (if b then 1 else 0), S)
  | _ => none
/-- a number's decimal signs -/
def decN (n : Nat) : List Nat := (Nat.toDigits 10 n).map Char.toNat
def decI : Int → List Nat
  | .ofNat n => decN n
  | .negSucc n => 45 :: decN (n + 1)
def strF (ds : List D) (S : Store) : Option (D × Store) := match ds with
  | [.int i] => if Nat.blt i.natAbs.log2 1920 then some (.str (decI i), S) else none
  | _ => none
def tupleF (ds : List D) (S : Store) : Option (D × Store) := match ds with
  | [.tup xs] => some (.tup xs, S)
  | [d] => match list? S d with
    | some xs => some (.tup xs, S)
    | none => none
  | _ => none
def listF (ds : List D) (S : Store) : Option (D × Store) := match ds with
  | [d] => match seq? S d with
    | some xs => some (.ref S.n, S.add (.lst xs))
    | none => none
  | _ => none
def bools? : List D → Option (List Bool)
  | [] => some []
  | .bl b :: r => match bools? r with
    | some bs => some (b :: bs)
    | none => none
  | _ => none
def ints? : List D → Option (List Int)
  | [] => some []
  | .int i :: r => match ints? r with
    | some bs => some (i :: bs)
    | none => none
  | _ => none
def allB : List Bool → Bool
  | [] => true
  | b :: r => match b with
    | true => allB r
    | false => false
def anyB : List Bool → Bool
  | [] => false
  | b :: r => match b with
    | true => true
    | false => anyB r
def sumI : List Int → Int
  | [] => 0
  | i :: r => i + sumI r
def allF (ds : List D) (S : Store) : Option (D × Store) := match ds with
  | [d] => match list? S d with
    | some xs => match bools? xs with
      | some bs => some (.bl (allB bs), S)
      | none => none
    | none => none
  | _ => none
def anyF (ds : List D) (S : Store) : Option (D × Store) := match ds with
  | [d] => match list? S d with
    | some xs => match bools? xs with
      | some bs => some (.bl (anyB bs), S)
      | none => none
    | none => none
  | _ => none
def sumF (ds : List D) (S : Store) : Option (D × Store) := match ds with
  | [d] => match list? S d with
    | some xs => match ints? xs with
      | some bs => some (.int (sumI bs), S)
      | none => none
    | none => none
  | _ => none
def maxF (ds : List D) (S : Store) : Option (D × Store) := match ds with
  | [.int i, .int j] => some (.int (if ltI i j then j else i), S)
  | _ => none
def minF (ds : List D) (S : Store) : Option (D × Store) := match ds with
  | [.int i, .int j] => some (.int (if ltI j i then j else i), S)
  | _ => none
section
variable {X : Cx} {K : PySem.W.Frag} {φ : List Addr} {H : Hp} {S : Store}
theorem DRs.one {d : D} {vs : List V} (h : DRs K φ H [d] vs) : ∃ v, vs = [v] ∧ DR K φ H d v := by
  cases h with
  | cons a b => cases b; exact ⟨_, rfl, a⟩
theorem DRs.two {d e : D} {vs : List V} (h : DRs K φ H [d, e] vs) : ∃ v w, vs = [v, w] ∧ DR K φ H d v ∧ DR K φ H e w := by
  cases h with
  | cons a b => cases b with
    | cons a' b' => cases b'; exact ⟨_, _, rfl, a, a'⟩
theorem seq_of (r : Rel K φ H S) {d : D} {v : V} (dr : DR K φ H d v) {xs : List D} (h : seq? S d = some xs) : ∃ a vs, v = .ref a ∧ (SqL K H a vs ∨ SqT K H a vs) ∧ DRs K φ H xs vs := by
  cases d with
  | tup ys => cases h; obtain ⟨a, vs, e, s1, d1⟩ := dr.tup'; exact ⟨a, vs, e, .inr s1, d1⟩
  | _ => obtain ⟨a, vs, e, s1, d1⟩ := list_of r dr h; exact ⟨a, vs, e, .inl s1, d1⟩
theorem cr_len : CallR X (.builtin "len") (RF X.K lenF) := by
  intro pins s σ H xs us Q I ru ⟨φ, S, ds, r, hx, h⟩
  unfold lenF at h
  split at h
  · rename_i x
    split at h
    · rename_i hl
      obtain ⟨v, e, d1⟩ := hx.one
      obtain ⟨e1, o⟩ := d1.str'
      subst e1
      refine call_len pins s σ H xs us Q I ru ⟨_, _, e, ⟨by rw [mkS_length]; exact ble_line hl, rfl⟩, ?_⟩
      rw [mkS_length]
      exact h φ H .refl r _ (.int _)
    · exact h.elim
  · rename_i d _
    cases g : seq? S d with
    | none => rw [g] at h; exact h.elim
    | some ys =>
      rw [g] at h
      obtain ⟨v, e, d1⟩ := hx.one
      obtain ⟨a, vs, e1, s1, d2⟩ := seq_of r d1 g
      subst e1
      have q := h φ H .refl r _ (.int _)
      rw [← d2.length] at q
      exact call_len pins s σ H xs us Q I ru ⟨_, _, e, s1.imp (fun z => ⟨_, z, rfl⟩) (fun z => ⟨_, z, rfl⟩), q⟩
  · exact h.elim
theorem cr_int : CallR X (.type "int") (RF X.K intF) := by
  intro pins s σ H xs us Q I ru ⟨φ, S, ds, r, hx, h⟩
  unfold intF at h
  split at h
  · obtain ⟨v, e, d1⟩ := hx.one
    rw [d1.int'] at e
    exact call_int1 pins s σ H xs us Q I ru (.inl ⟨_, e, h φ H .refl r _ (.int _)⟩)
  · obtain ⟨v, e, d1⟩ := hx.one
    rw [d1.bl'] at e
    exact call_int1 pins s σ H xs us Q I ru (.inr ⟨_, e, h φ H .refl r _ (.int _)⟩)
  · exact h.elim
theorem ofString_list (x : String) : Str.ofString x = mkS (x.toList.map Char.toNat) := by
  unfold Str.ofString; rw [cpsOfBytes_string]
theorem str_int (i : Int) : (Str.ofString (toString i)) = mkS (decI i) := by
  rw [ofString_list]
  cases i with
  | ofNat n =>
    show mkS ((toString (Int.ofNat n)).toList.map Char.toNat) = mkS ((Nat.toDigits 10 n).map Char.toNat)
    have : toString (Int.ofNat n) = String.ofList (Nat.toDigits 10 n) := rfl
    rw [this, String.toList_ofList]
  | negSucc n =>
    show mkS ((toString (Int.negSucc n)).toList.map Char.toNat) = mkS (45 :: (Nat.toDigits 10 (n + 1)).map Char.toNat)
    have : toString (Int.negSucc n) = "-" ++ String.ofList (Nat.toDigits 10 (n + 1)) := rfl
    rw [this]
    simp only [String.toList_append, String.toList_ofList]
    rfl
theorem okS_map (l : List Char) : okS (l.map Char.toNat) := fun c hc => by
  obtain ⟨k, _, rfl⟩ := List.mem_map.mp hc
  have h := k.valid
  simp only [UInt32.isValidChar, Nat.isValidChar] at h
  show k.val.toNat < 1114112
  omega
theorem okS_dec (i : Int) : okS (decI i) := by
  cases i with
  | ofNat n => exact okS_map _
  | negSucc n =>
    intro c hc
    rcases List.mem_cons.mp hc with rfl | hc
    · decide
    · exact okS_map _ c hc
theorem cr_str : CallR X (.type "str") (RF X.K strF) := by
  intro pins s σ H xs us Q I ru ⟨φ, S, ds, r, hx, h⟩
  unfold strF at h
  split at h
  · split at h
    · rename_i i hl
      obtain ⟨v, e, d1⟩ := hx.one
      rw [d1.int'] at e
      refine call_str_int pins s σ H xs us Q I ru ⟨i, e, Nat.le_of_ble_eq_true hl, ?_⟩
      have q := h φ H .refl r _ (.str (okS_dec i))
      rw [← str_int] at q
      exact q
    · exact h.elim
  · exact h.elim
theorem cr_tuple : CallR X (.type "tuple") (RF X.K tupleF) := by
  intro pins s σ H xs us Q I ru ⟨φ, S, ds, r, hx, h⟩
  unfold tupleF at h
  split at h
  · obtain ⟨v, e, d1⟩ := hx.one
    obtain ⟨a, vs, e1, s1, d2⟩ := d1.tup'
    subst e1
    exact call_tuple_of pins s σ H xs us Q I ru ⟨a, vs, e, .inr ⟨s1, h φ H .refl r _ (.tup s1 d2)⟩⟩
  · rename_i d _
    cases g : list? S d with
    | none => rw [g] at h; exact h.elim
    | some ys =>
      rw [g] at h
      obtain ⟨v, e, d1⟩ := hx.one
      obtain ⟨a, vs, e1, s1, d2⟩ := list_of r d1 g
      subst e1
      refine call_tuple_of pins s σ H xs us Q I ru ⟨a, vs, e, .inl ⟨s1, fun p hp => ?_⟩⟩
      obtain ⟨x2, r2⟩ := r.fresh hp (.tup vs)
      exact h φ _ x2 r2 _ (.tup (.inl (.inl upd_same)) (d2.ext x2))
  · exact h.elim
theorem cr_list : CallR X (.type "list") (RF X.K listF) := by
  intro pins s σ H xs us Q I ru ⟨φ, S, ds, r, hx, h⟩
  unfold listF at h
  split at h
  · rename_i d
    cases g : seq? S d with
    | none => rw [g] at h; exact h.elim
    | some ys =>
      rw [g] at h
      obtain ⟨v, e, d1⟩ := hx.one
      obtain ⟨a, vs, e1, s1, d2⟩ := seq_of r d1 g
      subst e1
      refine call_list_of pins s σ H xs us Q I ru ⟨a, vs, e, s1, fun p hp => ?_⟩
      obtain ⟨x2, r2⟩ := r.add (c := .lst ys) hp (o := .lst vs) fun φ' x => ⟨_, upd_same, d2.ext x⟩
      refine h _ _ x2 r2 _ (.ref ?_)
      rw [← r.len, List.getElem?_append_right (Nat.le_refl _)]; simp
  · exact h.elim
theorem bools_of : ∀ {ds : List D} {bs : List Bool} {vs : List V}, bools? ds = some bs → DRs K φ H ds vs → vs = bs.map V.bl
  | [], _, _, h, .nil => by cases h; rfl
  | .bl b :: ds, bs, _, h, .cons a hs => by
    unfold bools? at h
    cases g : bools? ds with
    | none => rw [g] at h; cases h
    | some cs =>
      rw [g] at h; cases h
      rw [a.bl', bools_of g hs]; rfl
theorem ints_of : ∀ {ds : List D} {bs : List Int} {vs : List V}, ints? ds = some bs → DRs K φ H ds vs → vs = bs.map V.int
  | [], _, _, h, .nil => by cases h; rfl
  | .int b :: ds, bs, _, h, .cons a hs => by
    unfold ints? at h
    cases g : ints? ds with
    | none => rw [g] at h; cases h
    | some cs =>
      rw [g] at h; cases h
      rw [a.int', ints_of g hs]; rfl
theorem allB_eq : ∀ bs, allB bs = bs.all id
  | [] => rfl
  | b :: bs => by unfold allB; rw [List.all_cons]; cases b <;> simp [allB_eq bs]
theorem anyB_eq : ∀ bs, anyB bs = bs.any id
  | [] => rfl
  | b :: bs => by unfold anyB; rw [List.any_cons]; cases b <;> simp [anyB_eq bs]
theorem sumI_eq : ∀ bs, sumI bs = bs.sum
  | [] => rfl
  | b :: bs => by unfold sumI; rw [List.sum_cons, sumI_eq bs]
theorem cr_allF (hc : X.calm = true) : CallR X (.builtin "all") (RF X.K allF) := by
  intro pins s σ H xs us Q I ru ⟨φ, S, ds, r, hx, h⟩
  unfold allF at h
  split at h
  · rename_i d
    cases g : list? S d with
    | none => rw [g] at h; exact h.elim
    | some ys =>
      rw [g] at h
      simp only at h
      cases gb : bools? ys with
      | none => rw [gb] at h; exact h.elim
      | some bs =>
        rw [gb] at h
        obtain ⟨v, e, d1⟩ := hx.one
        obtain ⟨a, vs, e1, s1, d2⟩ := list_of r d1 g
        subst e1
        rw [bools_of gb d2] at s1
        exact cr_all hc pins s σ H xs us Q I ru ⟨a, bs, e, s1, by rw [← allB_eq]; exact h φ H .refl r _ (.bl _)⟩
  · exact h.elim
theorem cr_anyF (hc : X.calm = true) : CallR X (.builtin "any") (RF X.K anyF) := by
  intro pins s σ H xs us Q I ru ⟨φ, S, ds, r, hx, h⟩
  unfold anyF at h
  split at h
  · rename_i d
    cases g : list? S d with
    | none => rw [g] at h; exact h.elim
    | some ys =>
      rw [g] at h
      simp only at h
      cases gb : bools? ys with
      | none => rw [gb] at h; exact h.elim
      | some bs =>
        rw [gb] at h
        obtain ⟨v, e, d1⟩ := hx.one
        obtain ⟨a, vs, e1, s1, d2⟩ := list_of r d1 g
        subst e1
        rw [bools_of gb d2] at s1
        exact cr_any hc pins s σ H xs us Q I ru ⟨a, bs, e, s1, by rw [← anyB_eq]; exact h φ H .refl r _ (.bl _)⟩
  · exact h.elim
theorem cr_sumF (hc : X.calm = true) : CallR X (.builtin "sum") (RF X.K sumF) := by
  intro pins s σ H xs us Q I ru ⟨φ, S, ds, r, hx, h⟩
  unfold sumF at h
  split at h
  · rename_i d
    cases g : list? S d with
    | none => rw [g] at h; exact h.elim
    | some ys =>
      rw [g] at h
      simp only at h
      cases gb : ints? ys with
      | none => rw [gb] at h; exact h.elim
      | some bs =>
        rw [gb] at h
        obtain ⟨v, e, d1⟩ := hx.one
        obtain ⟨a, vs, e1, s1, d2⟩ := list_of r d1 g
        subst e1
        rw [ints_of gb d2] at s1
        exact cr_sum hc pins s σ H xs us Q I ru ⟨a, bs, e, s1, by rw [← sumI_eq]; exact h φ H .refl r _ (.int _)⟩
  · exact h.elim
theorem ite_ltI (i j a b : Int) : (if ltI i j then a else b) = if i < j then a else b := by
  unfold ltI
  by_cases h : i < j <;> simp [h]
theorem cr_maxF (hc : X.calm = true) : CallR X (.builtin "max") (RF X.K maxF) := by
  intro pins s σ H xs us Q I ru ⟨φ, S, ds, r, hx, h⟩
  unfold maxF at h
  split at h
  · obtain ⟨v, w, e, d1, d2⟩ := hx.two
    rw [d1.int', d2.int'] at e
    refine call_max2 hc pins s σ H xs us Q I ru ⟨_, _, e, ?_⟩
    have q := h φ H .refl r _ (.int _)
    rw [ite_ltI] at q
    exact q
  · exact h.elim
theorem cr_minF (hc : X.calm = true) : CallR X (.builtin "min") (RF X.K minF) := by
  intro pins s σ H xs us Q I ru ⟨φ, S, ds, r, hx, h⟩
  unfold minF at h
  split at h
  · obtain ⟨v, w, e, d1, d2⟩ := hx.two
    rw [d1.int', d2.int'] at e
    refine call_min2 hc pins s σ H xs us Q I ru ⟨_, _, e, ?_⟩
    have q := h φ H .refl r _ (.int _)
    rw [ite_ltI] at q
    exact q
  · exact h.elim
end
/-! ## methods of what is built in -/
def RM (K : PySem.W.Frag) (g : D → List D → Store → Option (D × Store)) : V → List V → Hp → VK → Prop := fun x xs H Q => ∃ φ S d ds, Rel K φ H S ∧ DR K φ H d x ∧ DRs K φ H ds xs ∧ PostO K φ H (g d ds S) fun φ' H' _ d => ∀ v, DR K φ' H' d v → Q v H'
def isStr : D → Store → Bool
  | .str _, _ => true
  | _, _ => false
def isLst (d : D) (S : Store) : Bool := (list? S d).isSome
def metE (ty : D → Store → Bool) (g : D → List D → Store → Option (D × Store)) (o : Ev) (es : Es) : Ev := fun env S => (o env S).bind fun d S1 => match ty d S1 with
  | true => (es env S1).bind fun ds S2 => R.of (g d ds S2)
  | false => .bad
section
variable {X : Cx} {XR : XRel} {W : WX} {cpos apos : Pos} {o e : Expr} {es : List Expr} {name : Str} {T id : String} {K : PySem.W.Frag} {φ : List Addr} {H : Hp} {S : Store}
theorem ty_str {d : D} {v : V} (dr : DR K φ H d v) (h : isStr d S = true) : tyV K "str" v H := by
  cases dr <;> first | rfl | cases h
theorem ty_lst (r : Rel K φ H S) {d : D} {v : V} (dr : DR K φ H d v) (h : isLst d S = true) : tyV K "list" v H := by
  cases g : list? S d with
  | none => unfold isLst at h; rw [g] at h; cases h
  | some xs =>
    obtain ⟨a, vs, e, s1, d1⟩ := list_of r dr g
    subst e
    exact .inl ⟨rfl, vs, s1⟩
theorem se_met {ty : D → Store → Bool} {g : D → List D → Store → Option (D × Store)} {to : Ev} {t : Es} (hty : ∀ φ H S d v, Rel X.K φ H S → DR X.K φ H d v → ty d S = true → tyV X.K T v H) (pa : PlainAttrs T) (slot : Slot T name id) (ht : typeOf (.builtin id) = pure (.type "method_descriptor")) (hm : MtR X id (RM X.K g)) (ho : SE X XR W o to) (ha : SA X XR W (e :: es) t)
    (hbase : attributeBase o name X.env (eval o X.env) = eval o X.env := by rfl)
    (hfew : ((backTo cpos (starEach (e :: es) X.env)).all (fun x => !x.1) && (backToKw cpos (keywordEach [] X.env)).all (fun x => x.1.isSome)
      && decide ((e :: es).length + ([] : List Keyword).length + (if ([] : List Keyword).isEmpty then 0 else 1) < 30)) = true := by rfl)
    (hline : (apos.endLine == cpos.line) = true := by rfl) (hs : starEach (e :: es) X.env = (false, eval e X.env) :: starEach es X.env := by rfl) (hplain : (backTo cpos (starEach es X.env)).any (·.1) = false := by rfl) :
    SE X XR W (.Call (.Attribute o name apos) (e :: es) [] cpos) (metE ty g to t) := by
  refine PE.imp (pe_bm pa slot ht hm ho ha hbase hfew hline hs hplain) fun σ H Q ⟨φ, S, env, r, e, h⟩ => ?_
  refine ⟨φ, S, env, r, e, (Post.bind h).mono fun φ1 H1 S1 d x1 r1 h1 v dv => ?_⟩
  cases q : ty d S1 with
  | false => rw [q] at h1; exact h1.elim
  | true =>
    rw [q] at h1
    refine ⟨hty φ1 H1 S1 d v r1 dv q, ?_⟩
    refine ⟨φ1, S1, env, r1, e.ext x1, (Post.bind h1).mono fun φ2 H2 S2 ds x2 r2 h2 vs dvs => ?_⟩
    exact ⟨φ2, S2, d, ds, r2, dv.ext x2, dvs, h2.of⟩
theorem se_met0 {ty : D → Store → Bool} {g : D → List D → Store → Option (D × Store)} {to : Ev} (hty : ∀ φ H S d v, Rel X.K φ H S → DR X.K φ H d v → ty d S = true → tyV X.K T v H) (pa : PlainAttrs T) (slot : Slot T name id) (ht : typeOf (.builtin id) = pure (.type "method_descriptor")) (hm : MtR X id (RM X.K g)) (ho : SE X XR W o to)
    (hbase : attributeBase o name X.env (eval o X.env) = eval o X.env := by rfl) (hline : (apos.endLine == cpos.line) = true := by rfl) :
    SE X XR W (.Call (.Attribute o name apos) [] [] cpos) (metE ty g to nilE) := by
  refine PE.imp (pe_bm0 pa slot ht hm ho hbase hline) fun σ H Q ⟨φ, S, env, r, e, h⟩ => ?_
  refine ⟨φ, S, env, r, e, (Post.bind h).mono fun φ1 H1 S1 d x1 r1 h1 v dv => ?_⟩
  cases q : ty d S1 with
  | false => rw [q] at h1; exact h1.elim
  | true =>
    rw [q] at h1
    exact ⟨hty φ1 H1 S1 d v r1 dv q, φ1, S1, d, [], r1, dv, .nil, (Post.bind h1 φ1 H1 .refl r1).of⟩
end
/-! the methods -/
def appM (d : D) (ds : List D) (S : Store) : Option (D × Store) := match d, ds with
  | .ref n, [x] => match S.get n with
    | some (.lst xs) => if Nat.blt xs.length line then some (.non, S.set n (.lst (xs ++ [x]))) else none
    | _ => none
  | _, _ => none
def extM (d : D) (ds : List D) (S : Store) : Option (D × Store) := match d, ds with
  | .ref n, [.ref m] => match S.get n, S.get m with
    | some (.lst xs), some (.lst ys) => if Nat.ble (xs.length + ys.length) line then some (.non, S.set n (.lst (xs ++ ys))) else none
    | _, _ => none
  | _, _ => none
def popM (d : D) (ds : List D) (S : Store) : Option (D × Store) := match d, ds with
  | .ref n, [.int (.ofNat i)] => match S.get n with
    | some (.lst xs) => match xs[i]? with
      | some x => if Nat.ble xs.length line then some (x, S.set n (.lst (xs.eraseIdx i))) else none
      | none => none
    | _ => none
  | _, _ => none
def cutAt (c : Nat) : List Nat → Option (List Nat × List Nat)
  | [] => none
  | d :: r => match Nat.beq c d with
    | true => some ([], r)
    | false => match cutAt c r with
      | some (a, b) => some (d :: a, b)
      | none => none
def partM (d : D) (ds : List D) (S : Store) : Option (D × Store) := match d, ds with
  | .str x, [.str [c]] => if Nat.ble x.length line then match cutAt c x with
      | some (a, b) => some (.tup [.str a, .str [c], .str b], S)
      | none => some (.tup [.str x, .str [], .str []], S)
    else none
  | _, _ => none
section
variable {X : Cx} {K : PySem.W.Frag} {φ : List Addr} {H : Hp} {S : Store}
theorem mr_append : MtR X "list.append" (RM X.K appM) := by
  intro pins s σ H x xs v us Q I rx ru ⟨φ, S, d, ds, r, hx, hs, h⟩
  unfold appM at h
  split at h
  · rename_i n y
    cases g : S.get n with
    | none => rw [g] at h; exact h.elim
    | some c =>
      cases c with
      | dct _ => rw [g] at h; exact h.elim
      | dtt _ => rw [g] at h; exact h.elim
      | lst zs =>
        rw [g] at h
        simp only at h
        split at h
        · rename_i hl
          obtain ⟨a, vs, e, f1, h1, d1⟩ := cell_lst r hx g
          obtain ⟨w, e2, d2⟩ := hs.one
          subst e
          have hl : zs.length < line := Nat.le_of_ble_eq_true hl
          rw [line_eq] at hl
          obtain ⟨x2, r2⟩ := r.upd g f1 (o := .lst (vs ++ [w])) (c := .lst (zs ++ [y])) fun H' x e => ⟨_, e, (d1.ext x).append (.cons (d2.ext x) .nil)⟩
          exact mt_append pins s σ H _ xs v us Q I rx ru ⟨a, vs, w, rfl, e2, h1, by rw [d1.length]; exact hl, h φ _ x2 r2 _ .non⟩
        · exact h.elim
  · exact h.elim
theorem mr_extend : MtR X "list.extend" (RM X.K extM) := by
  intro pins s σ H x xs v us Q I rx ru ⟨φ, S, d, ds, r, hx, hs, h⟩
  unfold extM at h
  split at h
  · rename_i n m
    cases g : S.get n with
    | none => rw [g] at h; exact h.elim
    | some c =>
      cases c with
      | dct _ => rw [g] at h; exact h.elim
      | dtt _ => rw [g] at h; exact h.elim
      | lst zs =>
        cases g2 : S.get m with
        | none => rw [g, g2] at h; exact h.elim
        | some c2 =>
          cases c2 with
          | dct _ => rw [g, g2] at h; exact h.elim
          | dtt _ => rw [g, g2] at h; exact h.elim
          | lst ws =>
            rw [g, g2] at h
            simp only at h
            split at h
            · rename_i hl
              obtain ⟨a, vs, e, f1, h1, d1⟩ := cell_lst r hx g
              obtain ⟨w, e2, d2⟩ := hs.one
              obtain ⟨b, vs2, e3, f2, h2, d3⟩ := cell_lst r d2 g2
              subst e e3
              obtain ⟨x2, r2⟩ := r.upd g f1 (o := .lst (vs ++ vs2)) (c := .lst (zs ++ ws)) fun H' x e => ⟨_, e, (d1.ext x).append (d3.ext x)⟩
              exact mt_extend pins s σ H _ xs v us Q I rx ru ⟨a, b, vs, vs2, rfl, e2, h1, h2, by rw [d1.length, d3.length]; exact ble_line hl, h φ _ x2 r2 _ .non⟩
            · exact h.elim
  · exact h.elim
theorem mr_pop : MtR X "list.pop" (RM X.K popM) := by
  intro pins s σ H x xs v us Q I rx ru ⟨φ, S, d, ds, r, hx, hs, h⟩
  unfold popM at h
  split at h
  · rename_i n i
    cases g : S.get n with
    | none => rw [g] at h; exact h.elim
    | some c =>
      cases c with
      | dct _ => rw [g] at h; exact h.elim
      | dtt _ => rw [g] at h; exact h.elim
      | lst zs =>
        rw [g] at h
        simp only at h
        cases gi : zs[i]? with
        | none => rw [gi] at h; exact h.elim
        | some y =>
          rw [gi] at h
          simp only at h
          split at h
          · rename_i hl
            obtain ⟨a, vs, e, f1, h1, d1⟩ := cell_lst r hx g
            obtain ⟨w, e2, d2⟩ := hs.one
            rw [d2.int'] at e2
            subst e
            obtain ⟨u, hu, du⟩ := d1.get gi
            have hi : i < zs.length := (List.getElem?_eq_some_iff.mp gi).1
            have hl := Nat.le_of_ble_eq_true hl
            have hz : line = 16777216 := rfl
            have lv := d1.length
            obtain ⟨x2, r2⟩ := r.upd g f1 (o := .lst (vs.eraseIdx i)) (c := .lst (zs.eraseIdx i)) fun H' x e => ⟨_, e, (d1.ext x).eraseIdx i⟩
            have hix : ixN vs.length ((i : Nat) : Int) = some i := by
              unfold ixN
              rw [if_pos (by omega), if_pos (by omega)]; simp
            exact mt_popAt pins s σ H _ xs v us Q I rx ru ⟨a, vs, i, i, u, rfl, e2, h1, by omega, by omega, (ixN_seq hix).1, hu, h φ _ x2 r2 _ (du.ext x2)⟩
          · exact h.elim
  · exact h.elim
/-! the first place of one sign -/
open StrLaws in
theorem occ_full (s sub : Str) (hi : Nat) : ∀ (l : List Nat) (st : Array Nat × Nat), st.fst.size = 1 → (forIn l st (occBody s sub hi 1)).run.fst = st.fst
  | [], st, h => rfl
  | a :: l, st, h => by
    rw [List.forIn_cons]
    unfold occBody
    rw [if_neg (by rintro ⟨⟨⟨h1, _⟩, _⟩, _⟩; omega)]
    exact occ_full s sub hi l _ h
def occP (s sub : Str) (hi i : Nat) : Bool := decide (i + sub.length ≤ hi ∧ Builtin.Str.subAt s sub i = true)
open StrLaws in
theorem occ_first (s sub : Str) (hi : Nat) : ∀ (l : List Nat) (free : Nat), (∀ i ∈ l, free ≤ i) →
    (forIn l ((#[] : Array Nat), free) (occBody s sub hi 1)).run.fst.toList = (l.find? (occP s sub hi)).toList
  | [], free, _ => rfl
  | a :: l, free, hf => by
    rw [List.forIn_cons]
    unfold occBody
    have ha : free ≤ a := hf a (List.mem_cons_self ..)
    by_cases hc : a + sub.length ≤ hi ∧ Builtin.Str.subAt s sub a = true
    · have hp : occP s sub hi a = true := decide_eq_true hc
      rw [if_pos ⟨⟨⟨by simp, ha⟩, hc.1⟩, hc.2⟩, List.find?_cons_of_pos hp]
      show (forIn l ((#[] : Array Nat).push a, a + sub.length) (occBody s sub hi 1)).run.fst.toList = [a]
      rw [occ_full s sub hi l _ (by simp)]; rfl
    · rw [if_neg (by rintro ⟨⟨_, h2⟩, h3⟩; exact hc ⟨h2, h3⟩), List.find?_cons_of_neg (by unfold occP; simpa using hc)]
      exact occ_first s sub hi l free (fun i hi' => hf i (List.mem_cons_of_mem _ hi'))
theorem find_range (P : Nat → Bool) : ∀ (n a k : Nat), a + k < a + n → P (a + k) = true → (∀ j, j < k → P (a + j) = false) → (List.range' a n).find? P = some (a + k)
  | 0, _, _, h, _, _ => by omega
  | n + 1, a, 0, _, hp, _ => by rw [Nat.add_zero] at hp; rw [List.range'_succ, List.find?_cons_of_pos hp]; rfl
  | n + 1, a, k + 1, h, hp, hn => by
    rw [List.range'_succ, List.find?_cons_of_neg (by rw [show P a = false from hn 0 (by omega)]; simp)]
    have := find_range P n (a + 1) k (by omega) (by rw [show a + 1 + k = a + (k + 1) by omega]; exact hp) fun j hj => by rw [show a + 1 + j = a + (j + 1) by omega]; exact hn (j + 1) (by omega)
    rw [this]; congr 1; omega
theorem cut_some {c : Nat} : ∀ {x a b : List Nat}, cutAt c x = some (a, b) → x = a ++ c :: b ∧ c ∉ a
  | d :: r, a, b, h => by
    unfold cutAt at h
    cases e : Nat.beq c d with
    | true =>
      rw [e] at h; cases h
      exact ⟨by rw [Nat.eq_of_beq_eq_true e]; rfl, by simp⟩
    | false =>
      rw [e] at h
      cases g : cutAt c r with
      | none => rw [g] at h; cases h
      | some p =>
        obtain ⟨a', b'⟩ := p
        rw [g] at h; cases h
        obtain ⟨h1, h2⟩ := cut_some g
        refine ⟨by rw [h1]; rfl, fun z => ?_⟩
        rcases List.mem_cons.mp z with z | z
        · subst z; rw [Nat.beq_refl] at e; cases e
        · exact h2 z
theorem cut_none {c : Nat} : ∀ {x : List Nat}, cutAt c x = none → c ∉ x
  | [], _ => by simp
  | d :: r, h => by
    unfold cutAt at h
    cases e : Nat.beq c d with
    | true => rw [e] at h; cases h
    | false =>
      rw [e] at h
      cases g : cutAt c r with
      | some p => rw [g] at h; cases h
      | none =>
        intro z
        rcases List.mem_cons.mp z with z | z
        · subst z; rw [Nat.beq_refl] at e; cases e
        · exact cut_none g z
theorem occ_one (x : List Nat) (c : Nat) : Builtin.Str.occurrences (mkS x) (mkS [c]) 0 (mkS x).length 1 = match cutAt c x with
    | some (a, _) => [a.length]
    | none => [] := by
  have pr : ∀ i, (i + (mkS [c]).length ≤ (mkS x).length ∧ Builtin.Str.subAt (mkS x) (mkS [c]) i = true) ↔ x[i]? = some c := fun i => by
    have := StrLaws.subAt_one (mkS x) c i
    simpa using this
  rw [StrLaws.occ_eq, occ_first _ _ _ _ _ (fun i hi => Nat.zero_le _)]
  cases g : cutAt c x with
  | none =>
    have : (List.range' 0 ((mkS x).length + 1 - 0)).find? (occP (mkS x) (mkS [c]) (mkS x).length) = none := by
      rw [List.find?_eq_none]
      intro i _ hi
      exact cut_none g (List.mem_of_getElem? ((pr i).mp (of_decide_eq_true hi)))
    rw [this]; rfl
  | some p =>
    obtain ⟨a, b⟩ := p
    obtain ⟨h1, h2⟩ := cut_some g
    have hx : x[a.length]? = some c := by rw [h1, List.getElem?_append_right (Nat.le_refl _)]; simp
    have hl : a.length < x.length := (List.getElem?_eq_some_iff.mp hx).1
    have := find_range (occP (mkS x) (mkS [c]) (mkS x).length) ((mkS x).length + 1 - 0) 0 a.length (by rw [mkS_length]; omega)
      (decide_eq_true ((pr _).mpr (by rw [Nat.zero_add]; exact hx))) fun j hj => decide_eq_false fun z => by
        have z2 := (pr _).mp z
        rw [Nat.zero_add, h1, List.getElem?_append_left hj] at z2
        exact h2 (List.mem_of_getElem? z2)
    rw [this]
    simp
theorem part_eq (x : List Nat) (c : Nat) : Txt.partition (mkS x) (mkS [c]) = match cutAt c x with
    | some (a, b) => (mkS a, mkS [c], mkS b)
    | none => (mkS x, mkS [], mkS []) := by
  unfold Txt.partition
  rw [occ_one]
  cases g : cutAt c x with
  | none => rfl
  | some p =>
    obtain ⟨a, b⟩ := p
    obtain ⟨h1, h2⟩ := cut_some g
    have e1 : Builtin.Str.strSub (mkS x) 0 a.length = mkS a := by
      unfold Builtin.Str.strSub
      show Str.mk ((x.toArray).extract 0 a.length) = _
      rw [h1]; simp
    have e2 : Builtin.Str.strSub (mkS x) (a.length + (mkS [c]).length) (mkS x).length = mkS b := by
      unfold Builtin.Str.strSub
      rw [mkS_length, mkS_length]
      show Str.mk ((x.toArray).extract (a.length + 1) x.length) = _
      rw [h1]
      have : (a ++ c :: b).toArray.extract (a.length + 1) (a ++ c :: b).length = b.toArray := by
        apply Array.toList_inj.mp
        rw [Array.toList_extract]
        have e3 : List.drop (a.length + 1) a = [] := List.drop_eq_nil_of_le (by omega)
        simp only [List.extract, List.drop_append, e3, List.nil_append, List.length_append, List.length_cons]
        rw [show a.length + 1 - a.length = 1 by omega]
        exact List.take_of_length_le (by simp; omega)
      rw [this]
    simp only [e1, e2]
theorem mr_partition : MtR X "str.partition" (RM X.K partM) := by
  intro pins s σ H x xs v us Q I rx ru ⟨φ, S, d, ds, r, hx, hs, h⟩
  unfold partM at h
  split at h
  · rename_i z c
    split at h
    · rename_i hl
      obtain ⟨e, o⟩ := hx.str'
      obtain ⟨w, e2, d2⟩ := hs.one
      obtain ⟨e3, o3⟩ := d2.str'
      subst e e3
      refine mt_partition pins s σ H _ xs v us Q I rx ru ⟨mkS z, mkS [c], rfl, e2, rfl, by rw [mkS_length]; exact ble_line hl, fun p hp => ?_⟩
      rw [part_eq]
      cases g : cutAt c z with
      | none =>
        rw [g] at h
        obtain ⟨x2, r2⟩ := r.fresh hp (.tup [.str (mkS z), .str (mkS []), .str (mkS [])])
        exact h φ _ x2 r2 _ (.tup (.inl (.inl upd_same)) (.cons (.str o) (.cons (.str fun _ z => nomatch z) (.cons (.str fun _ z => nomatch z) .nil))))
      | some q =>
        obtain ⟨a, b⟩ := q
        rw [g] at h
        obtain ⟨h1, h2⟩ := cut_some g
        obtain ⟨x2, r2⟩ := r.fresh hp (.tup [.str (mkS a), .str (mkS [c]), .str (mkS b)])
        exact h φ _ x2 r2 _ (.tup (.inl (.inl upd_same)) (.cons (.str fun k hk => o k (by rw [h1]; simp [hk])) (.cons (.str o3) (.cons (.str fun k hk => o k (by rw [h1]; simp [hk])) .nil))))
    · exact h.elim
  · exact h.elim
end
end DE

namespace DE
open PySem L2 PyProof.Rows
/-! ## statements -/
inductive RS where
  | nx (env : Env) (S : Store)
  | rt (d : D) (S : Store)
  | bk (env : Env) (S : Store)
  | ct (env : Env) (S : Store)
  | ex (x : Exn) (env : Env) (S : Store)
  | bad
abbrev Sm := Env → Store → RS
def RS.of {α : Type} (r : R α) (env : Env) (k : α → Store → RS) : RS := match r with
  | .ok a S => k a S
  | .ex x S => .ex x env S
  | .bad => .bad
def PostS (K : PySem.W.Frag) (XR : XRel) (W : WX) (φ : List Addr) (H : Hp) (r : RS) (D : Ends) : Prop :=
  match r with
  | .nx env S => ∀ φ' H' σ', Ext K φ H φ' H' → Rel K φ' H' S → EnvR K φ' H' env σ' → D.nx σ' H'
  | .rt d S => ∀ φ' H' v, Ext K φ H φ' H' → Rel K φ' H' S → DR K φ' H' d v → D.rt v H'
  | .bk env S => ∀ φ' H' σ', Ext K φ H φ' H' → Rel K φ' H' S → EnvR K φ' H' env σ' → D.bk σ' H'
  | .ct env S => ∀ φ' H' σ', Ext K φ H φ' H' → Rel K φ' H' S → EnvR K φ' H' env σ' → D.ct σ' H'
  | .ex x env S => ∀ φ' H' σ' cls dx, Ext K φ H φ' H' → Rel K φ' H' S → EnvR K φ' H' env σ' → XR φ' H' x cls dx → W cls dx σ' H'
  | .bad => False
def TIs (K : PySem.W.Frag) (XR : XRel) (W : WX) (t : Sm) : TS := fun D σ H => ∃ φ S env, Rel K φ H S ∧ EnvR K φ H env σ ∧ PostS K XR W φ H (t env S) D
abbrev SS (X : Cx) (XR : XRel) (W : WX) (st : Stmt) (t : Sm) : Prop := PS X st (TIs X.K XR W t)
abbrev SSs (X : Cx) (XR : XRel) (W : WX) (st : List Stmt) (t : Sm) : Prop := PSs X st (TIs X.K XR W t)
theorem PS.imp {X : Cx} {st : Stmt} {t t' : TS} (h : PS X st t) (i : ∀ D σ H, t' D σ H → t D σ H) : PS X st t' := ⟨fun pins s σ H D I q => h.run pins s σ H D I (i D σ H q)⟩
theorem PSs.imp {X : Cx} {st : List Stmt} {t t' : TS} (h : PSs X st t) (i : ∀ D σ H, t' D σ H → t D σ H) : PSs X st t' := ⟨fun pins s σ H D I q => h.run pins s σ H D I (i D σ H q)⟩
def nopS : Sm := fun env S => .nx env S
def seqS (a b : Sm) : Sm := fun env S => match a env S with
  | .nx env1 S1 => b env1 S1
  | .rt d S1 => .rt d S1
  | .bk env1 S1 => .bk env1 S1
  | .ct env1 S1 => .ct env1 S1
  | .ex x env1 S1 => .ex x env1 S1
  | .bad => .bad
def setS (i : Nat) (e : Ev) : Sm := fun env S => .of (e env S) env fun d S1 => .nx (env.set i (some d)) S1
def retS (e : Ev) : Sm := fun env S => .of (e env S) env fun d S1 => .rt d S1
def retN : Sm := fun _ S => .rt .non S
def exprS (e : Ev) : Sm := fun env S => .of (e env S) env fun _ S1 => .nx env S1
def ifS (c : Et) (a b : Sm) : Sm := fun env S => .of (c env S) env fun k S1 => match k with
  | true => a env S1
  | false => b env S1
def brkS : Sm := fun env S => .bk env S
def cntS : Sm := fun env S => .ct env S
section
variable {K : PySem.W.Frag} {XR : XRel} {W : WX} {σ : L2.St} {φ : List Addr} {H : Hp} {D : Ends}
theorem PostS.ext {φ1 H1} (x : Ext K φ H φ1 H1) {r : RS} (h : PostS K XR W φ H r D) : PostS K XR W φ1 H1 r D := by
  cases r with
  | nx env S => exact fun φ' H' σ' y => h φ' H' σ' (x.trans y)
  | rt d S => exact fun φ' H' v y => h φ' H' v (x.trans y)
  | bk env S => exact fun φ' H' σ' y => h φ' H' σ' (x.trans y)
  | ct env S => exact fun φ' H' σ' y => h φ' H' σ' (x.trans y)
  | ex e env S => exact fun φ' H' σ' c d y => h φ' H' σ' c d (x.trans y)
  | bad => exact h
theorem PostS.of {α : Type} {r : R α} {env : Env} {k : α → Store → RS} (e : EnvR K φ H env σ) (h : PostS K XR W φ H (RS.of r env k) D) : Post K XR W σ φ H r fun φ1 H1 S1 a => PostS K XR W φ1 H1 (k a S1) D := by
  cases r with
  | ok a S => exact fun φ1 H1 x r1 => PostS.ext x h
  | ex x S => exact fun φ' H' cls dx y r xr => h φ' H' σ cls dx y r (e.ext y) xr
  | bad => exact h
end
section
variable {X : Cx} {XR : XRel} {W : WX} {pos : Pos}
theorem ss_nil : SSs X XR W [] nopS := PSs.imp pss_nil fun D σ H ⟨φ, S, env, r, e, h⟩ => h φ H σ .refl r e
theorem ss_cons {st : Stmt} {rest : List Stmt} {a b : Sm} (ha : SS X XR W st a) (hb : SSs X XR W rest b) : SSs X XR W (st :: rest) (seqS a b) := by
  refine PSs.imp (pss_cons ha hb) fun D σ H ⟨φ, S, env, r, e, h⟩ => ?_
  refine ⟨φ, S, env, r, e, ?_⟩
  unfold seqS at h
  cases q : a env S with
  | nx env1 S1 => rw [q] at h; exact fun φ' H' σ' x r' e' => ⟨φ', S1, env1, r', e', PostS.ext x h⟩
  | rt d S1 => rw [q] at h; exact h
  | bk env1 S1 => rw [q] at h; exact h
  | ct env1 S1 => rw [q] at h; exact h
  | ex x env1 S1 => rw [q] at h; exact h
  | bad => rw [q] at h; exact h
theorem ss_one {st : Stmt} {a : Sm} (ha : SS X XR W st a) : SSs X XR W [st] a := pss_one ha
theorem ss_pass : SS X XR W (.Pass pos) nopS := PS.imp ps_pass fun D σ H ⟨φ, S, env, r, e, h⟩ => h φ H σ .refl r e
theorem ss_break : SS X XR W (.Break pos) brkS := PS.imp ps_break fun D σ H ⟨φ, S, env, r, e, h⟩ => h φ H σ .refl r e
theorem ss_continue : SS X XR W (.Continue pos) cntS := PS.imp ps_continue fun D σ H ⟨φ, S, env, r, e, h⟩ => h φ H σ .refl r e
theorem ss_set {i : Nat} {x : Str} {e : Expr} {te : Ev} {pos' : Pos} (hN : X.N.Nodup) (he : SE X XR W e te) (hi : X.N[i]? = some x := by rfl) (hx : Loc X.env.scope x := by first | exact Or.inl rfl | exact Or.inr rfl) (hs : swapsWith e (some (.Name x pos')) pos.line X.env = pure false := by rfl)
    (hf : X.fn x = true ∨ X.env.scope.names.lookup x = some .local := by first | exact .inl rfl | exact .inr rfl) : SS X XR W (.Assign [.Name x pos'] e pos) (setS i te) := by
  refine PS.imp (ps_set hN hi hx he hs hf) fun D σ H ⟨φ, S, env, r, e, h⟩ => ?_
  exact ⟨φ, S, env, r, e, (PostS.of e h).mono fun φ1 H1 S1 d x1 r1 h1 v dv => h1 φ1 H1 _ .refl r1 ((e.ext x1).set dv i)⟩
theorem ss_ret {e : Expr} {te : Ev} (he : SE X XR W e te) : SS X XR W (.Return (some e) pos) (retS te) := by
  refine PS.imp (ps_ret he) fun D σ H ⟨φ, S, env, r, e, h⟩ => ?_
  exact ⟨φ, S, env, r, e, (PostS.of e h).mono fun φ1 H1 S1 d x1 r1 h1 v dv => h1 φ1 H1 v .refl r1 dv⟩
theorem ss_retN : SS X XR W (.Return none pos) retN := PS.imp ps_retN fun D σ H ⟨φ, S, env, r, e, h⟩ => h φ H _ .refl r .non
theorem ss_expr {e : Expr} {te : Ev} (he : SE X XR W e te) (hs : swapsWith e none pos.line X.env = pure false := by rfl) : SS X XR W (.Expr e pos) (exprS te) := by
  refine PS.imp (ps_expr he hs) fun D σ H ⟨φ, S, env, r, e, h⟩ => ?_
  exact ⟨φ, S, env, r, e, (PostS.of e h).mono fun φ1 H1 S1 d x1 r1 h1 v dv => h1 φ1 H1 _ .refl r1 (e.ext x1)⟩
theorem ss_doc {x j pos'} : SS X XR W (.Expr (.Constant (.str x) j pos') pos) nopS := PS.imp ps_doc fun D σ H ⟨φ, S, env, r, e, h⟩ => h φ H σ .refl r e
theorem ss_if {c : Expr} {a b : List Stmt} {tc : Et} {ta tb : Sm} (hc : ST X XR W c tc) (ha : SSs X XR W a ta) (hb : SSs X XR W b tb) : SS X XR W (.If c a b pos) (ifS tc ta tb) := by
  refine PS.imp (ps_if hc ha hb) fun D σ H ⟨φ, S, env, r, e, h⟩ => ?_
  refine ⟨φ, S, env, r, e, (PostS.of e h).mono fun φ1 H1 S1 k x1 r1 h1 => ?_⟩
  cases k with
  | true => rw [if_pos rfl]; exact ⟨φ1, S1, env, r1, e.ext x1, h1⟩
  | false => rw [if_neg Bool.false_ne_true]; exact ⟨φ1, S1, env, r1, e.ext x1, h1⟩
end
/-! ## what an assignment or a for binds -/
mutual
inductive Pat where
  | nm (i : Nat)
  | tp (ps : Pats)
inductive Pats where
  | nil
  | cons (p : Pat) (ps : Pats)
end
mutual
def flatP : Pat → D → Option (List (Nat × D))
  | .nm i, d => some [(i, d)]
  | .tp ps, .tup ds => flatPs ps ds
  | .tp _, _ => none
def flatPs : Pats → List D → Option (List (Nat × D))
  | .nil, [] => some []
  | .cons p ps, d :: ds => match flatP p d, flatPs ps ds with
    | some a, some b => some (a ++ b)
    | _, _ => none
  | _, _ => none
end
def setL : Env → List (Nat × D) → Env
  | env, [] => env
  | env, (i, d) :: r => setL (env.set i (some d)) r
def setV : L2.St → List Nat → List V → L2.St
  | σ, i :: is, v :: vs => setV (σ.set i (some v)) is vs
  | σ, _, _ => σ
section
variable {X : Cx} {XR : XRel} {W : WX} {pos : Pos} {K : PySem.W.Frag} {φ : List Addr} {H : Hp}
theorem EnvR.setL : ∀ {l : List (Nat × D)} {env : Env} {σ : L2.St} {vs : List V}, EnvR K φ H env σ → DRs K φ H (l.map (·.2)) vs → EnvR K φ H (DE.setL env l) (setV σ (l.map (·.1)) vs)
  | [], _, _, _, e, .nil => e
  | (i, d) :: l, env, σ, v :: vs, e, .cons a h => EnvR.setL (l := l) (e.set a i) h
theorem setV_append : ∀ {is js : List Nat} {σ : L2.St} {vs ws : List V}, is.length = vs.length → setV σ (is ++ js) (vs ++ ws) = setV (setV σ is vs) js ws
  | [], _, _, [], _, _ => rfl
  | [], _, _, _ :: _, _, h => by simp at h
  | _ :: _, _, _, [], _, h => by simp at h
  | i :: is, js, σ, v :: vs, ws, h => by
    show setV (σ.set i (some v)) (is ++ js) (vs ++ ws) = _
    exact setV_append (by simpa using h)
def TGp (K : PySem.W.Frag) (p : Pat) : TG := fun v σ H Q => ∃ φ d l, DR K φ H d v ∧ flatP p d = some l ∧ ∀ vs, DRs K φ H (l.map (·.2)) vs → Q (setV σ (l.map (·.1)) vs) H
def TGps (K : PySem.W.Frag) (ps : Pats) : TGs := fun xs σ H Q => ∃ φ ds l, DRs K φ H ds xs ∧ flatPs ps ds = some l ∧ ∀ vs, DRs K φ H (l.map (·.2)) vs → Q (setV σ (l.map (·.1)) vs) H
theorem PG.imp {X : Cx} {e : Expr} {t t' : TG} (h : PG X e t) (i : ∀ v σ H Q, t' v σ H Q → t v σ H Q) : PG X e t' := ⟨fun pins s σ H v u Q I r q => h.run pins s σ H v u Q I r (i v σ H Q q)⟩
theorem PGs.imp {X : Cx} {es : List Expr} {t t' : TGs} (h : PGs X es t) (i : ∀ v σ H Q, t' v σ H Q → t v σ H Q) : PGs X es t' := ⟨fun pins s σ H vs us Q I r q => h.run pins s σ H vs us Q I r (i vs σ H Q q)⟩
theorem sg_nm {i : Nat} {x : Str} (hN : X.N.Nodup) (hi : X.N[i]? = some x := by rfl) (hx : Loc X.env.scope x := by first | exact Or.inl rfl | exact Or.inr rfl) (hf : X.fn x = true ∨ X.env.scope.names.lookup x = some .local := by first | exact .inl rfl | exact .inr rfl) :
    PG X (.Name x pos) (TGp X.K (.nm i)) := by
  refine PG.imp (pg_name hN hi hx hf) fun v σ H Q ⟨φ, d, l, dv, e, h⟩ => ?_
  have e' : some [(i, d)] = some l := by rw [← e]; unfold flatP; rfl
  cases e'
  exact h [v] (.cons dv .nil)
theorem sgs_nil : PGs X [] (TGps X.K .nil) := by
  refine PGs.imp pgs_nil fun xs σ H Q ⟨φ, ds, l, dv, e, h⟩ => ?_
  cases dv with
  | nil =>
    have e' : some [] = some l := by rw [← e]; unfold flatPs; rfl
    cases e'
    exact ⟨rfl, h [] .nil⟩
  | cons _ _ => unfold flatPs at e; cases e
theorem DRs.split : ∀ {a b : List D} {vs ws : List V}, DRs K φ H a vs → DRs K φ H b ws → DRs K φ H (a ++ b) (vs ++ ws) := fun h g => h.append g
theorem sgs_cons {e : Expr} {es : List Expr} {p : Pat} {ps : Pats} (h1 : PG X e (TGp X.K p)) (h2 : PGs X es (TGps X.K ps)) (hs : (assignEach (e :: es) X.env).map (·.2) = assign e X.env :: (assignEach es X.env).map (·.2) := by rfl) : PGs X (e :: es) (TGps X.K (.cons p ps)) := by
  refine PGs.imp (pgs_cons h1 h2 hs) fun xs σ H Q ⟨φ, ds, l, dv, e, h⟩ => ?_
  cases dv with
  | nil => unfold flatPs at e; cases e
  | @cons d v ds vs a b =>
    unfold flatPs at e
    cases q1 : flatP p d with
    | none => rw [q1] at e; cases e
    | some l1 =>
      cases q2 : flatPs ps ds with
      | none => rw [q1, q2] at e; cases e
      | some l2 =>
        rw [q1, q2] at e
        cases e
        refine ⟨v, vs, rfl, φ, d, l1, a, q1, fun vs1 d1 => ?_⟩
        refine ⟨φ, ds, l2, b, q2, fun vs2 d2 => ?_⟩
        have := h (vs1 ++ vs2) (by rw [List.map_append]; exact d1.append d2)
        rw [List.map_append, setV_append (by have := d1.length; simp at this ⊢; omega)] at this
        exact this
theorem sg_tp {es : List Expr} {k : Nat} {ps : Pats} {n : Nat} (hc : X.calm = true) (h : PGs X es (TGps X.K ps)) (hl : ∀ ds l, flatPs ps ds = some l → ds.length = n) (hn : (assignEach es X.env).length = n := by rfl) (hst : (assignEach es X.env).findIdx? (·.1) = none := by rfl) :
    PG X (.Tuple es k pos) (TGp X.K (.tp ps)) := by
  refine PG.imp (pg_tup hc h hn hst) fun v σ H Q ⟨φ, d, l, dv, e, hq⟩ => ?_
  cases dv with
  | @tup ds a vs s1 d1 =>
    have e' : flatPs ps ds = some l := by rw [← e]; unfold flatP; rfl
    exact ⟨a, vs, rfl, s1, by rw [d1.length]; exact hl ds l e', φ, ds, l, d1, e', hq⟩
  | _ => unfold flatP at e; cases e
def Pats.len : Pats → Nat
  | .nil => 0
  | .cons _ ps => ps.len + 1
theorem flatPs_len : ∀ {ps : Pats} {ds : List D} {l}, flatPs ps ds = some l → ds.length = ps.len
  | .nil, [], _, _ => rfl
  | .nil, _ :: _, _, h => by unfold flatPs at h; cases h
  | .cons _ _, [], _, h => by unfold flatPs at h; cases h
  | .cons p ps, d :: ds, l, h => by
    unfold flatPs at h
    cases q1 : flatP p d with
    | none => rw [q1] at h; cases h
    | some l1 =>
      cases q2 : flatPs ps ds with
      | none => rw [q1, q2] at h; cases h
      | some l2 => show ds.length + 1 = ps.len + 1; rw [flatPs_len q2]
/-- a, b = e -/
def asgS (p : Pat) (e : Ev) : Sm := fun env S => .of (e env S) env fun d S1 => match flatP p d with
  | some l => .nx (setL env l) S1
  | none => .bad
theorem ss_asg {tg e : Expr} {p : Pat} {te : Ev} (he : SE X XR W e te) (hg : PG X tg (TGp X.K p)) (hs : swapsWithSole [tg] e pos.line X.env = pure false := by rfl) (hw : swappedStores [tg] e X.env = pure none := by rfl)
    (h1 : (assignEach [tg] X.env).map (·.2) = [assign tg X.env] := by rfl) : SS X XR W (.Assign [tg] e pos) (asgS p te) := by
  refine PS.imp (ps_asg he hg hs hw h1) fun D σ H ⟨φ, S, env, r, e, h⟩ => ?_
  refine ⟨φ, S, env, r, e, (PostS.of e h).mono fun φ1 H1 S1 d x1 r1 h1 v dv => ?_⟩
  cases q : flatP p d with
  | none => rw [q] at h1; exact h1.elim
  | some l =>
    rw [q] at h1
    exact ⟨φ1, d, l, dv, q, fun vs dvs => h1 φ1 H1 _ .refl r1 ((e.ext x1).setL dvs)⟩
end
/-! ## o[i] = e, x += e -/
def stO (o i v : D) (S : Store) : Option Store := match o, i with
  | .ref n, .int k => match S.get n with
    | some (.lst xs) => match ixN xs.length k with
      | some j => some (S.set n (.lst (xs.set j v)))
      | none => none
    | _ => none
  | _, _ => none
def subS (o i e : Ev) : Sm := fun env S => .of (e env S) env fun v S1 => .of (o env S1) env fun od S2 => .of (i env S2) env fun id S3 => match stO od id v S3 with
  | some S4 => .nx env S4
  | none => .bad
def RSt (K : PySem.W.Frag) : TSet := fun o i v H Q => ∃ φ S od id vd, Rel K φ H S ∧ DR K φ H od o ∧ DR K φ H id i ∧ DR K φ H vd v ∧ match stO od id vd S with
  | some S4 => ∀ H', Ext K φ H φ H' → Rel K φ H' S4 → Q H'
  | none => False
section
variable {X : Cx} {XR : XRel} {W : WX} {pos tpos : Pos}
theorem ps_st : PSet X (RSt X.K) := by
  intro pins s σ H o i v ov iv u Q I ro ri rv ⟨φ, S, od, id, vd, r, ho, hi, hv, h⟩
  unfold stO at h
  split at h
  · rename_i S4 hst
    split at hst
    · rename_i n k
      cases g : S.get n with
      | none => rw [g] at hst; cases hst
      | some c =>
        cases c with
        | dct _ => rw [g] at hst; cases hst
        | dtt _ => rw [g] at hst; cases hst
        | lst xs =>
          rw [g] at hst
          simp only at hst
          cases gi : ixN xs.length k with
          | none => rw [gi] at hst; cases hst
          | some j =>
            rw [gi] at hst
            cases hst
            obtain ⟨a, vs, e, f1, h1, d1⟩ := cell_lst r ho g
            rw [hi.int'] at ri
            subst e
            obtain ⟨x2, r2⟩ := r.upd g f1 (o := .lst (vs.set j v)) (c := .lst (xs.set j vd)) fun H' x e => ⟨_, e, (d1.ext x).set j (hv.ext x)⟩
            exact set_list pins s σ H _ _ v ov iv u Q I ro ri rv ⟨a, vs, k, j, rfl, rfl, h1, by rw [d1.length]; exact gi, h _ x2 r2⟩
    · cases hst
  · exact h.elim
theorem ss_sub {o i e : Expr} {to ti te : Ev} (he : SE X XR W e te) (ho : SE X XR W o to) (hi : SE X XR W i ti)
    (ha : ∀ v, assign (.Subscript o i tpos) X.env v = (do
      let ov ← holding [v] (eval o X.env)
      let iv ← holding [v, ov] (eval i X.env)
      standAt tpos
      holding [v, ov, iv] (setItem ov iv v)
      release [v, ov, iv] []) := by intro _; rfl)
    (hs : swapsWithSole [.Subscript o i tpos] e pos.line X.env = pure false := by rfl) (hw : swappedStores [.Subscript o i tpos] e X.env = pure none := by rfl)
    (h1 : (assignEach [.Subscript o i tpos] X.env).map (·.2) = [assign (.Subscript o i tpos) X.env] := by rfl) : SS X XR W (.Assign [.Subscript o i tpos] e pos) (subS to ti te) := by
  refine PS.imp (ps_asg he (pg_sub ho hi ps_st ha) hs hw h1) fun D σ H ⟨φ, S, env, r, e, h⟩ => ?_
  refine ⟨φ, S, env, r, e, (PostS.of e h).mono fun φ1 H1 S1 v x1 r1 h1 vv dv => ?_⟩
  refine ⟨φ1, S1, env, r1, e.ext x1, (PostS.of (e.ext x1) h1).mono fun φ2 H2 S2 od x2 r2 h2 ov dov => ?_⟩
  refine ⟨φ2, S2, env, r2, (e.ext x1).ext x2, (PostS.of ((e.ext x1).ext x2) h2).mono fun φ3 H3 S3 id x3 r3 h3 iv div => ?_⟩
  refine ⟨φ3, S3, od, id, v, r3, dov.ext x3, div, dv.ext (x2.trans x3), ?_⟩
  cases q : stO od id v S3 with
  | none => rw [q] at h3; exact h3.elim
  | some S4 =>
    rw [q] at h3
    exact fun H' x r' => h3 φ3 H' _ x r' ((e.ext (x1.trans (x2.trans x3))).ext x)
end
end DE

namespace PySem
namespace DEnum
open PyProof.Rows
/-! enumerate(v) with one argument, v of any kind that begins an iterator; over a tuple -/
set_option maxHeartbeats 4000000 in
theorem meets_new {v : Value} {o : Obj} {H : Heap → Prop} (B : Begins v o H) :
    Meets (Builtin.«enumerate.__new__» ⟨[.type "enumerate", v], []⟩) (fun _ R s => H s.heap ∧
      R (.ok (.ret (.ref (s.heap.push o).objs.size))) { s with heap := (s.heap.push o).push { cls := .type "enumerate", data := .fields #[.none, .bool false, .ref s.heap.objs.size, rawInt 0, .none, .none] } }) :=
  .of_wp fun prog w A R s h => by
    obtain ⟨hp, g, d, tk, os⟩ := s; obtain ⟨h1, h⟩ := h
    have hsub := sub_enumerate
    have q1 : ∀ {A' : Around} {E : Value → Shared → Prop} {Q : Value → Shared → Prop}, Q (.ref hp.objs.size) ⟨hp.push o, g, d, tk, os⟩ → wpAny (model prog w) A' (pyIter v) Q E ⟨hp, g, d, tk, os⟩ :=
      fun q => B.iter prog w _ _ ⟨hp, g, d, tk, os⟩ _ h1 q
    wp_walk using q1
    refine wpAny_stack_any fun st => wpAny_pure ?_
    split
    · rename_i c _ _ _ _ _
      cases (c == Value.type "enumerate")
      · wp_walk using q1
        exact ⟨_, rfl, h⟩
      · wp_walk using q1
        exact ⟨_, rfl, h⟩
    · wp_walk using q1
      exact ⟨_, rfl, h⟩
section
variable {prog : Program} {w : World} {A : Around} {E : Value → Shared → Prop} {s : Shared}
theorem begins1 {v : Value} {o : Obj} {H : Heap → Prop} {Q : Value → Shared → Prop} (B : Begins v o H) (h1 : H s.heap)
    (h : ∀ h', IsEnum h' (s.heap.objs.size + 1) s.heap.objs.size 0 .none → h'.get? s.heap.objs.size = some o → h'.objs.size = s.heap.objs.size + 2 →
      (∀ b o, s.heap.get? b = some o → h'.get? b = some o) → Q (.ref (s.heap.objs.size + 1)) { s with heap := h' }) :
    wpAny (model prog w) A (call (.type "enumerate") [v]) Q E s := by
  refine callType_new F.called_enumerate (by decide) (F.typeCall_enumerate_1 _) (F.newCall_enumerate_1 _) (fun obj => F.args_object_init_2 obj _) F.entry_enumerate_new
    (meets_new B) ⟨h1, ?_⟩
  have hz : (s.heap.push o).objs.size = s.heap.objs.size + 1 := Heap.size_push ..
  show _ ∧ _
  rw [hz]
  have he : IsEnum ((s.heap.push o).push { cls := .type "enumerate", data := .fields #[.none, .bool false, .ref s.heap.objs.size, rawInt 0, .none, .none] }) (s.heap.objs.size + 1) s.heap.objs.size 0 .none := by
    have := Heap.get?_push_size (s.heap.push o) (o := { cls := .type "enumerate", data := .fields #[.none, .bool false, .ref s.heap.objs.size, rawInt 0, .none, .none] }) rfl
    rw [hz] at this; exact this
  exact ⟨⟨_, he, rfl⟩, h _ he (Heap.get?_push_of_some _ (Heap.get?_push_size _ B.free)) (by rw [Heap.size_push, hz]) fun b o x => Heap.get?_push_of_some _ (Heap.get?_push_of_some _ x)⟩
end
end DEnum
end PySem
namespace L2
open PySem PySem.Spec PyProof.Rows
/-- the tuple at a, its items in new pairs with their numbers -/
def Itet (K : PySem.W.Frag) (a : Addr) : It :=
  ⟨fun i H => ∃ (xs : List V) (x : V), SqT K H a xs ∧ xs[i]? = some x, fun i H v H' => ∃ T x, v = .ref T ∧ H T = none ∧ H' = upd H T (.tup [.int (i : Nat), x]) ∧ ∀ xs, SqT K H a xs → xs[i]? = some x, fun i H => ∃ xs : List V, SqT K H a xs ∧ xs.length ≤ i⟩
theorem enum_apart {h : Heap} {e it a : Addr} {i : Int} {old : Value} {items : Array Value} (he : IsEnum h e it i old) (ht : IsTup h a items) : e ≠ a := fun z => by
  subst z
  obtain ⟨o, ho, hc, _⟩ := ht
  have he' : h.get? e = some _ := he
  rw [ho] at he'
  have := Option.some.inj he'
  rw [this] at hc; simp at hc
theorem turn_enumT {P : Program} {w : World} {K : PySem.W.Frag} {elts : List Expr} {kk : Nat} {tpos : Pos} (a e it : Addr) :
    Turn P w K (.Tuple elts kk tpos) (Itet K a) [e, it] e (fun i h => (∃ old, IsEnum h e it ((i : Nat) : Int) old) ∧ h.IsTupleIter it a i ∧ e ≠ it) where
  mem := by simp
  obj := fun i h st b hb => by
    obtain ⟨⟨old, he⟩, ⟨o, ho, hc, hd⟩, _⟩ := st
    have e' : b = e ∨ b = it := by simpa using hb
    rcases e' with z | z
    · rw [z]; exact ⟨_, he, fun v q => nomatch q⟩
    · rw [z]; exact ⟨o, ho, fun v q => by rw [hd] at q; cases q⟩
  keep := fun i h h' st k => let ⟨⟨old, he⟩, hi, hne⟩ := st; ⟨⟨old, k e (by simp) _ he⟩, hi.at fun o q => k it (by simp) o q, hne⟩
  item := by
    intro X hP hw hK hc i pins s σ H E I hf st hg
    subst hP hw hK
    obtain ⟨⟨old, he⟩, hit, hne⟩ := st
    obtain ⟨xs, x, hq, hx⟩ := hg
    obtain ⟨its, rv, p, hz⟩ := I.tuple hq
    obtain ⟨u, hu, ru⟩ := rv.get hx
    have hel : e < s.heap.objs.size := Heap.lt_size he
    have hil : it < s.heap.objs.size := by obtain ⟨_, q, _⟩ := id hit; exact Heap.lt_size q
    have hea : e ≠ a := enum_apart he p
    have hat : a ≠ it := fun z => by
      subst z
      obtain ⟨o, ho, hc, hd⟩ := id hit
      obtain ⟨o', ho', hc', _⟩ := id p
      rw [ho] at ho'; cases ho'; rw [hc] at hc'; simp at hc'
    have hi : i < its.toArray.size := by
      have := (List.getElem?_eq_some_iff.mp hu).1
      simpa using this
    refine wpAny_pyNext_enum_itemD (Draws.tuple (show X.A.in1.handled = none from I.ok.hd hc) it a hat its.toArray) he ⟨hit, p⟩ hi hne (by simp [hne, hea]) fun x' h' tk hx' ho hst hT hsz hk => ?_
    have hxu : x' = u := by
      have : its.toArray[i]? = some u := by simpa using hu
      rw [this] at hx'; exact (Option.some.inj hx').symm
    subst hxu
    refine ⟨_, rfl, wpAny_letOwnedTupleGo_enum (s := { s with heap := h', toks := tk + 1 }) ho fun h'' he' sb => ?_⟩
    have hT2 : h''.get? s.heap.objs.size = some { cls := .type "tuple", data := .seq #[.int i tk, x'] } := (sb.2 _ (Nat.ne_of_gt hel)).trans hT
    have new : ObjOk X.prog X.w (upd H s.heap.objs.size (.tup [.int (i : Nat), x])) h'' s.heap.objs.size (.tup [.int (i : Nat), x]) :=
      ⟨by show 2 ≤ sizeLine; decide, [.int i tk, x'], .cons ⟨_, rfl⟩ (.cons ru .nil), ⟨_, hT2, rfl, _, rfl⟩⟩
    have I1 : Inv X pins σ (upd H s.heap.objs.size (.tup [.int (i : Nat), x])) { s with heap := h'', toks := tk + 1 } :=
      I.turnedNew (ch := [e, it]) (fun b ob hb q => (sb.2 b (fun z => hb (by simp [z]))).trans (hk b ob (fun z => hb (by simp [z])) (fun z => hb (by simp [z])) q)) hf (Nat.le_refl _) new
    refine ⟨.ref s.heap.objs.size, _, I1, rfl, ⟨_, x, rfl, I.hok.fresh (Nat.le_refl _), rfl, fun ys hy => by rw [I.tuple_inj hy hq]; exact hx⟩, ⟨⟨x', ?_⟩, hst.1.at fun o q => (sb.2 it (Ne.symm hne)).trans q, hne⟩, fun b hb => ?_⟩
    · have e1 : ((i + 1 : Nat) : Int) = (i : Int) + 1 := by omega
      rw [e1]; exact he'
    · have hb' : b < s.heap.objs.size := by
        have e' : b = e ∨ b = it := by simpa using hb
        rcases e' with z | z
        · rw [z]; exact hel
        · rw [z]; exact hil
      rw [upd_ne (Nat.ne_of_lt hb')]
      exact (hf b hb).1
  done := by
    intro X hP hw hK hc i pins s σ H E I hf st hg
    subst hP hw hK
    obtain ⟨⟨old, he⟩, hit, hne⟩ := st
    obtain ⟨xs, hq, hx⟩ := hg
    obtain ⟨its, rv, p, hz⟩ := I.tuple hq
    obtain ⟨f0, f1, f2, f3, f4, f5⟩ := hf it (by simp)
    have hl := rv.length
    have hea : e ≠ a := enum_apart he p
    have hT : s.TypeIs (.ref e) "enumerate" := ⟨_, he, rfl⟩
    unfold pyNext
    refine wpAny_bind (wpAny_attempt (wpAny_callSpecial?_slot (name := Str.ofString "__next__") hT F.slot_enumerate_next
      (wpAny_call_entry F.slot_enumerate_next hT F.entry_enumerate_next ?_ (F.args_enumerate_next_1 _))))
    show wpAny _ _ (field (.ref e) 2 >>= _) _ _ _
    refine wpAny_bind (wpAny_field he rfl (x := .ref it) rfl ?_)
    refine wpAny_bind (wpAny_nextOf_tuple_end (show _ = none from I.ok.hd hc) hit p (by simp; omega) fun h' x he' hx' => ?_)
    obtain ⟨o, ho, hc⟩ := hx'
    refine wpAny_bind (wpAny_isInstance (T := "StopIteration") (b := true) ⟨o, ho, hc⟩ isSubtype_stop ?_)
    exact wpAny_pure ⟨rfl, I.turned (t' := s.toks) (fun b o hb q => he' b o hb q) f0 f1 f3 f4 f5⟩
  self := fun A i s Q E st h => let ⟨⟨_, he⟩, _⟩ := st; wpAny_pyIter_enum he h
section
variable {X : Cx}
/-- enumerate(e), e a list or a tuple -/
def iEnumA (K : PySem.W.Frag) (ta : TA) : TI := fun σ H R => ta σ H fun vs H1 => ∃ a, vs = [.ref a] ∧ (((∃ xs, SqL K H1 a xs) ∧ R (Ite K a) H1) ∨ ((∃ xs, SqT K H1 a xs) ∧ R (Itet K a) H1))
theorem pi_enumA {e : Expr} {ta : TA} {p pos tpos : Pos} {elts : List Expr} {kk : Nat} (hg : Gl X "enumerate") (hm : X.mg "enumerate" = none) (ha : PA X [e] ta) (hs : starEach [e] X.env = [(false, eval e X.env)] := by rfl) :
    PI X (.Tuple elts kk tpos) (.Call (.Name "enumerate" p) [e] [] pos) (iEnumA X.K ta) := by
  refine ⟨fun pins s σ H R I h => ?_⟩
  refine Call_ (ld_blt I hg hm boot_enumerate (PyProof.Rows.callWith_type1 (thn (ha.run pos pins s σ H _ I h) fun us s1 ⟨vs, H1, I1, r1, q1⟩ => ?_) hs rfl))
  obtain ⟨a, ex, q⟩ := q1
  subst ex
  cases r1 with
  | cons r rr =>
    cases rr
    cases r
    have fp : ∀ b ∈ [s1.heap.objs.size + 1, s1.heap.objs.size], FpOk X pins H1 b := fun b hb => by
      have e' : b = s1.heap.objs.size + 1 ∨ b = s1.heap.objs.size := by simpa using hb
      have hle : s1.heap.objs.size ≤ b := by
        rcases e' with z | z
        · rw [z]; exact Nat.le_add_right _ _
        · rw [z]; exact Nat.le_refl _
      exact I1.fpOk hle (I1.hok.fresh hle)
    rcases q with ⟨⟨xs, hq⟩, q⟩ | ⟨⟨xs, hq⟩, q⟩
    · obtain ⟨its, rv, p', hz⟩ := I1.list hq
      refine call_enumerate_list p'.isList fun h' he hit hsz hk => wpAny_pyIter_enum he ?_
      have I2 : Inv X pins σ H1 { s1 with heap := h' } := I1.kept (t' := s1.toks) hk
      exact ⟨s1.heap.objs.size + 1, [s1.heap.objs.size + 1, s1.heap.objs.size], _, _, H1, rfl, I2, turn_enum a (s1.heap.objs.size + 1) s1.heap.objs.size, ⟨⟨.none, he⟩, hit, Nat.succ_ne_self _⟩, fp, q⟩
    · obtain ⟨its, rv, p', hz⟩ := I1.tuple hq
      refine PySem.DEnum.begins1 (begins_tuple a its.toArray) p' fun h' he hit hsz hk => wpAny_pyIter_enum he ?_
      have I2 : Inv X pins σ H1 { s1 with heap := h' } := I1.kept (t' := s1.toks) hk
      exact ⟨s1.heap.objs.size + 1, [s1.heap.objs.size + 1, s1.heap.objs.size], _, _, H1, rfl, I2, turn_enumT a (s1.heap.objs.size + 1) s1.heap.objs.size, ⟨⟨.none, he⟩, ⟨_, hit, rfl, rfl⟩, Nat.succ_ne_self _⟩, fp, q⟩
/-- a list, a tuple, a text -/
def iAny (K : PySem.W.Frag) (tl : TE) : TI := fun σ H R => tl σ H fun x H1 => (∃ a, x = .ref a ∧ (∃ xs, SqL K H1 a xs) ∧ R (Itl K a) H1) ∨ (∃ a, x = .ref a ∧ (∃ xs, SqT K H1 a xs) ∧ R (Itt K a) H1) ∨ (∃ z, x = .str z ∧ R (Its z) H1)
theorem pi_any {tg l : Expr} {tl : TE} (hl : PE X l tl) : PI X tg l (iAny X.K tl) := by
  refine ⟨fun pins s σ H R I h => ?_⟩
  refine thn (hl.run pins s σ H _ I h) fun v s1 ⟨x, H1, I1, r1, q1⟩ => ?_
  rcases q1 with ⟨a, e, ⟨xs, hq⟩, q⟩ | ⟨a, e, ⟨xs, hq⟩, q⟩ | ⟨z, e, q⟩
  · subst e
    cases r1
    obtain ⟨its, rv, p, hz⟩ := I1.list hq
    refine wpAny_pyIter_list p.isList ?_
    refine ⟨s1.heap.objs.size, [s1.heap.objs.size], _, _, H1, rfl, I1.kept (t' := s1.toks) fun b o e => Heap.get?_push_of_some _ e, turn_list a _, ⟨_, Heap.get?_push_size _ rfl, rfl, rfl⟩, fun b hb => ?_, q⟩
    have e : b = s1.heap.objs.size := by simpa using hb
    subst e
    exact I1.fpOk (Nat.le_refl _) (I1.hok.fresh (Nat.le_refl _))
  · subst e
    cases r1
    obtain ⟨its, rv, p, hz⟩ := I1.tuple hq
    refine wpAny_pyIter_tuple (show s1.heap.IsTuple a its.toArray from p) ?_
    refine ⟨s1.heap.objs.size, [s1.heap.objs.size], _, _, H1, rfl, I1.kept (t' := s1.toks) fun b o e => Heap.get?_push_of_some _ e, turn_tuple a _, ⟨_, Heap.get?_push_size _ rfl, rfl, rfl⟩, fun b hb => ?_, q⟩
    have e : b = s1.heap.objs.size := by simpa using hb
    subst e
    exact I1.fpOk (Nat.le_refl _) (I1.hok.fresh (Nat.le_refl _))
  · subst e
    obtain ⟨t, rfl⟩ := r1
    cases ha : z.cps.all (· < 128)
    · exact wpAny_pyIter_wide ha (pi_one (tk := s1.toks) I1 _ (turn_str _ z t "str_iterator" (.inr rfl)) ⟨_, Heap.get?_push_size _ rfl, rfl, rfl⟩ q)
    · exact wpAny_pyIter_ascii ha (pi_one (tk := s1.toks) I1 _ (turn_str _ z t "str_ascii_iterator" (.inl rfl)) ⟨_, Heap.get?_push_size _ rfl, rfl, rfl⟩ q)
end
end L2

namespace DE
open PySem L2 PyProof.Rows
/-! ## what is walked -/
/-- the items at once (a tuple, a range, pairs of numbers and items ..), or a list as it stands at each turn -/
inductive Src where
  | snap (xs : List D)
  | cell (n : Nat) (en : Bool)
/-- the i-th item, with its number where it is walked so -/
def itemAt (en : Bool) (i : Nat) (d : D) : D := match en with
  | true => .tup [.int i, d]
  | false => d
abbrev Ew := Env → Store → R Src
/-- the iterator J gives these items, whatever the loop's body does -/
def Gives (K : PySem.W.Frag) (J : It) (φ0 : List Addr) (H0 : Hp) (xs : List D) : Prop :=
  ∀ (φ : List Addr) (H : Hp) (S : Store), Ext K φ0 H0 φ H → Rel K φ H S → ∀ i : Nat, (∀ d, xs[i]? = some d → J.go i H ∧ ∀ v H', J.yld i H v H' → Ext K φ H φ H' ∧ Rel K φ H' S ∧ DR K φ H' d v) ∧ (xs.length ≤ i → J.stop i H)
def GivesS (K : PySem.W.Frag) (J : It) (φ0 : List Addr) (H0 : Hp) : Src → Prop
  | .snap xs => Gives K J φ0 H0 xs
  | .cell n en => ∃ a, φ0[n]? = some a ∧ J = match en with | true => Ite K a | false => Itl K a
/-- the item of a cell's list at a turn -/
theorem cell_turn {K : PySem.W.Frag} {φ : List Addr} {H : Hp} {S : Store} (r : Rel K φ H S) {n : Nat} {a : Addr} {ys : List D} (ha : φ[n]? = some a) (g : S.get n = some (.lst ys)) (en : Bool) (i : Nat) :
    (∀ d, ys[i]? = some d → (match en with | true => Ite K a | false => Itl K a).go i H ∧ ∀ v H', (match en with | true => Ite K a | false => Itl K a).yld i H v H' → Ext K φ H φ H' ∧ Rel K φ H' S ∧ DR K φ H' (itemAt en i d) v) ∧
    (ys[i]? = none → (match en with | true => Ite K a | false => Itl K a).stop i H) := by
  obtain ⟨b, eb, cr⟩ := r.cell n _ g
  rw [ha] at eb; cases eb
  obtain ⟨vs, hH, hd⟩ := cr
  have sq : SqL K H a vs := .of hH
  refine ⟨fun d hd' => ?_, fun hn => ?_⟩
  · obtain ⟨v, hv, dv⟩ := hd.get hd'
    cases en with
    | false =>
      refine ⟨⟨vs, v, sq, hv⟩, fun v' H' ⟨e, y⟩ => ?_⟩
      subst e
      have := y vs sq
      rw [hv] at this; cases this
      exact ⟨.refl, r, dv⟩
    | true =>
      refine ⟨⟨vs, v, sq, hv⟩, fun v' H' ⟨T, y, ev, hT, eH, hy⟩ => ?_⟩
      subst ev eH
      have := hy vs sq
      rw [hv] at this; cases this
      obtain ⟨x2, r2⟩ := r.fresh hT (.tup [.int (i : Nat), v])
      exact ⟨x2, r2, .tup (.inl (.inl upd_same)) (.cons (.int _) (.cons (dv.ext x2) .nil))⟩
  · have hl : vs.length ≤ i := by rw [hd.length]; exact List.getElem?_eq_none_iff.mp hn
    cases en with
    | false => exact ⟨vs, sq, hl⟩
    | true => exact ⟨vs, sq, hl⟩
def TIw (K : PySem.W.Frag) (XR : XRel) (W : WX) (t : Ew) : L2.TI := fun σ H R => ∃ φ S env, Rel K φ H S ∧ EnvR K φ H env σ ∧ Post K XR W σ φ H (t env S) fun φ' H' _ s => ∀ J, GivesS K J φ' H' s → R J H'
abbrev SI (X : Cx) (XR : XRel) (W : WX) (tg e : Expr) (t : Ew) : Prop := PI X tg e (TIw X.K XR W t)
theorem PI.imp {X : Cx} {tg e : Expr} {t t' : L2.TI} (h : PI X tg e t) (i : ∀ σ H Q, t' σ H Q → t σ H Q) : PI X tg e t' := ⟨fun pins s σ H R I q => h.run pins s σ H R I (i σ H R q)⟩
section
variable {K : PySem.W.Frag} {φ : List Addr} {H : Hp}
theorem sqT_inj {φ0 : List Addr} {H0 H' : Hp} {φ' : List Addr} {a : Addr} {vs ws : List V} (x : Ext K φ0 H0 φ' H') (h : SqT K H0 a vs) (i : It) : SqT K H' a vs := x.tup _ _ h
theorem gives_tup {a : Addr} {vs : List V} {ds : List D} (hs : SqT K H a vs) (hd : DRs K φ H ds vs) : Gives K (Itt K a) φ H ds := by
  intro φ1 H1 S x r i
  have hs1 := x.tup _ _ hs
  refine ⟨fun d hd' => ?_, fun hl => ⟨vs, hs1, by rw [hd.length]; exact hl⟩⟩
  obtain ⟨v, hv, dv⟩ := hd.get hd'
  refine ⟨⟨vs, v, hs1, hv⟩, fun v' H' ⟨e, y⟩ => ?_⟩
  subst e
  have := y vs hs1
  rw [hv] at this; cases this
  exact ⟨.refl, r, dv.ext x⟩
theorem gives_fro {a : Addr} {vs : List V} {ds : List D} (hs : FroL K φ H a vs) (hd : DRs K φ H ds vs) : Gives K (Itl K a) φ H ds := by
  intro φ1 H1 S x r i
  have hs1 := (hs.ext x).sql
  refine ⟨fun d hd' => ?_, fun hl => ⟨vs, hs1, by rw [hd.length]; exact hl⟩⟩
  obtain ⟨v, hv, dv⟩ := hd.get hd'
  refine ⟨⟨vs, v, hs1, hv⟩, fun v' H' ⟨e, y⟩ => ?_⟩
  subst e
  have := y vs hs1
  rw [hv] at this; cases this
  exact ⟨.refl, r, dv.ext x⟩
/-- a text's signs -/
def signs (x : List Nat) : List D := x.map fun c => .str [c]
theorem gives_str {x : List Nat} (ok : okS x) : Gives K (Its (mkS x)) φ H (signs x) := by
  intro φ1 H1 S e r i
  have hsz : (mkS x).cps.size = x.length := by simp
  refine ⟨fun d hd' => ?_, fun hl => by show (mkS x).cps.size ≤ i; rw [hsz]; simpa [signs] using hl⟩
  have hi : i < x.length := by
    have := (List.getElem?_eq_some_iff.mp hd').1
    simpa [signs] using this
  refine ⟨by show i < (mkS x).cps.size; rw [hsz]; exact hi, fun v' H' ⟨e, c, hc, ev⟩ => ?_⟩
  subst e ev
  have hc' : x[i]? = some c := by simpa using hc
  have hd2 : d = .str [c] := by
    unfold signs at hd'
    rw [List.getElem?_map, hc'] at hd'
    exact (Option.some.inj hd').symm
  subst hd2
  exact ⟨.refl, r, .str (x := [c]) fun k hk => by rw [List.mem_singleton.mp hk]; exact ok c (List.mem_of_getElem? hc')⟩
def rangeD (lo : Int) : Nat → List D
  | 0 => []
  | n + 1 => .int lo :: rangeD (lo + 1) n
theorem rangeD_get : ∀ {n : Nat} {lo : Int} {i : Nat}, i < n → (rangeD lo n)[i]? = some (.int (lo + i))
  | 0, _, _, h => absurd h (Nat.not_lt_zero _)
  | n + 1, lo, 0, _ => by simp [rangeD]
  | n + 1, lo, i + 1, h => by
    show (rangeD (lo + 1) n)[i]? = _
    rw [rangeD_get (by omega)]
    congr 2; omega
theorem rangeD_len : ∀ {n : Nat} {lo : Int}, (rangeD lo n).length = n
  | 0, _ => rfl
  | n + 1, lo => by show (rangeD (lo + 1) n).length + 1 = _; rw [rangeD_len]
theorem gives_rng {lo : Int} {n : Nat} : Gives K (Itr lo n) φ H (rangeD lo n) := by
  intro φ1 H1 S e r i
  refine ⟨fun d hd' => ?_, fun hl => by show n ≤ i; rw [rangeD_len] at hl; exact hl⟩
  have hi : i < n := by have := (List.getElem?_eq_some_iff.mp hd').1; rwa [rangeD_len] at this
  rw [rangeD_get hi] at hd'
  cases hd'
  exact ⟨hi, fun v' H' ⟨e, ev⟩ => by subst e ev; exact ⟨.refl, r, .int _⟩⟩
/-- lo, lo + c, .. -/
def rangeC (lo c : Int) : Nat → List D
  | 0 => []
  | n + 1 => .int lo :: rangeC (lo + c) c n
theorem rangeC_get {c : Int} : ∀ {n : Nat} {lo : Int} {i : Nat}, i < n → (rangeC lo c n)[i]? = some (.int (lo + (i : Nat) * c))
  | 0, _, _, h => absurd h (Nat.not_lt_zero _)
  | n + 1, lo, 0, _ => by simp [rangeC]
  | n + 1, lo, i + 1, h => by
    show (rangeC (lo + c) c n)[i]? = _
    rw [rangeC_get (by omega)]
    congr 2
    have : ((i + 1 : Nat) : Int) * c = (i : Int) * c + c := by
      have : ((i + 1 : Nat) : Int) = (i : Int) + 1 := by omega
      rw [this, Int.add_mul, Int.one_mul]
    omega
theorem rangeC_len {c : Int} : ∀ {n : Nat} {lo : Int}, (rangeC lo c n).length = n
  | 0, _ => rfl
  | n + 1, lo => by show (rangeC (lo + c) c n).length + 1 = _; rw [rangeC_len]
theorem gives_rngC {lo c : Int} {n : Nat} : Gives K (Itc lo c n) φ H (rangeC lo c n) := by
  intro φ1 H1 S e r i
  refine ⟨fun d hd' => ?_, fun hl => by show n ≤ i; rw [rangeC_len] at hl; exact hl⟩
  have hi : i < n := by have := (List.getElem?_eq_some_iff.mp hd').1; rwa [rangeC_len] at this
  rw [rangeC_get hi] at hd'
  cases hd'
  exact ⟨hi, fun v' H' ⟨e, ev⟩ => by subst e ev; exact ⟨.refl, r, .int _⟩⟩
/-- the items with their numbers -/
def numbered (k : Int) : List D → List D
  | [] => []
  | d :: r => .tup [.int k, d] :: numbered (k + 1) r
theorem numbered_get : ∀ {ds : List D} {k : Int} {i : Nat} {d : D}, ds[i]? = some d → (numbered k ds)[i]? = some (.tup [.int (k + i), d])
  | [], _, _, _, h => by simp at h
  | x :: ds, k, 0, d, h => by simp at h; subst h; simp [numbered]
  | x :: ds, k, i + 1, d, h => by
    show (numbered (k + 1) ds)[i]? = _
    rw [numbered_get (by simpa using h)]
    congr 4; omega
theorem numbered_len : ∀ {ds : List D} {k : Int}, (numbered k ds).length = ds.length
  | [], _ => rfl
  | x :: ds, k => by show (numbered (k + 1) ds).length + 1 = ds.length + 1; rw [numbered_len]
theorem num_item {ds : List D} {i : Nat} {d : D} (h : (numbered 0 ds)[i]? = some d) : ∃ e, ds[i]? = some e ∧ d = .tup [.int i, e] := by
  have hl : i < ds.length := by have := (List.getElem?_eq_some_iff.mp h).1; rwa [numbered_len] at this
  refine ⟨ds[i], List.getElem?_eq_getElem hl, ?_⟩
  rw [numbered_get (List.getElem?_eq_getElem hl)] at h
  rw [← Option.some.inj h]; simp
theorem gives_enT {a : Addr} {vs : List V} {ds : List D} (hs : SqT K H a vs) (hd : DRs K φ H ds vs) : Gives K (Itet K a) φ H (numbered 0 ds) := by
  intro φ1 H1 S x r i
  have hs1 := x.tup _ _ hs
  refine ⟨fun d hd' => ?_, fun hl => ⟨vs, hs1, by rw [hd.length]; rw [numbered_len] at hl; exact hl⟩⟩
  obtain ⟨e, he, rfl⟩ := num_item hd'
  obtain ⟨v, hv, dv⟩ := hd.get he
  refine ⟨⟨vs, v, hs1, hv⟩, fun v' H' ⟨T, y, ev, hT, eH, hy⟩ => ?_⟩
  subst ev eH
  have := hy vs hs1
  rw [hv] at this; cases this
  obtain ⟨x2, r2⟩ := r.fresh hT (.tup [.int (i : Nat), v])
  exact ⟨x2, r2, .tup (.inl (.inl upd_same)) (.cons (.int _) (.cons ((dv.ext x).ext x2) .nil))⟩
/-- a list that nobody may write while it is walked: an anonymous one -/
theorem gives_enF {a : Addr} {vs : List V} {ds : List D} (hs : FroL K φ H a vs) (hd : DRs K φ H ds vs) : Gives K (Ite K a) φ H (numbered 0 ds) := by
  intro φ1 H1 S x r i
  have hs1 := (hs.ext x).sql
  refine ⟨fun d hd' => ?_, fun hl => ⟨vs, hs1, by rw [hd.length]; rw [numbered_len] at hl; exact hl⟩⟩
  obtain ⟨e, he, rfl⟩ := num_item hd'
  obtain ⟨v, hv, dv⟩ := hd.get he
  refine ⟨⟨vs, v, hs1, hv⟩, fun v' H' ⟨T, y, ev, hT, eH, hy⟩ => ?_⟩
  subst ev eH
  have := hy vs hs1
  rw [hv] at this; cases this
  obtain ⟨x2, r2⟩ := r.fresh hT (.tup [.int (i : Nat), v])
  exact ⟨x2, r2, .tup (.inl (.inl upd_same)) (.cons (.int _) (.cons ((dv.ext x).ext x2) .nil))⟩
end
/-! the sources -/
def srcO (d : D) (S : Store) : Option (Src × Store) := match d with
  | .tup xs => some (.snap xs, S)
  | .scr xs => some (.snap xs, S)
  | .str x => some (.snap (signs x), S)
  | .ref n => match S.get n with
    | some (.lst _) => some (.cell n false, S)
    | _ => none
  | _ => none
def walkE (a : Ev) : Ew := fun env S => (a env S).bind fun d S1 => R.of (srcO d S1)
def enO (d : D) (S : Store) : Option (Src × Store) := match d with
  | .tup xs => some (.snap (numbered 0 xs), S)
  | .scr xs => some (.snap (numbered 0 xs), S)
  | .ref n => match S.get n with
    | some (.lst _) => some (.cell n true, S)
    | _ => none
  | _ => none
/-- enumerate(a) over a tuple, a list -/
def enumE (a : Ev) : Ew := fun env S => (a env S).bind fun d S1 => R.of (enO d S1)
def rng1O (a : D) (S : Store) : Option (Src × Store) := match a with
  | .int j => if Nat.blt j.natAbs 4611686018427387904 then some (.snap (rangeD 0 j.toNat), S) else none
  | _ => none
def rng2O (a b : D) (S : Store) : Option (Src × Store) := match a, b with
  | .int i, .int j => if Nat.blt i.natAbs 4611686018427387904 && Nat.blt j.natAbs 4611686018427387904 then some (.snap (rangeD i (j - i).toNat), S) else none
  | _, _ => none
/-- range(a, b, -1) -/
def rng3O (a b c : D) (S : Store) : Option (Src × Store) := match a, b, c with
  | .int i, .int j, .int (.negSucc 0) => if Nat.blt i.natAbs 4611686018427387904 && Nat.blt j.natAbs 4611686018427387904 then some (.snap (rangeC i (-1) (i - j).toNat), S) else none
  | _, _, _ => none
def rngE1 (a : Ev) : Ew := fun env S => (a env S).bind fun x S1 => R.of (rng1O x S1)
def rngE2 (a b : Ev) : Ew := fun env S => (a env S).bind fun x S1 => (b env S1).bind fun y S2 => R.of (rng2O x y S2)
def rngE3 (a b c : Ev) : Ew := fun env S => (a env S).bind fun x S1 => (b env S1).bind fun y S2 => (c env S2).bind fun z S3 => R.of (rng3O x y z S3)
section
variable {X : Cx} {XR : XRel} {W : WX} {tg : Expr} {pos : Pos}
theorem si_walk {e : Expr} {t : Ev} (h : SE X XR W e t) : SI X XR W tg e (walkE t) := by
  refine DE.PI.imp (pi_any h) fun σ H R ⟨φ, S, env, r, e, h⟩ => ?_
  refine ⟨φ, S, env, r, e, (Post.bind h).mono fun φ1 H1 S1 d x1 r1 h1 v dv => ?_⟩
  unfold srcO at h1
  cases dv with
  | tup hs ds => exact .inr (.inl ⟨_, rfl, ⟨_, hs⟩, h1 φ1 H1 .refl r1 _ (gives_tup hs ds)⟩)
  | scr hs ds => exact .inl ⟨_, rfl, ⟨_, hs.sql⟩, h1 φ1 H1 .refl r1 _ (gives_fro hs ds)⟩
  | str ok => exact .inr (.inr ⟨_, rfl, h1 φ1 H1 .refl r1 _ (gives_str ok)⟩)
  | @ref n a hn =>
    simp only at h1
    cases g : S1.get n with
    | none => rw [g] at h1; exact h1.elim
    | some c =>
      cases c with
      | dct _ => rw [g] at h1; exact h1.elim
      | dtt _ => rw [g] at h1; exact h1.elim
      | lst xs =>
        rw [g] at h1
        obtain ⟨b, vs, e2, f2, hH, hd⟩ := cell_lst r1 (.ref hn) g
        cases e2
        exact .inl ⟨a, rfl, ⟨vs, .of hH⟩, h1 φ1 H1 .refl r1 _ ⟨a, hn, rfl⟩⟩
  | _ => exact h1.elim
theorem si_enum {e : Expr} {t : Ev} {p tpos : Pos} {elts : List Expr} {kk : Nat} (h : SE X XR W e t) (hg : Gl X "enumerate") (hm : X.mg "enumerate" = none) (hs : starEach [e] X.env = [(false, eval e X.env)] := by rfl) :
    SI X XR W (.Tuple elts kk tpos) (.Call (.Name "enumerate" p) [e] [] pos) (enumE t) := by
  refine DE.PI.imp (pi_enumA hg hm (pa_cons h pa_nil (by rw [hs]; rfl)) hs) fun σ H R ⟨φ, S, env, r, e, h⟩ => ?_
  refine ⟨φ, S, env, r, e, (Post.bind h).mono fun φ1 H1 S1 d x1 r1 h1 v dv => ?_⟩
  unfold enO at h1
  cases dv with
  | tup hs ds => exact ⟨_, rfl, .inr ⟨⟨_, hs⟩, h1 φ1 H1 .refl r1 _ (gives_enT hs ds)⟩⟩
  | scr hs ds => exact ⟨_, rfl, .inl ⟨⟨_, hs.sql⟩, h1 φ1 H1 .refl r1 _ (gives_enF hs ds)⟩⟩
  | @ref n a hn =>
    simp only at h1
    cases g : S1.get n with
    | none => rw [g] at h1; exact h1.elim
    | some c =>
      cases c with
      | dct _ => rw [g] at h1; exact h1.elim
      | dtt _ => rw [g] at h1; exact h1.elim
      | lst xs =>
        rw [g] at h1
        obtain ⟨b, vs, e2, f2, hH, hd⟩ := cell_lst r1 (.ref hn) g
        cases e2
        exact ⟨a, rfl, .inl ⟨⟨vs, .of hH⟩, h1 φ1 H1 .refl r1 _ ⟨a, hn, rfl⟩⟩⟩
  | _ => exact h1.elim
theorem si_rng1 {a : Expr} {t : Ev} {p : Pos} (ha : SE X XR W a t) (hg : Gl X "range") (hm : X.mg "range" = none) (hs : starEach [a] X.env = [(false, eval a X.env)] := by rfl) : SI X XR W tg (.Call (.Name "range" p) [a] [] pos) (rngE1 t) := by
  refine DE.PI.imp (pi_range1 hg hm (pa_cons ha pa_nil (by rw [hs]; rfl)) hs) fun σ H R ⟨φ, S, env, r, e, h⟩ => ?_
  refine ⟨φ, S, env, r, e, (Post.bind h).mono fun φ1 H1 S1 d x1 r1 h1 v dv => ?_⟩
  unfold rng1O at h1
  split at h1
  · split at h1
    · rename_i j hl
      have hl := Nat.le_of_ble_eq_true hl
      rw [dv.int']
      exact ⟨j, rfl, by omega, by omega, h1 φ1 H1 .refl r1 _ gives_rng⟩
    · exact h1.elim
  · exact h1.elim
theorem si_rng2 {a b : Expr} {ta tb : Ev} {p : Pos} (ha : SE X XR W a ta) (hb : SE X XR W b tb) (hg : Gl X "range") (hm : X.mg "range" = none) (hs : starEach [a, b] X.env = [(false, eval a X.env), (false, eval b X.env)] := by rfl) (hs2 : starEach [b] X.env = [(false, eval b X.env)] := by rfl) :
    SI X XR W tg (.Call (.Name "range" p) [a, b] [] pos) (rngE2 ta tb) := by
  refine DE.PI.imp (pi_range2 hg hm (pa_cons ha (pa_cons hb pa_nil (by rw [hs2]; rfl)) (by rw [hs, hs2])) hs hs2) fun σ H R ⟨φ, S, env, r, e, h⟩ => ?_
  refine ⟨φ, S, env, r, e, (Post.bind h).mono fun φ1 H1 S1 d x1 r1 h1 v dv => ?_⟩
  refine ⟨φ1, S1, env, r1, e.ext x1, (Post.bind h1).mono fun φ2 H2 S2 d2 x2 r2 h2 v2 dv2 => ?_⟩
  unfold rng2O at h2
  split at h2
  · split at h2
    · rename_i i j hl
      obtain ⟨l1, l2⟩ := Bool.and_eq_true_iff.mp hl
      have l1 := Nat.le_of_ble_eq_true l1
      have l2 := Nat.le_of_ble_eq_true l2
      rw [dv.int', dv2.int']
      exact ⟨i, j, rfl, ⟨by omega, by omega, by omega, by omega⟩, h2 φ2 H2 .refl r2 _ gives_rng⟩
    · exact h2.elim
  · exact h2.elim
theorem si_rng3 {a b c : Expr} {ta tb tc : Ev} {p : Pos} (ha : SE X XR W a ta) (hb : SE X XR W b tb) (hc : SE X XR W c tc) (hg : Gl X "range") (hm : X.mg "range" = none) (hs : starEach [a, b, c] X.env = (false, eval a X.env) :: starEach [b, c] X.env := by rfl)
    (hs2 : starEach [b, c] X.env = (false, eval b X.env) :: starEach [c] X.env := by rfl) (hs3 : starEach [c] X.env = (false, eval c X.env) :: starEach [] X.env := by rfl) (hpl : (backTo pos (starEach [b, c] X.env)).any (·.1) = false := by rfl) :
    SI X XR W tg (.Call (.Name "range" p) [a, b, c] [] pos) (rngE3 ta tb tc) := by
  refine DE.PI.imp (pi_range3 hg hm (pa_cons ha (pa_cons hb (pa_cons hc pa_nil hs3) hs2) hs) hs hpl) fun σ H R ⟨φ, S, env, r, e, h⟩ => ?_
  refine ⟨φ, S, env, r, e, (Post.bind h).mono fun φ1 H1 S1 d x1 r1 h1 v dv => ?_⟩
  refine ⟨φ1, S1, env, r1, e.ext x1, (Post.bind h1).mono fun φ2 H2 S2 d2 x2 r2 h2 v2 dv2 => ?_⟩
  refine ⟨φ2, S2, env, r2, (e.ext x1).ext x2, (Post.bind h2).mono fun φ3 H3 S3 d3 x3 r3 h3 v3 dv3 => ?_⟩
  unfold rng3O at h3
  split at h3
  · split at h3
    · rename_i i j hl
      obtain ⟨l1, l2⟩ := Bool.and_eq_true_iff.mp hl
      have l1 := Nat.le_of_ble_eq_true l1
      have l2 := Nat.le_of_ble_eq_true l2
      rw [dv.int', dv2.int', dv3.int']
      exact ⟨i, j, -1, _, rfl, .neg (by omega) (by omega) (by omega) (by omega), h3 φ3 H3 .refl r3 _ gives_rngC⟩
    · exact h3.elim
  · exact h3.elim
end
/-! ## for -/
def forL (p : Pat) (body : Sm) : List D → Sm
  | [] => fun env S => .nx env S
  | d :: r => fun env S => match flatP p d with
    | some l => match body (setL env l) S with
      | .nx env2 S2 => forL p body r env2 S2
      | .ct env2 S2 => forL p body r env2 S2
      | .bk env2 S2 => .nx env2 S2
      | .rt d S2 => .rt d S2
      | .ex x env2 S2 => .ex x env2 S2
      | .bad => .bad
    | none => .bad
/-- over the cell n, from the i-th item on, at most m turns more -/
def forC (p : Pat) (body : Sm) (n : Nat) (en : Bool) : Nat → Nat → Sm
  | 0, _ => fun _ _ => .bad
  | m + 1, i => fun env S => match S.get n with
    | some (.lst ys) => match ys[i]? with
      | some d => match flatP p (itemAt en i d) with
        | some l => match body (setL env l) S with
          | .nx env2 S2 => forC p body n en m (i + 1) env2 S2
          | .ct env2 S2 => forC p body n en m (i + 1) env2 S2
          | .bk env2 S2 => .nx env2 S2
          | .rt d S2 => .rt d S2
          | .ex x env2 S2 => .ex x env2 S2
          | .bad => .bad
        | none => .bad
      | none => .nx env S
    | _ => .bad
def forS (s : Ew) (p : Pat) (body : Sm) : Sm := fun env S => .of (s env S) env fun x S1 => match x with
  | .snap xs => forL p body xs env S1
  | .cell n en => match S1.get n with
    | some (.lst ys) => forC p body n en (ys.length + 1) 0 env S1
    | _ => .bad
section
variable {X : Cx} {XR : XRel} {W : WX} {pos : Pos}
theorem ss_for {tg iter : Expr} {body : List Stmt} {s : Ew} {p : Pat} {tb : Sm} (hp : PassesOwn (model X.prog X.w) X.A X.env X.xe) (hc : X.calm = true) (hi : SI X XR W tg iter s) (hg : PG X tg (TGp X.K p)) (hb : SSs X XR W body tb)
    (hs : ∀ x, foldedSetIterable iter X.env x = pure x := by intro _; rfl) : SS X XR W (.For tg iter body [] pos) (forS s p tb) := by
  refine PS.imp (ps_for hp hc hi hg hb hs) fun D σ H ⟨φ, S, env, r, e, h⟩ => ?_
  refine ⟨φ, S, env, r, e, (PostS.of e h).mono fun φ0 H0 S0 x x0 r0 h0 J hJ => ?_⟩
  have e0 := e.ext x0
  cases x with
  | snap xs =>
    have hJ : Gives X.K J φ0 H0 xs := hJ
    refine ⟨fun i m σ1 H1 => ∃ φ1 S1 env1, m = xs.length - i ∧ i ≤ xs.length ∧ Ext X.K φ0 H0 φ1 H1 ∧ Rel X.K φ1 H1 S1 ∧ EnvR X.K φ1 H1 env1 σ1 ∧ PostS X.K XR W φ1 H1 (forL p tb (xs.drop i) env1 S1) D,
      ⟨_, φ0, S0, env, rfl, Nat.zero_le _, .refl, r0, e0, h0⟩, ?_⟩
    rintro i m σ1 H1 ⟨φ1, S1, env1, rfl, hi, x1, r1, e1, h1⟩
    obtain ⟨g1, g2⟩ := hJ φ1 H1 S1 x1 r1 i
    by_cases hlt : i < xs.length
    · obtain ⟨hgo, hy⟩ := g1 xs[i] (List.getElem?_eq_getElem hlt)
      refine .inr ⟨hgo, fun σ2 H2 => ∃ φ2 S2 env2, Ext X.K φ0 H0 φ2 H2 ∧ Rel X.K φ2 H2 S2 ∧ EnvR X.K φ2 H2 env2 σ2 ∧ PostS X.K XR W φ2 H2 (forL p tb (xs.drop (i + 1)) env2 S2) D,
        fun σ2 H2 ⟨φ2, S2, env2, x2, r2, e2, h2⟩ => ⟨xs.length - (i + 1), by omega, φ2, S2, env2, rfl, hlt, x2, r2, e2, h2⟩, fun v H2 y => ?_⟩
      obtain ⟨x2, r2, dv⟩ := hy v H2 y
      rw [List.drop_eq_getElem_cons hlt] at h1
      have h1 := PostS.ext x2 h1
      unfold forL at h1
      cases q : flatP p xs[i] with
      | none => rw [q] at h1; exact h1.elim
      | some l =>
        rw [q] at h1
        refine ⟨φ1, xs[i], l, dv, q, fun vs dvs => ⟨φ1, S1, _, r2, (e1.ext x2).setL dvs, ?_⟩⟩
        simp only at h1
        cases qb : tb (setL env1 l) S1 with
        | nx env3 S3 => rw [qb] at h1; exact fun φ' H' σ' x' r' e' => ⟨φ', S3, env3, (x1.trans x2).trans x', r', e', PostS.ext x' h1⟩
        | ct env3 S3 => rw [qb] at h1; exact fun φ' H' σ' x' r' e' => ⟨φ', S3, env3, (x1.trans x2).trans x', r', e', PostS.ext x' h1⟩
        | bk env3 S3 => rw [qb] at h1; exact h1
        | rt d S3 => rw [qb] at h1; exact h1
        | ex z env3 S3 => rw [qb] at h1; exact h1
        | bad => rw [qb] at h1; exact h1
    · have ei : i = xs.length := by omega
      subst ei
      rw [List.drop_length] at h1
      exact .inl ⟨g2 (Nat.le_refl _), h1 φ1 H1 σ1 .refl r1 e1⟩
  | cell n en =>
    obtain ⟨a, ha, rfl⟩ := hJ
    simp only at h0
    cases g0 : S0.get n with
    | none => rw [g0] at h0; exact h0.elim
    | some c =>
      cases c with
      | dct _ => rw [g0] at h0; exact h0.elim
      | dtt _ => rw [g0] at h0; exact h0.elim
      | lst ys0 =>
        rw [g0] at h0
        refine ⟨fun i m σ1 H1 => ∃ φ1 S1 env1, Ext X.K φ0 H0 φ1 H1 ∧ Rel X.K φ1 H1 S1 ∧ EnvR X.K φ1 H1 env1 σ1 ∧ PostS X.K XR W φ1 H1 (forC p tb n en m i env1 S1) D,
          ⟨_, φ0, S0, env, .refl, r0, e0, h0⟩, ?_⟩
        rintro i m σ1 H1 ⟨φ1, S1, env1, x1, r1, e1, h1⟩
        have ha1 : φ1[n]? = some a := by
          obtain ⟨l, el⟩ := x1.pre
          rw [el, List.getElem?_append_left (List.getElem?_eq_some_iff.mp ha).1]; exact ha
        cases m with
        | zero => exact h1.elim
        | succ m =>
          unfold forC at h1
          cases g : S1.get n with
          | none => rw [g] at h1; exact h1.elim
          | some c =>
            cases c with
            | dct _ => rw [g] at h1; exact h1.elim
            | dtt _ => rw [g] at h1; exact h1.elim
            | lst ys =>
              rw [g] at h1
              simp only at h1
              obtain ⟨t1, t2⟩ := cell_turn r1 ha1 g en i
              cases gi : ys[i]? with
              | none =>
                rw [gi] at h1
                exact .inl ⟨t2 gi, h1 φ1 H1 σ1 .refl r1 e1⟩
              | some d =>
                rw [gi] at h1
                simp only at h1
                obtain ⟨hgo, hy⟩ := t1 d gi
                refine .inr ⟨hgo, fun σ2 H2 => ∃ φ2 S2 env2, Ext X.K φ0 H0 φ2 H2 ∧ Rel X.K φ2 H2 S2 ∧ EnvR X.K φ2 H2 env2 σ2 ∧ PostS X.K XR W φ2 H2 (forC p tb n en m (i + 1) env2 S2) D,
                  fun σ2 H2 ⟨φ2, S2, env2, x2, r2, e2, h2⟩ => ⟨m, Nat.lt_succ_self _, φ2, S2, env2, x2, r2, e2, h2⟩, fun v' H2 y => ?_⟩
                obtain ⟨x2, r2, dv⟩ := hy v' H2 y
                have h1 := PostS.ext x2 h1
                cases q : flatP p (itemAt en i d) with
                | none => rw [q] at h1; exact h1.elim
                | some l =>
                  rw [q] at h1
                  refine ⟨φ1, _, l, dv, q, fun vs dvs => ⟨φ1, S1, _, r2, (e1.ext x2).setL dvs, ?_⟩⟩
                  simp only at h1
                  cases qb : tb (setL env1 l) S1 with
                  | nx env3 S3 => rw [qb] at h1; exact fun φ' H' σ' x' r' e' => ⟨φ', S3, env3, (x1.trans x2).trans x', r', e', PostS.ext x' h1⟩
                  | ct env3 S3 => rw [qb] at h1; exact fun φ' H' σ' x' r' e' => ⟨φ', S3, env3, (x1.trans x2).trans x', r', e', PostS.ext x' h1⟩
                  | bk env3 S3 => rw [qb] at h1; exact h1
                  | rt d S3 => rw [qb] at h1; exact h1
                  | ex z env3 S3 => rw [qb] at h1; exact h1
                  | bad => rw [qb] at h1; exact h1
end
/-! ## while -/
/-- at most m turns -/
def whileS (c : Et) (body : Sm) : Nat → Sm
  | 0 => fun _ _ => .bad
  | m + 1 => fun env S => .of (c env S) env fun k S1 => match k with
    | true => match body env S1 with
      | .nx env2 S2 => whileS c body m env2 S2
      | .ct env2 S2 => whileS c body m env2 S2
      | .bk env2 S2 => .nx env2 S2
      | .rt d S2 => .rt d S2
      | .ex x env2 S2 => .ex x env2 S2
      | .bad => .bad
    | false => .nx env S1
section
variable {X : Cx} {XR : XRel} {W : WX} {pos : Pos}
theorem ss_while {c : Expr} {body : List Stmt} {tc : Et} {tb : Sm} {n : Nat} (hp : PassesOwn (model X.prog X.w) X.A X.env X.xe) (hc : ST X XR W c tc) (hb : SSs X XR W body tb) : SS X XR W (.While c body [] pos) (whileS tc tb n) := by
  refine PS.imp (ps_while hp hc hb) fun D σ H ⟨φ, S, env, r, e, h⟩ => ?_
  refine ⟨fun m σ1 H1 => ∃ φ1 S1 env1, Rel X.K φ1 H1 S1 ∧ EnvR X.K φ1 H1 env1 σ1 ∧ PostS X.K XR W φ1 H1 (whileS tc tb m env1 S1) D, ⟨n, φ, S, env, r, e, h⟩, ?_⟩
  rintro m σ1 H1 ⟨φ1, S1, env1, r1, e1, h1⟩
  cases m with
  | zero => exact h1.elim
  | succ m =>
    unfold whileS at h1
    refine ⟨φ1, S1, env1, r1, e1, (PostS.of e1 h1).mono fun φ2 H2 S2 k x2 r2 h2 => ?_⟩
    cases k with
    | true =>
      rw [if_pos rfl]
      refine ⟨fun σ3 H3 => ∃ φ3 S3 env3, Rel X.K φ3 H3 S3 ∧ EnvR X.K φ3 H3 env3 σ3 ∧ PostS X.K XR W φ3 H3 (whileS tc tb m env3 S3) D,
        fun σ3 H3 ⟨φ3, S3, env3, r3, e3, h3⟩ => ⟨m, Nat.lt_succ_self _, φ3, S3, env3, r3, e3, h3⟩, φ2, S2, env1, r2, e1.ext x2, ?_⟩
      simp only at h2
      cases qb : tb env1 S2 with
      | nx env3 S3 => rw [qb] at h2; exact fun φ' H' σ' x' r' e' => ⟨φ', S3, env3, r', e', PostS.ext x' h2⟩
      | ct env3 S3 => rw [qb] at h2; exact fun φ' H' σ' x' r' e' => ⟨φ', S3, env3, r', e', PostS.ext x' h2⟩
      | bk env3 S3 => rw [qb] at h2; exact h2
      | rt d S3 => rw [qb] at h2; exact h2
      | ex z env3 S3 => rw [qb] at h2; exact h2
      | bad => rw [qb] at h2; exact h2
    | false =>
      rw [if_neg Bool.false_ne_true]
      exact h2 φ2 H2 σ1 .refl r2 (e1.ext x2)
end
end DE

namespace DE
open PySem L2 PyProof.Rows
/-! ## list comprehensions -/
def yesE : Et := fun _ S => .ok true S
def wipeE (env : Env) : List Nat → Env
  | [] => env
  | v :: vs => (wipeE env vs).set v none
/-- one item more, and what comes of the rest -/
def consR (y : D) (r : R (List D)) : R (List D) := match r with
  | .ok ys S => .ok (y :: ys) S
  | _ => .bad
def compL (p : Pat) (c : Et) (elt : Ev) (env : Env) : List D → Store → R (List D)
  | [], S => .ok [] S
  | d :: r, S => match flatP p d with
    | some l => match c (setL env l) S with
      | .ok true S1 => match elt (setL env l) S1 with
        | .ok y S2 => consR y (compL p c elt env r S2)
        | _ => .bad
      | .ok false S1 => compL p c elt env r S1
      | _ => .bad
    | none => .bad
def compC (p : Pat) (c : Et) (elt : Ev) (env : Env) (n : Nat) (en : Bool) : Nat → Nat → Store → R (List D)
  | 0, _, _ => .bad
  | m + 1, i, S => match S.get n with
    | some (.lst zs) => match zs[i]? with
      | some d => match flatP p (itemAt en i d) with
        | some l => match c (setL env l) S with
          | .ok true S1 => match elt (setL env l) S1 with
            | .ok y S2 => consR y (compC p c elt env n en m (i + 1) S2)
            | _ => .bad
          | .ok false S1 => compC p c elt env n en m (i + 1) S1
          | _ => .bad
        | none => .bad
      | none => .ok [] S
    | _ => .bad
def lcR (r : R (List D)) : R D := match r with
  | .ok ys S => if Nat.ble ys.length line then .ok (.ref S.n) (S.add (.lst ys)) else .bad
  | _ => .bad
def lcE (s : Ew) (p : Pat) (c : Et) (elt : Ev) (vs : List Nat) : Ev := fun env S => (s env S).bind fun x S1 => match x with
  | .snap xs => lcR (compL p c elt (wipeE env vs) xs S1)
  | .cell n en => match S1.get n with
    | some (.lst ys) => lcR (compC p c elt (wipeE env vs) n en (ys.length + 1) 0 S1)
    | _ => .bad
mutual
def Pat.slots : Pat → List Nat
  | .nm i => [i]
  | .tp ps => Pats.slots ps
def Pats.slots : Pats → List Nat
  | .nil => []
  | .cons p ps => Pat.slots p ++ Pats.slots ps
end
section
variable {K : PySem.W.Frag} {φ : List Addr} {H : Hp}
theorem wipe_env {env : Env} {σ : L2.St} (e : EnvR K φ H env σ) : ∀ vs, EnvR K φ H (wipeE env vs) (wipe σ vs)
  | [] => e
  | v :: vs => (wipe_env e vs).clear v
/-- the block's names set and forgotten again -/
theorem wipe_setV : ∀ {is : List Nat} {σ : L2.St} {xs : List V} {vs : List Nat}, (∀ i ∈ is, i ∈ vs) → wipe (setV σ is xs) vs = wipe σ vs
  | [], _, _, _, _ => by unfold setV; rfl
  | _ :: _, _, [], _, _ => by unfold setV; rfl
  | i :: is, σ, x :: xs, vs, h => by
    show wipe (setV (σ.set i (some x)) is xs) vs = _
    rw [wipe_setV fun j hj => h j (List.mem_cons_of_mem _ hj)]
    have hi := h i (List.mem_cons_self ..)
    clear h
    induction vs with
    | nil => cases hi
    | cons v vs ih =>
      unfold wipe
      by_cases hv : v = i
      · subst hv
        have : ∀ (ws : List Nat) (τ : L2.St), (wipe (τ.set v (some x)) ws).set v none = (wipe τ ws).set v none := by
          intro ws
          induction ws with
          | nil => intro τ; show (τ.set v (some x)).set v none = _; rw [List.set_set]; rfl
          | cons w ws ihw =>
            intro τ
            unfold wipe
            by_cases hw : w = v
            · subst hw; rw [List.set_set, List.set_set]; exact ihw τ
            · rw [List.set_comm _ _ hw, ihw, List.set_comm _ _ (Ne.symm hw)]
        exact this vs σ
      · have : i ∈ vs := by
          rcases List.mem_cons.mp hi with z | z
          · exact absurd z.symm hv
          · exact z
        rw [ih this]
theorem wipe_wipe : ∀ (vs : List Nat) (σ : L2.St), wipe (wipe σ vs) vs = wipe σ vs := by
  have key : ∀ (ws vs : List Nat) (σ : L2.St), (∀ w ∈ ws, w ∈ vs) → wipe (wipe σ ws) vs = wipe σ vs := by
    intro ws
    induction ws with
    | nil => intro vs σ _; rfl
    | cons w ws ih =>
      intro vs σ h
      have hw := h w (List.mem_cons_self ..)
      show wipe ((wipe σ ws).set w none) vs = _
      rw [← ih vs σ fun z hz => h z (List.mem_cons_of_mem _ hz)]
      have : ∀ (vs : List Nat) (τ : L2.St), w ∈ vs → wipe (τ.set w none) vs = wipe τ vs := by
        intro vs
        induction vs with
        | nil => intro τ h; cases h
        | cons v vs ihv =>
          intro τ h
          unfold wipe
          by_cases hv : v = w
          · subst hv
            have k : ∀ (us : List Nat) (τ : L2.St), (wipe (τ.set v none) us).set v none = (wipe τ us).set v none := by
              intro us
              induction us with
              | nil => intro τ; show (τ.set v none).set v none = _; rw [List.set_set]; rfl
              | cons u us ihu =>
                intro τ
                unfold wipe
                by_cases hu : u = v
                · subst hu; rw [List.set_set, List.set_set]; exact ihu τ
                · rw [List.set_comm _ _ hu, ihu, List.set_comm _ _ (Ne.symm hu)]
            exact k vs τ
          · have : w ∈ vs := by
              rcases List.mem_cons.mp h with z | z
              · exact absurd z.symm hv
              · exact z
            rw [ihv τ this]
      exact this vs _ hw
  exact fun vs σ => key vs vs σ fun _ h => h
mutual
theorem flatP_slots : ∀ {p : Pat} {d : D} {l : List (Nat × D)}, flatP p d = some l → l.map (·.1) = p.slots
  | .nm i, d, l, h => by
    have e' : some [(i, d)] = some l := by rw [← h]; unfold flatP; rfl
    cases e'; unfold Pat.slots; rfl
  | .tp ps, .tup ds, l, h => by
    have e' : flatPs ps ds = some l := by rw [← h]; unfold flatP; rfl
    rw [flatPs_slots e']; unfold Pat.slots; rfl
  | .tp _, .non, _, h => by unfold flatP at h; cases h
  | .tp _, .bl _, _, h => by unfold flatP at h; cases h
  | .tp _, .int _, _, h => by unfold flatP at h; cases h
  | .tp _, .str _, _, h => by unfold flatP at h; cases h
  | .tp _, .ref _, _, h => by unfold flatP at h; cases h
  | .tp _, .scr _, _, h => by unfold flatP at h; cases h
theorem flatPs_slots : ∀ {ps : Pats} {ds : List D} {l : List (Nat × D)}, flatPs ps ds = some l → l.map (·.1) = Pats.slots ps
  | .nil, [], _, h => by
    unfold flatPs at h; cases h; unfold Pats.slots; rfl
  | .nil, _ :: _, _, h => by unfold flatPs at h; cases h
  | .cons _ _, [], _, h => by unfold flatPs at h; cases h
  | .cons p ps, d :: ds, l, h => by
    unfold flatPs at h
    cases q1 : flatP p d with
    | none => rw [q1] at h; cases h
    | some l1 =>
      cases q2 : flatPs ps ds with
      | none => rw [q1, q2] at h; cases h
      | some l2 =>
        rw [q1, q2] at h; cases h
        rw [List.map_append, flatP_slots q1, flatPs_slots q2]; conv => rhs; unfold Pats.slots
end
end
/-- no wish: nothing is raised in a comprehension's block -/
abbrev W0 : WX := fun _ _ _ _ => False
section
variable {X : Cx} {XR : XRel} {W : WX} {pos : Pos}
/-- the turns of a comprehension: what is made so far lies at D -/
theorem lc_turn {tg : Expr} {p : Pat} {tc : Et} {te : Ev} {vs : List Nat} {K : PySem.W.Frag} {σ : L2.St} {env : Env} (hsl : ∀ i ∈ p.slots, i ∈ vs) {φ0 : List Addr} {H0 : Hp} {D : Addr} {Q : VK} (hD : H0 D = none)
    {φ : List Addr} {H : Hp} {S : Store} {acc : List DE.D} {ws : List V} (x : Ext K φ0 H0 φ H) (r : Rel K φ H S) (hn : D ∉ φ) (hH : H D = some (.lst ws)) (hd : DRs K φ H acc ws) (e : EnvR K φ H (wipeE env vs) (wipe σ vs)) {d : DE.D} {v : V} (dv : DR K φ H d v) {l : List (Nat × DE.D)} (hl : flatP p d = some l)
    {rest : Store → R (List DE.D)} (Nx : Hp → Prop) {Fin : R (List DE.D) → Prop}
    (hfin : Fin (match tc (setL (wipeE env vs) l) S with
      | .ok true S1 => match te (setL (wipeE env vs) l) S1 with
        | .ok y S2 => consR y (rest S2)
        | _ => .bad
      | .ok false S1 => rest S1
      | _ => .bad)) (hbad : ¬ Fin .bad) (hcons : ∀ y r, Fin (consR y r) → ∃ ys S', r = .ok ys S')
    (hlen : ∀ y ys S', Fin (.ok (y :: ys) S') → acc.length + 1 ≤ line)
    (hnx : ∀ φ' H' S' acc' ws', Ext K φ0 H0 φ' H' → Rel K φ' H' S' → D ∉ φ' → H' D = some (.lst ws') → DRs K φ' H' acc' ws' → EnvR K φ' H' (wipeE env vs) (wipe σ vs) → ((acc' = acc ∧ Fin (rest S')) ∨ ∃ y, acc' = acc ++ [y] ∧ Fin (consR y (rest S'))) → Nx H') :
    TGp K p v (wipe σ vs) H fun σ2 H2 => wipe σ2 vs = wipe σ vs ∧ TIt K XR W0 tc σ2 H2 fun b H3 =>
      if b = true then TI K XR W0 te σ2 H3 fun y H4 => ∃ acc, H4 D = some (.lst acc) ∧ acc.length < sizeLine ∧ Nx (upd H4 D (.lst (acc ++ [y]))) else Nx H3 := by
  refine ⟨φ, d, l, dv, hl, fun vs1 d1 => ⟨?_, ?_⟩⟩
  · rw [wipe_setV (by rw [flatP_slots hl]; exact hsl), wipe_wipe]
  have e1 := e.setL d1
  refine ⟨φ, S, _, r, e1, ?_⟩
  have keepD : ∀ {φ' H'}, Ext K φ H φ' H' → H' D = some (.lst ws) ∧ D ∉ φ' := fun {φ' H'} y => ⟨y.keep D _ hH hn, fun z => by
    have := y.new D z hn
    rw [hH] at this; cases this⟩
  cases qc : tc (setL (wipeE env vs) l) S with
  | bad => rw [qc] at hfin; exact absurd hfin hbad
  | ex z S1 => rw [qc] at hfin; exact absurd hfin hbad
  | ok b S1 =>
    rw [qc] at hfin
    intro φ3 H3 x3 r3
    obtain ⟨k3, n3⟩ := keepD x3
    cases b with
    | false =>
      rw [if_neg Bool.false_ne_true]
      exact hnx φ3 H3 S1 acc ws (x.trans x3) r3 n3 k3 (hd.ext x3) (e.ext x3) (.inl ⟨rfl, hfin⟩)
    | true =>
      rw [if_pos rfl]
      refine ⟨φ3, S1, _, r3, e1.ext x3, ?_⟩
      simp only at hfin
      cases qe : te (setL (wipeE env vs) l) S1 with
      | bad => rw [qe] at hfin; exact absurd hfin hbad
      | ex z S2 => rw [qe] at hfin; exact absurd hfin hbad
      | ok y S2 =>
        rw [qe] at hfin
        intro φ4 H4 x4 r4 w dw
        have x34 := x3.trans x4
        obtain ⟨k4, n4⟩ := keepD x34
        obtain ⟨ys, S', er⟩ := hcons y _ hfin
        have hle : acc.length + 1 ≤ line := by
          refine hlen y ys S' ?_
          have hfin' : Fin (consR y (rest S2)) := hfin
          rw [er] at hfin'
          exact hfin'
        refine ⟨ws, k4, by rw [hd.length, ← line_eq]; omega, ?_⟩
        have hr := r4.anon (o := .lst (ws ++ [w])) k4 n4
        have xx : Ext K φ0 H0 φ4 (upd H4 D (.lst (ws ++ [w]))) := by
          have x04 := x.trans x34
          refine ⟨x04.pre, fun b o hb nb => ?_, x04.new, fun a zs hz => SqT.upd_ne (fun _ z => by rw [k4] at z; cases z) (fun _ _ z => by rw [k4] at z; cases z) (x04.tup a zs hz)⟩
          rw [upd_ne (fun z => by rw [z, hD] at hb; cases hb)]
          exact x04.keep b o hb nb
        have e4 : EnvR K φ4 (upd H4 D (.lst (ws ++ [w]))) (wipeE env vs) (wipe σ vs) := by
          have := e.ext x34
          exact ⟨this.len, fun i d h => let ⟨v, h1, h2⟩ := this.at' i d h; ⟨v, h1, h2.anon k4⟩⟩
        exact hnx φ4 _ S2 (acc ++ [y]) (ws ++ [w]) xx hr n4 upd_same ((hd.ext x34).anon k4 |>.append (.cons (dw.anon k4) .nil)) e4 (.inr ⟨y, rfl, hfin⟩)
/-- what is asked of the items that are still to come -/
def LFin (K : PySem.W.Frag) (φ0 : List Addr) (H0 : Hp) (D : Addr) (Q : VK) (acc : List DE.D) (r : R (List DE.D)) : Prop := match r with
  | .ok ys S' => acc.length + ys.length ≤ line ∧ ∀ φ' H' ws', Ext K φ0 H0 φ' H' → Rel K φ' H' S' → D ∉ φ' → H' D = some (.lst ws') → DRs K φ' H' (acc ++ ys) ws' → Q (.ref D) H'
  | _ => False
theorem lfin_cons {K : PySem.W.Frag} {φ0 : List Addr} {H0 : Hp} {D : Addr} {Q : VK} {acc : List DE.D} {y : DE.D} {r : R (List DE.D)} (h : LFin K φ0 H0 D Q acc (consR y r)) : LFin K φ0 H0 D Q (acc ++ [y]) r := by
  cases r with
  | ok ys S =>
    obtain ⟨h1, h2⟩ := h
    refine ⟨by simp at h1 ⊢; omega, ?_⟩
    rw [List.append_assoc]; exact h2
  | ex _ _ => exact h
  | bad => exact h
theorem lcR_fin {K : PySem.W.Frag} {φ0 : List Addr} {H0 : Hp} {D : Addr} {Q : VK} {σ : L2.St} {r : R (List DE.D)} (hD : H0 D = none) (h : Post K XR W σ φ0 H0 (lcR r) fun φ' H' _ d => ∀ v, DR K φ' H' d v → Q v H') : LFin K φ0 H0 D Q [] r := by
  cases r with
  | ok ys S =>
    unfold lcR at h
    simp only at h
    split at h
    · rename_i hl
      refine ⟨by simpa using Nat.le_of_ble_eq_true hl, fun φ' H' ws' x r hn hH hd => ?_⟩
      obtain ⟨r2, x2⟩ := r.adopt hH hn hd
      refine h _ _ (x2 φ0 H0 x hD) r2 _ (.ref ?_)
      rw [← r.len, List.getElem?_append_right (Nat.le_refl _)]; simp
    · exact h.elim
  | ex _ _ => exact h.elim
  | bad => exact h.elim
theorem ti_lc {tg : Expr} {s : Ew} {p : Pat} {tc : Et} {te : Ev} {vs : List Nat} (hsl : ∀ i ∈ p.slots, i ∈ vs) {σ : L2.St} {H : Hp} {Q : VK} (h : TI X.K XR W (lcE s p tc te vs) σ H Q) :
    tLc (TIw X.K XR W s) (TGp X.K p) (TIt X.K XR W0 tc) (TI X.K XR W0 te) vs σ H Q := by
  obtain ⟨φ, S, env, r, e, h⟩ := h
  refine ⟨φ, S, env, r, e, (Post.bind h).mono fun φ0 H0 S0 x x0 r0 h0 J hJ D hD => ?_⟩
  have e0 : EnvR X.K φ0 H0 env σ := e.ext x0
  have hDφ : D ∉ φ0 := r0.free hD
  obtain ⟨xD, rD⟩ := r0.fresh hD (.lst [])
  have eD := wipe_env (e0.ext xD) vs
  cases x with
  | snap xs =>
    have hJ : Gives X.K J φ0 H0 xs := hJ
    have hf : LFin X.K φ0 H0 D Q [] (compL p tc te (wipeE env vs) xs S0) := lcR_fin hD h0
    refine ⟨fun i m H1 => ∃ φ1 S1 acc ws, m = xs.length - i ∧ i ≤ xs.length ∧ Ext X.K φ0 H0 φ1 H1 ∧ Rel X.K φ1 H1 S1 ∧ D ∉ φ1 ∧ H1 D = some (.lst ws) ∧ DRs X.K φ1 H1 acc ws ∧ EnvR X.K φ1 H1 (wipeE env vs) (wipe σ vs) ∧
      LFin X.K φ0 H0 D Q acc (compL p tc te (wipeE env vs) (xs.drop i) S1), ⟨_, φ0, S0, [], [], rfl, Nat.zero_le _, xD, rD, hDφ, upd_same, .nil, eD, hf⟩, ?_⟩
    rintro i m H1 ⟨φ1, S1, acc, ws, rfl, hi, x1, r1, n1, hH, hd, e1, h1⟩
    obtain ⟨g1, g2⟩ := hJ φ1 H1 S1 x1 r1 i
    by_cases hlt : i < xs.length
    · obtain ⟨hgo, hy⟩ := g1 xs[i] (List.getElem?_eq_getElem hlt)
      refine .inr ⟨hgo, fun H2 => ∃ φ1 S1 acc ws, Ext X.K φ0 H0 φ1 H2 ∧ Rel X.K φ1 H2 S1 ∧ D ∉ φ1 ∧ H2 D = some (.lst ws) ∧ DRs X.K φ1 H2 acc ws ∧ EnvR X.K φ1 H2 (wipeE env vs) (wipe σ vs) ∧
        LFin X.K φ0 H0 D Q acc (compL p tc te (wipeE env vs) (xs.drop (i + 1)) S1), fun H2 ⟨φ2, S2, acc2, ws2, a1, a2, a3, a4, a5, a6, a7⟩ => ⟨xs.length - (i + 1), by omega, φ2, S2, acc2, ws2, rfl, hlt, a1, a2, a3, a4, a5, a6, a7⟩, fun v H2 y => ?_⟩
      obtain ⟨x2, r2, dv⟩ := hy v H2 y
      have k2 : H2 D = some (.lst ws) := x2.keep D _ hH n1
      rw [List.drop_eq_getElem_cons hlt] at h1
      unfold compL at h1
      cases q : flatP p xs[i] with
      | none => rw [q] at h1; exact h1.elim
      | some l =>
        rw [q] at h1
        refine lc_turn (tg := tg) (XR := XR) hsl hD (x1.trans x2) r2 n1 k2 (hd.ext x2) (e1.ext x2) dv q (rest := fun S => compL p tc te (wipeE env vs) (xs.drop (i + 1)) S) _ (Fin := LFin X.K φ0 H0 D Q acc) (Q := Q) h1 (fun z => z) (fun y r z => ?_) (fun y ys S' z => ?_) fun φ' H' S' acc' ws' a1 a2 a3 a4 a5 a6 a7 => ⟨φ', S', acc', ws', a1, a2, a3, a4, a5, a6, ?_⟩
        · cases r with
          | ok ys S => exact ⟨ys, S, rfl⟩
          | ex _ _ => exact z.elim
          | bad => exact z.elim
        · have := z.1; simp at this; omega
        · rcases a7 with ⟨rfl, a7⟩ | ⟨y, rfl, a7⟩
          · exact a7
          · exact lfin_cons a7
    · have ei : i = xs.length := by omega
      subst ei
      rw [List.drop_length] at h1
      exact .inl ⟨g2 (Nat.le_refl _), h1.2 φ1 H1 ws x1 r1 n1 hH (by rw [List.append_nil]; exact hd)⟩
  | cell n en =>
    obtain ⟨a, ha, rfl⟩ := hJ
    simp only at h0
    cases g0 : S0.get n with
    | none => rw [g0] at h0; exact h0.elim
    | some c =>
      cases c with
      | dct _ => rw [g0] at h0; exact h0.elim
      | dtt _ => rw [g0] at h0; exact h0.elim
      | lst ys0 =>
        rw [g0] at h0
        have hf : LFin X.K φ0 H0 D Q [] (compC p tc te (wipeE env vs) n en (ys0.length + 1) 0 S0) := lcR_fin hD h0
        refine ⟨fun i m H1 => ∃ φ1 S1 acc ws, Ext X.K φ0 H0 φ1 H1 ∧ Rel X.K φ1 H1 S1 ∧ D ∉ φ1 ∧ H1 D = some (.lst ws) ∧ DRs X.K φ1 H1 acc ws ∧ EnvR X.K φ1 H1 (wipeE env vs) (wipe σ vs) ∧
          LFin X.K φ0 H0 D Q acc (compC p tc te (wipeE env vs) n en m i S1), ⟨_, φ0, S0, [], [], xD, rD, hDφ, upd_same, .nil, eD, hf⟩, ?_⟩
        rintro i m H1 ⟨φ1, S1, acc, ws, x1, r1, n1, hH, hd, e1, h1⟩
        have ha1 : φ1[n]? = some a := by
          obtain ⟨l, el⟩ := x1.pre
          rw [el, List.getElem?_append_left (List.getElem?_eq_some_iff.mp ha).1]; exact ha
        cases m with
        | zero => exact h1.elim
        | succ m =>
          unfold compC at h1
          cases g : S1.get n with
          | none => rw [g] at h1; exact h1.elim
          | some c =>
            cases c with
            | dct _ => rw [g] at h1; exact h1.elim
            | dtt _ => rw [g] at h1; exact h1.elim
            | lst ys =>
              rw [g] at h1
              simp only at h1
              obtain ⟨t1, t2⟩ := cell_turn r1 ha1 g en i
              cases gi : ys[i]? with
              | none =>
                rw [gi] at h1
                exact .inl ⟨t2 gi, h1.2 φ1 H1 ws x1 r1 n1 hH (by rw [List.append_nil]; exact hd)⟩
              | some d =>
                rw [gi] at h1
                simp only at h1
                obtain ⟨hgo, hy⟩ := t1 d gi
                refine .inr ⟨hgo, fun H2 => ∃ φ1 S1 acc ws, Ext X.K φ0 H0 φ1 H2 ∧ Rel X.K φ1 H2 S1 ∧ D ∉ φ1 ∧ H2 D = some (.lst ws) ∧ DRs X.K φ1 H2 acc ws ∧ EnvR X.K φ1 H2 (wipeE env vs) (wipe σ vs) ∧
                  LFin X.K φ0 H0 D Q acc (compC p tc te (wipeE env vs) n en m (i + 1) S1), fun H2 ⟨φ2, S2, acc2, ws2, a1, a2, a3, a4, a5, a6, a7⟩ => ⟨m, Nat.lt_succ_self _, φ2, S2, acc2, ws2, a1, a2, a3, a4, a5, a6, a7⟩, fun v H2 y => ?_⟩
                obtain ⟨x2, r2, dv⟩ := hy v H2 y
                have k2 : H2 D = some (.lst ws) := x2.keep D _ hH n1
                cases q : flatP p (itemAt en i d) with
                | none => rw [q] at h1; exact h1.elim
                | some l =>
                  rw [q] at h1
                  refine lc_turn (tg := tg) (XR := XR) hsl hD (x1.trans x2) r2 n1 k2 (hd.ext x2) (e1.ext x2) dv q (rest := fun S => compC p tc te (wipeE env vs) n en m (i + 1) S) _ (Fin := LFin X.K φ0 H0 D Q acc) (Q := Q) h1 (fun z => z) (fun y r z => ?_) (fun y ys S' z => ?_) fun φ' H' S' acc' ws' a1 a2 a3 a4 a5 a6 a7 => ⟨φ', S', acc', ws', a1, a2, a3, a4, a5, a6, ?_⟩
                  · cases r with
                    | ok ys S => exact ⟨ys, S, rfl⟩
                    | ex _ _ => exact z.elim
                    | bad => exact z.elim
                  · have := z.1; simp at this; omega
                  · rcases a7 with ⟨rfl, a7⟩ | ⟨y, rfl, a7⟩
                    · exact a7
                    · exact lfin_cons a7
theorem pts_imp {X : Cx} {ifs : List Expr} {t t' : TT} (h : PTs X ifs t) (i : ∀ σ H Q, t' σ H Q → t σ H Q) : PTs X ifs t' := by
  obtain ⟨h⟩ := h
  exact ⟨fun pins s σ H Q I q => h pins s σ H Q I (i σ H Q q)⟩
theorem sts_nil : PTs X [] (TIt X.K XR W yesE) := pts_imp pts_nil fun σ H Q ⟨φ, S, env, r, e, h⟩ => h φ H .refl r
theorem sts_one {c : Expr} {t : Et} (h : ST X XR W c t) : PTs X [c] (TIt X.K XR W t) := pts_one h
theorem se_lc {elt tg iter : Expr} {ifs : List Expr} {scope : Scope} {own : List (Str × Nat)} {s : Ew} {p : Pat} {tc : Et} {te : Ev} (hc : X.calm = true) (hN : X.N.Nodup) (hi : SI X XR W tg iter s) (ok : BlkOk X.N X.env.scope scope own) (hsl : ∀ i ∈ p.slots, i ∈ own.map (·.2))
    (hg : ∀ (s : Shared) (H : Hp) (C : Addr) (cl : List (Str × Addr)) (fp : List Addr), PG (X.blk s H scope (compEnvC scope cl C X.env) fp) tg (TGp X.K p)) (ht : ∀ (s : Shared) (H : Hp) (C : Addr) (cl : List (Str × Addr)) (fp : List Addr), PTs (X.blk s H scope (compEnvC scope cl C X.env) fp) ifs (TIt X.K XR W0 tc))
    (he : ∀ (s : Shared) (H : Hp) (C : Addr) (cl : List (Str × Addr)) (fp : List Addr), SE (X.blk s H scope (compEnvC scope cl C X.env) fp) XR W0 elt te) (hs : ∀ x, foldedSetIterable iter X.env x = pure x := by intro _; rfl) :
    SE X XR W (.ListComp elt [⟨tg, iter, ifs, 0⟩] scope pos) (lcE s p tc te (own.map (·.2))) :=
  PE.imp (pe_lc (te := TI X.K XR W0 te) hc hN hi ok hg ht he hs) fun σ H Q h => ti_lc (tg := tg) hsl h
theorem ss_setLc {i : Nat} {y : Str} {py spos : Pos} {elt tg iter : Expr} {ifs : List Expr} {scope : Scope} {own : List (Str × Nat)} {s : Ew} {p : Pat} {tc : Et} {te : Ev} (hc : X.calm = true) (hN : X.N.Nodup) (hy : X.N[i]? = some y) (hyl : X.env.scope.names.lookup y = some .local)
    (hsw : swapsWith (.ListComp elt [⟨tg, iter, ifs, 0⟩] scope pos) (some (.Name y py)) spos.line X.env = pure true) (hi : SI X XR W tg iter s) (ok : BlkOk X.N X.env.scope scope own) (hsl : ∀ i ∈ p.slots, i ∈ own.map (·.2))
    (hg : ∀ (s : Shared) (H : Hp) (C : Addr) (cl : List (Str × Addr)) (fp : List Addr), PG (X.blk s H scope (compEnvC scope cl C X.env) fp) tg (TGp X.K p)) (ht : ∀ (s : Shared) (H : Hp) (C : Addr) (cl : List (Str × Addr)) (fp : List Addr), PTs (X.blk s H scope (compEnvC scope cl C X.env) fp) ifs (TIt X.K XR W0 tc))
    (he : ∀ (s : Shared) (H : Hp) (C : Addr) (cl : List (Str × Addr)) (fp : List Addr), SE (X.blk s H scope (compEnvC scope cl C X.env) fp) XR W0 elt te) (hs : ∀ x, foldedSetIterable iter X.env x = pure x := by intro _; rfl) :
    SS X XR W (.Assign [.Name y py] (.ListComp elt [⟨tg, iter, ifs, 0⟩] scope pos) spos) (setS i (lcE s p tc te (own.map (·.2)))) := by
  refine PS.imp (ps_setLc (te := TI X.K XR W0 te) hc hN hy hyl hsw hi ok hg ht he hs) fun D σ H ⟨φ, S, env, r, e, h⟩ => ?_
  refine ti_lc (tg := tg) (XR := XR) (W := W) hsl (Q := fun v H' => D.nx (σ.set i (some v)) H') ?_
  exact ⟨φ, S, env, r, e, (PostS.of e h).mono fun φ1 H1 S1 d x1 r1 h1 v dv => h1 φ1 H1 _ .refl r1 ((e.ext x1).set dv i)⟩
end
end DE

namespace DE
open PySem L2 PyProof.Rows
/-! ## starred items -/
def flat? (S : Store) : D → Option (List D)
  | .tup xs => some xs
  | .scr xs => some xs
  | .ref n => match S.get n with
    | some (.lst xs) => some xs
    | _ => none
  | _ => none
def starE (a : Ev) (r : Es) : Es := fun env S => (a env S).bind fun x S1 => match flat? S1 x with
  | some ys => (r env S1).bind fun xs S2 => .ok (ys ++ xs) S2
  | none => .bad
section
variable {K : PySem.W.Frag} {φ : List Addr} {H : Hp} {S : Store}
theorem flatq_of (r : Rel K φ H S) {d : D} {v : V} (dr : DR K φ H d v) {xs : List D} (h : flat? S d = some xs) : ∃ a vs, v = .ref a ∧ (SqT K H a vs ∨ SqL K H a vs) ∧ DRs K φ H xs vs := by
  unfold flat? at h
  cases dr with
  | tup h1 h2 => cases h; exact ⟨_, _, rfl, .inl h1, h2⟩
  | scr h1 h2 => cases h; exact ⟨_, _, rfl, .inr h1.sql, h2⟩
  | @ref n a hn =>
    simp only at h
    cases g : S.get n with
    | none => rw [g] at h; cases h
    | some c =>
      cases c with
      | dct _ => rw [g] at h; cases h
      | dtt _ => rw [g] at h; cases h
      | lst ys =>
        rw [g] at h; cases h
        obtain ⟨b, vs, e2, f2, hH, hd⟩ := cell_lst r (.ref hn) g
        cases e2
        exact ⟨a, vs, rfl, .inr (.of hH), hd⟩
  | _ => cases h
end
section
variable {X : Cx} {XR : XRel} {W : WX} {pos : Pos}
theorem sa_star {e : Expr} {es : List Expr} {a : Ev} {r : Es} {p : Pos} (ha : SE X XR W e a) (hr : SA X XR W es r) (hs : starEach (.Starred e p :: es) X.env = (true, eval e X.env) :: starEach es X.env := by rfl) : SA X XR W (.Starred e p :: es) (starE a r) := by
  refine PA.imp (StX.pa_star ha hr hs) fun σ H Q ⟨φ, S, env, r0, e0, h⟩ => ?_
  refine ⟨φ, S, env, r0, e0, (Post.bind h).mono fun φ1 H1 S1 x x1 r1 h1 v dv => ?_⟩
  cases g : flat? S1 x with
  | none => rw [g] at h1; exact h1.elim
  | some ys =>
    rw [g] at h1
    obtain ⟨b, vs, rfl, sq, dd⟩ := flatq_of r1 dv g
    refine ⟨b, vs, rfl, sq, φ1, S1, env, r1, e0.ext x1, (Post.bind h1).mono fun φ2 H2 S2 xs x2 r2 h2 ws dw => ?_⟩
    exact h2 φ2 H2 .refl r2 _ ((dd.ext x2).append dw)
end
/-! ## x[::-1] -/
section
variable {prog : Program} {w : World} {A : Around} {E : Value → Shared → Prop} {s : Shared}
open PySem.Spec
theorem sliceApplied_rev {sl : Addr} {vl vu vs : Value} {n : Nat} {Q : Int × Int × Nat → Shared → Prop} (hs : s.heap.IsSliceOf sl vl vu vs) (pl : IsPart vl none) (pu : IsPart vu none) (ps : IsPart vs (some (-1)))
    (h : Q ((n : Int) - 1, -1, n) s) : wpAny (model prog w) A (Builtin.Slice.sliceApplied (.ref sl) (pure (n : Int))) Q E s := by
  obtain ⟨os, hos, hcs, hds⟩ := id hs
  unfold Builtin.Slice.sliceApplied Builtin.Slice.sliceFields
  refine wpAny_bind (wpAny_bind (wpAny_field hos hds (x := vl) rfl (wpAny_bind (wpAny_field hos hds (x := vu) rfl (wpAny_bind (wpAny_field hos hds (x := vs) rfl (wpAny_pure ?_)))))))
  refine wpAny_bind (HT.slicePart_ ps ?_)
  show wpAny _ _ (if ((-1 : Int) == 0) = true then _ else _) _ _ s
  rw [if_neg (by decide)]
  refine wpAny_bind (HT.slicePart_ pl (wpAny_bind (HT.slicePart_ pu (wpAny_bind (wpAny_pure ?_)))))
  show wpAny _ _ (pure ((n : Int) - 1, (-1 : Int), Builtin.Slice.slicePlaces ((n : Int) - 1) (-1) (-1))) _ _ s
  have e : Builtin.Slice.slicePlaces ((n : Int) - 1) (-1) (-1) = n := by
    unfold Builtin.Slice.slicePlaces
    rw [if_neg (by decide)]
    by_cases h : (n : Int) - 1 > -1
    · rw [if_pos h]; simp only [Int.neg_neg, Int.ediv_one]; omega
    · rw [if_neg h]; omega
  rw [e]
  exact wpAny_pure h
theorem pick_rev (xs : Array Value) : ((List.range xs.size).filterMap fun (m : Nat) => xs[(((xs.size : Int) - 1) + (m : Int) * (-1)).toNat]?).toArray = xs.toList.reverse.toArray := by
  have e : ((List.range xs.size).map (fun k => xs.size - 1 - k)).filterMap (xs[·]?) = ((List.range xs.size).filterMap fun (m : Nat) => xs[(((xs.size : Int) - 1) + (m : Int) * (-1)).toNat]?) := by
    have : (List.range xs.size).map (fun k => xs.size - 1 - k) = (List.range xs.size).map (fun (m : Nat) => (((xs.size : Int) - 1) + (m : Int) * (-1)).toNat) := by
      apply List.map_congr_left
      intro m hm
      have := List.mem_range.mp hm
      omega
    rw [this, List.filterMap_map]; rfl
  rw [← e, PySem.W.krv_range, List.filterMap_reverse, PySem.W.krv_all]
theorem getItem_tuple_rev {t sl : Addr} {items : Array Value} {vl vu vs : Value} {Q : Value → Shared → Prop} (ht : IsTup s.heap t items) (hs : s.heap.IsSliceOf sl vl vu vs) (pl : IsPart vl none) (pu : IsPart vu none) (ps : IsPart vs (some (-1)))
    (h : Q (.ref s.heap.objs.size) { s with heap := s.heap.push { cls := .type "tuple", data := .seq items.toList.reverse.toArray } })
    (hsz : items.size ≤ sizeLine) : wpAny (model prog w) A (getItem (.ref t) (.ref sl)) Q E s := by
  have htake : sizeOk (.seq items.toList.reverse.toArray) := by
    show items.toList.reverse.toArray.size ≤ sizeLine
    rw [List.size_toArray, List.length_reverse, Array.length_toList]
    omega
  obtain ⟨os, hos, hcs, hds⟩ := id hs
  have hTs : s.TypeIs (.ref sl) "slice" := ⟨os, hos, hcs⟩
  unfold getItem
  try with_reducible refine wpAny_holding ?_
  first | refine wpAny_bind (wpAny_pure ?_) | skip
  refine wpAny_bind (wpAny_sequenceKey ht.typeIs (by decide) ?_)
  refine wpAny_bind (wpAny_callSpecial?_slot (name := Str.ofString "__getitem__") ht.typeIs PyProof.Rows.slot_tuple_getitem
    (wpAny_call_entry PyProof.Rows.slot_tuple_getitem ht.typeIs entry_tuple_getitem ?_ (args_tuple_getitem _ _)))
  show wpAny _ _ (Builtin.Tuple.tupleItemsOf (.ref t) >>= _) _ _ s
  refine wpAny_bind (tupleItemsOf_ ht ?_)
  refine wpAny_bind (wpAny_typeOf hTs ?_)
  rw [if_pos (by decide)]
  refine wpAny_bind (sliceApplied_rev hs pl pu ps ?_)
  have hno : ¬ (((((items.size : Int) - 1)) == 0 && (-1 : Int) == 1 && items.size == items.size) = true) := by
    intro q
    rw [Bool.and_eq_true, Bool.and_eq_true] at q
    exact absurd q.1.2 (by decide)
  show wpAny _ _ (if ((((items.size : Int) - 1)) == 0 && (-1 : Int) == 1 && items.size == items.size) = true then _ else _) _ _ s
  rw [if_neg hno, pick_rev]
  first
    | exact wpAny_bind (m := Builtin.Tuple.tupleExact _) (wpAny_newObj_type (wpAny_pure ⟨_, rfl, wpAny_pure h⟩) htake)
    | exact wpAny_bind (m := Builtin.Tuple.tupleExact _) (wpAny_newObj_type (wpAny_bind (wpAny_pure (wpAny_pure ⟨_, rfl, wpAny_pure h⟩))) htake)
    | exact wpAny_bind (wpAny_bind (m := Builtin.Tuple.tupleExact _) (wpAny_newObj_type (wpAny_pure (wpAny_pure ⟨_, rfl, wpAny_pure h⟩)) htake))
    | exact wpAny_bind (wpAny_bind (m := Builtin.Tuple.tupleExact _) (wpAny_newObj_type (wpAny_pure ⟨_, rfl, wpAny_pure h⟩) htake))
end
def tRevA (K : PySem.W.Frag) (te : TE) : TE := fun σ H Q => te σ H fun x H1 => ∃ a xs, x = .ref a ∧ ((SqL K H1 a xs ∧ ∀ p, H1 p = none → Q (.ref p) (L2.upd H1 p (.lst xs.reverse))) ∨ (SqT K H1 a xs ∧ ∀ p, H1 p = none → Q (.ref p) (L2.upd H1 p (.tup xs.reverse))))
section
variable {X : Cx}
open PySem.Spec
theorem pe_revA {e : Expr} {te : TE} {k : Nat} {p1 p2 p3 pos : Pos} (he : PE X e te) : PE X (.Subscript e (.Slice none none (some (.UnaryOp .USub (.Constant (.int 1) k p1) p2)) p3) pos) (tRevA X.K te) := by
  refine ⟨fun pins s σ H Q I h => ?_⟩
  refine Subscript_ (thn (he.run pins s σ H _ I h) fun v s1 ⟨x, H1, I1, r1, q1⟩ => ?_)
  obtain ⟨a, xs, ex, q1⟩ := q1
  subst ex
  cases r1
  have hst : PO X (some (.UnaryOp .USub (.Constant (.int 1) k p1) p2)) (tPart (tUn (rU fun i => .int (-i)) (tC (.int 1)))) := po_some (pe_un un_neg pe_int)
  refine wpAny_Slice (thn (po_none.run pins s1 σ H1 (fun o H2 => o = none ∧ H2 = H1) I1 ⟨rfl, rfl⟩) fun vl s2 ⟨l, H2, I2, pl, el, e2⟩ => ?_)
  subst el e2
  refine thn (po_none.run pins s2 σ H2 (fun o H3 => o = none ∧ H3 = H2) I2 ⟨rfl, rfl⟩) fun vu s3 ⟨u, H3, I3, pu, eu, e3⟩ => ?_
  subst eu e3
  refine thn (hst.run pins s3 σ H3 (fun o H4 => o = some (-1) ∧ H4 = H3) I3 ⟨1, rfl, -1, rfl, rfl, rfl⟩) fun vs s4 ⟨o, H4, I4, ps, eo, e4⟩ => ?_
  subst eo e4
  have I5 : Inv X pins σ H4 { s4 with heap := s4.heap.push { cls := .type "slice", data := .fields #[vl, vu, vs] } } := I4.kept (t' := s4.toks) fun b ob q => Heap.get?_push_of_some _ q
  rcases q1 with ⟨hx, q⟩ | ⟨hx, q⟩
  · obtain ⟨its, r, ht, hz⟩ := I5.list hx
    have hlen := r.length
    show wpAny (model X.prog X.w) X.A (subscriptTail e (.Slice none none (some (.UnaryOp .USub (.Constant (.int 1) k p1) p2)) p3) (.ref a) (.ref s4.heap.objs.size)) (EP X pins σ Q) X.xe { s4 with heap := s4.heap.push { cls := .type "slice", data := .fields #[vl, vu, vs] } }
    refine tail_any (ops := [.ref a, .ref s4.heap.objs.size]) ht.isList.typeIs (PySem.slot_list_getitem.lookup) ?_ (by with_unfolding_all rfl)
    refine wpAny_getItem_list_slice ht.isList (Heap.IsSliceOf.new _ vl vu vs) pl pu ps (by decide) ?_ (by rw [List.size_toArray]; omega)
    rw [PySem.W.krv_pick]
    refine ⟨.ref _, _, I5.laid (t' := s4.toks) (o := .lst xs.reverse) (fun b ob q => Heap.get?_push_of_some _ q) (Nat.le_refl _) ?_, rfl, q _ (I5.hok.fresh (Nat.le_refl _))⟩
    exact ⟨by rw [List.length_reverse]; exact hz, _, 0, r.reverse, Heap.get?_push_size _ rfl⟩
  · obtain ⟨its, r, ht, hz⟩ := I5.tuple hx
    have hlen := r.length
    show wpAny (model X.prog X.w) X.A (subscriptTail e (.Slice none none (some (.UnaryOp .USub (.Constant (.int 1) k p1) p2)) p3) (.ref a) (.ref s4.heap.objs.size)) (EP X pins σ Q) X.xe { s4 with heap := s4.heap.push { cls := .type "slice", data := .fields #[vl, vu, vs] } }
    refine tail_any (ops := [.ref a, .ref s4.heap.objs.size]) ht.typeIs (PyProof.Rows.slot_tuple_getitem.lookup) ?_ (by with_unfolding_all rfl)
    refine getItem_tuple_rev ht (Heap.IsSliceOf.new _ vl vu vs) pl pu ps ?_ (by rw [List.size_toArray]; omega)
    refine ⟨.ref _, _, I5.laid (t' := s4.toks) (o := .tup xs.reverse) (fun b ob q => Heap.get?_push_of_some _ q) (Nat.le_refl _) ?_, rfl, q _ (I5.hok.fresh (Nat.le_refl _))⟩
    exact ⟨by rw [List.length_reverse]; exact hz, _, r.reverse, IsTup.new _ _⟩
end
def revO (x : D) (S : Store) : Option (D × Store) := match x with
  | .tup xs => some (.tup xs.reverse, S)
  | x => match list? S x with
    | some xs => some (.ref S.n, S.add (.lst xs.reverse))
    | none => none
section
variable {X : Cx} {XR : XRel} {W : WX} {pos : Pos}
theorem se_rev {e : Expr} {te : Ev} {k : Nat} {p1 p2 p3 : Pos} (he : SE X XR W e te) : SE X XR W (.Subscript e (.Slice none none (some (.UnaryOp .USub (.Constant (.int 1) k p1) p2)) p3) pos) (una revO te) := by
  refine PE.imp (pe_revA he) fun σ H Q ⟨φ, S, env, r, e, h⟩ => ?_
  refine ⟨φ, S, env, r, e, (Post.bind h).mono fun φ1 H1 S1 x x1 r1 h1 v dv => ?_⟩
  have h1 := h1.of
  unfold revO at h1
  split at h1
  · obtain ⟨a, vs, rfl, s1, d1⟩ := dv.tup'
    refine ⟨a, vs, rfl, .inr ⟨s1, fun p hp => ?_⟩⟩
    obtain ⟨x2, r2⟩ := r1.fresh hp (.tup vs.reverse)
    exact h1 φ1 _ x2 r2 _ (.tup (.inl (.inl upd_same)) (d1.reverse.ext x2))
  · cases gl : list? S1 x with
    | none => rw [gl] at h1; exact h1.elim
    | some xs =>
      rw [gl] at h1
      obtain ⟨a, vs, rfl, s1, d1⟩ := list_of r1 dv gl
      refine ⟨a, vs, rfl, .inl ⟨s1, fun p hp => ?_⟩⟩
      obtain ⟨x2, r2⟩ := r1.add (c := .lst xs.reverse) hp (o := .lst vs.reverse) fun φ' x => ⟨_, upd_same, d1.reverse.ext x⟩
      refine h1 _ _ x2 r2 _ (.ref ?_)
      rw [← r1.len, List.getElem?_append_right (Nat.le_refl _)]; simp
end
/-! ## defs and calls -/
abbrev Fn := List D → Store → R D
def arity (n : Nat) (g : Fn) : Fn := fun ds S => if Nat.beq ds.length n then g ds S else .bad
/-- what a def promises: its evaluation function -/
def spD (K : PySem.W.Frag) (XR : XRel) (g : Fn) (n : Nat) : Sp := fun vs H Q E => vs.length = n ∧ ∃ φ S ds, Rel K φ H S ∧ DRs K φ H ds vs ∧
  match g ds S with
  | .ok d S' => ∀ φ' H' v, Ext K φ H φ' H' → Rel K φ' H' S' → DR K φ' H' d v → Q v H'
  | .ex x S' => ∀ φ' H' cls dx, Ext K φ H φ' H' → Rel K φ' H' S' → XR φ' H' x cls dx → E cls dx H'
  | .bad => False
/-- a def's evaluation function, from its body's -/
def runB (N : Nat) (b : Sm) : Fn := fun ds S => match b (ds.map some ++ List.replicate (Nat.sub N ds.length) none) S with
  | .nx _ S => .ok .non S
  | .rt d S => .ok d S
  | .ex x _ S => .ex x S
  | _ => .bad
theorem EnvR.start {K : PySem.W.Frag} {φ : List Addr} {H : Hp} : ∀ {ds : List D} {vs : List V} (n : Nat), DRs K φ H ds vs → EnvR K φ H (ds.map some ++ List.replicate n none) (vs.map some ++ List.replicate n none) := by
  intro ds vs n h
  refine ⟨by simp [h.length], fun i d e => ?_⟩
  by_cases hi : i < ds.length
  · rw [List.getElem?_append_left (by simpa using hi), List.getElem?_map] at e
    obtain ⟨d2, e1, e2⟩ := Option.map_eq_some_iff.mp e
    cases e2
    obtain ⟨v, h1, h2⟩ := h.get e1
    refine ⟨v, ?_, h2⟩
    have := (List.getElem?_eq_some_iff.mp h1).1
    rw [List.getElem?_append_left (by simpa using this), List.getElem?_map, h1]; rfl
  · rw [List.getElem?_append_right (by simpa using hi)] at e
    rw [List.getElem?_replicate] at e
    split at e <;> cases e
/-- the frame of a body: what its calls and loops want -/
structure Body (P : Program) (w : World) (K : PySem.W.Frag) (mg : Str → Option Value) (base : Heap) (k : Nat) (N : List Str) (sc : Scope) (X : Cx) (W : WX) : Prop where
  prog : X.prog = P
  w : X.w = w
  K : X.K = K
  mg : X.mg = mg
  base : X.base = base
  room : Room k X.A
  N : X.N = N
  sc : X.env.scope = sc
  calm : X.calm = true
  fn : ∀ x, X.fn x = true
  tk : Takes X W
  own : PassesOwn (model X.prog X.w) X.A X.env X.xe
section
variable {P : Program} {w : World} {K : PySem.W.Frag} {mg : Str → Option Value} {base : Heap}
theorem body_of {N : List Str} {qual : Str} {sc : Scope} {f : Addr} {cdv : Value} {A : Around} {outer : List PySem.Env} {s : Shared} {H : Hp} {E : XK} {k : Nat} (hr : Room k (A.deeper (envOfC qual sc s.heap.objs.size f cdv))) :
    Body P w K mg base k N sc (cxOf (L2.CX P w) P w K mg base N qual sc f cdv A outer s H E) (fun cls d _ H => E cls d H) :=
  ⟨rfl, rfl, rfl, rfl, rfl, hr, rfl, rfl, rfl, fun _ => rfl, takes_of rfl rfl rfl rfl, passes_of rfl⟩
/-- a def by its body -/
theorem def_ok {x qual : Str} {st : Stmt} {f : Addr} {fd : FuncData} {N ps : List Str} {k : Nat} {XR : XRel} {b : Sm} (F : Fun K x qual st f fd) (S : FnScope N ps (defScope st))
    (hb : ∀ (cdv : Value) (A : Around) (outer : List PySem.Env) (s : Shared) (H : Hp) (E : XK), Room k (A.deeper (envOfC qual (defScope st) s.heap.objs.size f cdv)) →
      SSs (cxOf (L2.CX P w) P w K mg base N qual (defScope st) f cdv A outer s H E) XR (fun cls d _ H => E cls d H) (defBody st) b) :
    FnOk P w K mg base (L2.CX P w) (k + 1) f fd ps (spD K XR (runB N.length b) ps.length) := by
  refine F.okX S (fun vs H Q E h => h.1) fun cdv A outer s H vs Q E hr h => ⟨_, hb cdv A outer s H E hr, ?_⟩
  obtain ⟨hl, φ, S, ds, r, dr, h⟩ := h
  refine ⟨φ, S, ds.map some ++ List.replicate (Nat.sub N.length ds.length) none, r, ?_, ?_⟩
  · unfold L2.start
    rw [dr.length]
    exact EnvR.start _ dr
  · unfold runB at h
    cases q : b (ds.map some ++ List.replicate (Nat.sub N.length ds.length) none) S with
    | nx env S1 => rw [q] at h; exact fun φ' H' σ' x1 r1 e1 => h φ' H' _ x1 r1 .non
    | rt d S1 => rw [q] at h; exact fun φ' H' v x1 r1 d1 => h φ' H' v x1 r1 d1
    | ex x env S1 => rw [q] at h; exact fun φ' H' σ' cls dx x1 r1 e1 xr => h φ' H' cls dx x1 r1 xr
    | bk env S1 => rw [q] at h; exact h.elim
    | ct env S1 => rw [q] at h; exact h.elim
    | bad => rw [q] at h; exact h.elim
/-- a def of the module that can be called -/
structure Dfn (P : Program) (w : World) (K : PySem.W.Frag) (mg : Str → Option Value) (base : Heap) (XR : XRel) (k : Nat) (x : Str) (n : Nat) (g : Fn) : Prop where
  ex : ∃ (f : Addr) (fd : FuncData) (ps : List Str), FnOk P w K mg base (L2.CX P w) k f fd ps (spD K XR g n) ∧ mg x = some (.ref f) ∧ PySem.W.keepIn K (.ref f) = true ∧ Binds K fd ps []
theorem Dfn.none {XR : XRel} {x : Str} {n : Nat} {f : Addr} {fd : FuncData} {ps : List Str} (hm : mg x = some (.ref f)) (hk : PySem.W.keepIn K (.ref f) = true) (hb : Binds K fd ps []) {k : Nat} : Dfn P w K mg base XR k x n (fun _ _ => .bad) :=
  ⟨f, fd, ps, ⟨fun vs H Q E h => by obtain ⟨_, φ, S, ds, r, dr, h⟩ := h; exact h.elim, fun A outer s H args us vs Q E _ _ _ _ h => by obtain ⟨_, φ, S, ds, r, dr, h⟩ := h; exact h.elim⟩, hm, hk, hb⟩
/-- the same function, told otherwise -/
theorem Dfn.same {XR : XRel} {x : Str} {n : Nat} {g g' : Fn} {k : Nat} (F : Dfn P w K mg base XR k x n g) (h : ∀ ds S, ds.length = n → g' ds S ≠ .bad → g' ds S = g ds S) : Dfn P w K mg base XR k x n g' := by
  obtain ⟨f, fd, ps, F, r⟩ := F.ex
  refine ⟨f, fd, ps, F.imp fun vs H Q E q => ?_, r⟩
  obtain ⟨hl, φ, S, ds, r, dr, q⟩ := q
  refine ⟨hl, φ, S, ds, r, dr, ?_⟩
  have := h ds S (by rw [← dr.length]; exact hl)
  cases e : g' ds S with
  | bad => rw [e] at q; exact q.elim
  | ok d S' => rw [e] at q this; rw [← this (by simp)]; exact q
  | ex x S' => rw [e] at q this; rw [← this (by simp)]; exact q
end
section
variable {X : Cx} {XR : XRel} {W : WX} {pos : Pos}
theorem se_call {k n : Nat} {x : Str} {g : Fn} {e : Expr} {es : List Expr} {t : Es} {p : Pos} (F : Dfn X.prog X.w X.K X.mg X.base XR k x n g) (hr : Room k X.A) (tk : Takes X W) (hg : Gl X x) (ha : SA X XR W (e :: es) t)
    (hdb : (x == ("__debug__" : Str)) = false := by decide) (he : starEach (e :: es) X.env = (false, eval e X.env) :: starEach es X.env := by rfl) (hpl : (backTo pos (starEach es X.env)).any (·.1) = false := by rfl) :
    SE X XR W (.Call (.Name x p) (e :: es) [] pos) (callE (arity n g) t) := by
  obtain ⟨f, fd, ps, F, hm, hk, hb⟩ := F.ex
  refine PE.imp (pe_callS F hr hg hm hk hb (fun σ => passAt tk σ) ha hdb he hpl) fun σ H Q ⟨φ, S, env, r, e, h⟩ => ?_
  refine ⟨φ, S, env, r, e, (Post.bind h).mono fun φ1 H1 S1 ds x1 r1 h1 vs dv => ?_⟩
  unfold arity at h1
  split at h1
  · rename_i hl
    refine ⟨by rw [dv.length]; exact Nat.eq_of_beq_eq_true hl, φ1, S1, ds, r1, dv, ?_⟩
    cases q : g ds S1 with
    | ok d S2 => rw [q] at h1; exact fun φ' H' v x r d => h1 φ' H' x r v d
    | ex x S2 => rw [q] at h1; exact h1
    | bad => rw [q] at h1; exact h1.elim
  · exact h1.elim
end
end DE

namespace DE
open PySem L2 PyProof.Rows
/-! ## new dicts -/
def dnewK : Ev := fun _ S => .ok (.ref S.n) (S.add (.dct []))
def dnewT : Ev := fun _ S => .ok (.ref S.n) (S.add (.dtt []))
section
variable {X : Cx} {XR : XRel} {W : WX} {pos : Pos}
theorem DR.last {K : PySem.W.Frag} {φ : List Addr} {H H' : Hp} {S : Store} (r : Rel K φ H S) {p : Addr} : DR K (φ ++ [p]) H' (.ref S.n) (.ref p) := .ref (by rw [← r.len, List.getElem?_append_right (Nat.le_refl _)]; simp)
theorem se_dnewK : SE X XR W (.Dict [] [] pos) dnewK := by
  refine PE.imp pe_dnewK fun σ H Q ⟨φ, S, env, r, e, h⟩ p hp => ?_
  obtain ⟨x2, r2⟩ := r.add (c := .dct []) hp (o := .dK []) fun φ' x => ⟨[], upd_same, .nil, by simp⟩
  exact h _ _ x2 r2 _ (.last r)
theorem se_dnewT : SE X XR W (.Dict [] [] pos) dnewT := by
  refine PE.imp pe_dnewT fun σ H Q ⟨φ, S, env, r, e, h⟩ p hp => ?_
  obtain ⟨x2, r2⟩ := r.add (c := .dtt []) hp (o := .dT []) fun φ' x => ⟨[], upd_same, .nil, by simp⟩
  exact h _ _ x2 r2 _ (.last r)
end
/-! ## names of the module -/
structure GlD (K : PySem.W.Frag) (mg : Str → Option Value) (x : Str) (d : D) : Prop where
  ex : ∃ (v : V) (u : Value), mg x = some u ∧ RelV v u ∧ ∀ φ H, DR K φ H d v
section
variable {K : PySem.W.Frag} {mg : Str → Option Value} {x : Str}
theorem GlD.int {i : Int} {tk : Tok} (h : mg x = some (.int i tk)) : GlD K mg x (.int i) := ⟨.int i, _, h, ⟨tk, rfl⟩, fun _ _ => .int i⟩
theorem GlD.str {y : Str} {l : List Nat} {tk : Tok} (h : mg x = some (.str y tk)) (e : y = mkS l := by decide +kernel) (ok : (l.all fun c => Nat.blt c 1114112) = true := by decide +kernel) : GlD K mg x (.str l) :=
  ⟨.str (mkS l), _, h, ⟨tk, by rw [e]⟩, fun _ _ => .str (okS_of ok)⟩
theorem GlD.tup {a : Addr} {ds : List D} {vs : List V} {its : List Value} {n : Nat} {sl : Array (Option Value)} {od : Option Addr} (h : mg x = some (.ref a)) (l : K.lookup a = some ⟨.type "tuple", od, .seq its.toArray n, sl⟩) (hz : its.length ≤ sizeLine) (hv : Vals vs its) (hd : ∀ φ H, DRs K φ H ds vs) : GlD K mg x (.tup ds) :=
  ⟨.ref a, _, h, rfl, fun φ H => .tup (.inr ⟨_, its.toArray, n, l, rfl, rfl, by simpa using hz, by simpa using hv⟩) (hd φ H)⟩
/-- a tuple that the module's tuple holds -/
theorem dr_ktup {a : Addr} {ds : List D} {vs : List V} {its : List Value} {n : Nat} {sl : Array (Option Value)} {od : Option Addr} (l : K.lookup a = some ⟨.type "tuple", od, .seq its.toArray n, sl⟩) (hz : its.length ≤ sizeLine) (hv : Vals vs its) (hd : ∀ φ H, DRs K φ H ds vs) : ∀ φ H, DR K φ H (.tup ds) (.ref a) :=
  fun φ H => .tup (.inr ⟨_, its.toArray, n, l, rfl, rfl, by simpa using hz, by simpa using hv⟩) (hd φ H)
end
section
variable {X : Cx} {XR : XRel} {W : WX} {pos : Pos}
theorem se_gl {x : Str} {d : D} (g : GlD X.K X.mg x d) (hg : Gl X x) (hd : (x == ("__debug__" : Str)) = false := by decide) : SE X XR W (.Name x pos) (cst d) := by
  obtain ⟨v, u, hm, rv, dr⟩ := g.ex
  exact se_of (pe_glob hg hm rv hd) dr
end
/-! ## the law's end -/
def XR0 : XRel := fun _ _ _ _ _ => False
theorem law_end {l : PySem.W.OpenLaw} {n k : Nat} {q : Program} {loose : List Str} {XP : (Str → Option Value) → Heap → Prop} {YP : World → Heap → Prop} {d : DefRec} {K : Params → PySem.W.Frag} {x : Str} {XR : XRel} {g : Fn}
    (hn : l.most = some n) (hn2 : n ≤ sizeLine) (hdf : d.params.defaults = []) (hr : Room k callerA)
    (hY : ∀ (w : World) (h : Heap), YP w h → (K w.params).In h)
    (F : ∀ (w : World) (mg : Str → Option Value) (fa : Addr) (h : Heap), (K w.params).In h → h.Ns mainGlobals mg → mg d.name = some (.ref fa) →
      ∃ fd : FuncData, (∀ (s : Shared) (u : Value), BindsTo s fd ⟨[u], []⟩ [(x, u)]) ∧ ∀ base : Heap, (K w.params).In base → base.Ns mainGlobals mg → FnOk l.prog w (K w.params) mg base (L2.CX l.prog w) k fa fd [x] (spD (K w.params) XR g 1))
    (hg : ∀ ns : List Int, ns.length ≤ n → ∃ S', g [.scr (ns.map .int)] ⟨0, []⟩ = .ok (.bl true) S') :
    PySem.W.WalkO q loose XP YP l.row.toRowW d [] (fun f vs => PySem.call f vs) := by
  refine L2.walk_of (n := n) (k := k) (x := x) (CX := fun w => L2.CX l.prog w) (sp := fun w => spD (K w.params) XR g 1) hn hn2 hdf hr hY F (fun w H a ns hl ho hS => ?_) fun w H s e s' z => ?_
  · refine ⟨rfl, [], ⟨0, []⟩, [.scr (ns.map .int)], ⟨rfl, List.nodup_nil, fun p h => (by cases h), fun m h => absurd h (Nat.not_lt_zero _), fun m c h => by cases h⟩, .cons (.scr (vs := ns.map V.int) ?_ ?_) .nil, ?_⟩
    · rcases hS with (h | ⟨o, h⟩) | h
      · rcases ho a with z | ⟨o, xs, z⟩
        · rw [h] at z; cases z
        · rw [h] at z; cases z
      · exact .inl ⟨⟨o, h⟩, by simp⟩
      · exact .inr h
    · have : ∀ ns : List Int, DRs (K w.params) [] H (ns.map D.int) (ns.map V.int) := fun ns => by
        induction ns with
        | nil => exact .nil
        | cons i ns ih => exact .cons (.int i) ih
      exact this ns
    · obtain ⟨S', e⟩ := hg ns hl
      rw [e]
      intro φ' H' v x r d
      cases d; rfl
  · obtain ⟨_, _, _, _, _, _, _, _, _, _, _, _, z⟩ := z
    exact z
end DE
namespace DE
open PySem L2 PyProof.Rows
theorem bt_len : bootBuiltins "len" = some (.builtin "len") := by decide +kernel
theorem bt_isinstance : bootBuiltins "isinstance" = some (.builtin "isinstance") := by decide +kernel
theorem bt_all : bootBuiltins "all" = some (.builtin "all") := by decide +kernel
theorem bt_any : bootBuiltins "any" = some (.builtin "any") := by decide +kernel
theorem bt_sum : bootBuiltins "sum" = some (.builtin "sum") := by decide +kernel
theorem bt_max : bootBuiltins "max" = some (.builtin "max") := by decide +kernel
theorem bt_min : bootBuiltins "min" = some (.builtin "min") := by decide +kernel
theorem bt_int : bootBuiltins "int" = some (.type "int") := by decide +kernel
theorem bt_str : bootBuiltins "str" = some (.type "str") := by decide +kernel
theorem bt_bool : bootBuiltins "bool" = some (.type "bool") := by decide +kernel
theorem bt_tuple : bootBuiltins "tuple" = some (.type "tuple") := by decide +kernel
theorem bt_list : bootBuiltins "list" = some (.type "list") := by decide +kernel
theorem bt_dict : bootBuiltins "dict" = some (.type "dict") := by decide +kernel
theorem bt_enumerate : bootBuiltins "enumerate" = some (.type "enumerate") := by decide +kernel
theorem bt_range : bootBuiltins "range" = some (.type "range") := by decide +kernel
theorem st_pw {X : Cx} {XR : XRel} {W : WX} {e : Expr} {t : Et} (h : PW X e (TIt X.K XR W t)) : ST X XR W e t := h.pt
theorem hu64 {k : Nat} {A : Around} (r : Room k A) : A.units + 64 < cLine := by have := r.un; omega
theorem hu65 {k : Nat} {A : Around} (r : Room k A) : A.units + 65 < cLine := by have := r.un; omega
section
variable {X : Cx} {XR : XRel} {W : WX} {cpos apos : Pos}
theorem se_append {o e : Expr} {to : Ev} {t : Es} (ho : SE X XR W o to) (ha : SA X XR W [e] t)
    (hbase : attributeBase o "append" X.env (eval o X.env) = eval o X.env := by rfl)
    (hline : (apos.endLine == cpos.line) = true := by rfl) (hs : starEach [e] X.env = (false, eval e X.env) :: starEach [] X.env := by rfl) :
    SE X XR W (.Call (.Attribute o "append" apos) [e] [] cpos) (metE isLst appM to t) :=
  se_met (fun _ _ _ _ _ r d h => ty_lst r d h) PySem.F.plainAttrs_list PySem.F.slot_list_append PySem.F.type_list_append mr_append ho ha hbase (by rw [hs]; rfl) hline hs (by rfl)
theorem se_partition {o e : Expr} {to : Ev} {t : Es} (ho : SE X XR W o to) (ha : SA X XR W [e] t)
    (hbase : attributeBase o "partition" X.env (eval o X.env) = eval o X.env := by rfl)
    (hline : (apos.endLine == cpos.line) = true := by rfl) (hs : starEach [e] X.env = (false, eval e X.env) :: starEach [] X.env := by rfl) :
    SE X XR W (.Call (.Attribute o "partition" apos) [e] [] cpos) (metE isStr partM to t) :=
  se_met (fun _ _ _ _ _ r d h => ty_str d h) PySem.F.plainAttrs_str PySem.F.slot_str_partition PySem.F.type_str_partition mr_partition ho ha hbase (by rw [hs]; rfl) hline hs (by rfl)
end
end DE

namespace DE
open PySem L2 PyProof.Rows
/-! ## laws that read the first number modulo m -/
def isT (r : R D) : Bool := match r with
  | .ok (.bl true) _ => true
  | _ => false
theorem of_isT {r : R D} (h : isT r = true) : ∃ S, r = .ok (.bl true) S := by
  unfold isT at h
  split at h
  · exact ⟨_, rfl⟩
  · cases h
def fin (r : RS) : R D := match r with
  | .nx _ S => .ok .non S
  | .rt d S => .ok d S
  | .ex x _ S => .ex x S
  | _ => .bad
def firstE (m : Nat) : Ev := bin modO (fnE intF (consE (fnE sumF (consE (slE (var 0) noPart (partE (cst (.int 1)))) nilE)) nilE)) (cst (.int m))
theorem cut_one {α : Type} (xs : List α) : cutD xs none (some 1) = xs.take 1 := by
  unfold cutD
  rw [HT.sIx_none, List.drop_zero, Nat.sub_zero, show (1 : Int) = ((1 : Nat) : Int) from rfl, HT.sIx_nat]
  cases xs with
  | nil => rfl
  | cons x xs => rw [Nat.min_eq_left (by simp)]
theorem first_mod (ns : List Int) (m : Nat) (hm : 1 ≤ m) (env : Env) (S : Store) : firstE m (some (.scr (ns.map .int)) :: env) S = .ok (.int (ns.head?.getD 0 % m)) (S.add (.lst ((ns.take 1).map .int))) := by
  have hs : slE (var 0) noPart (partE (cst (.int 1))) (some (.scr (ns.map .int)) :: env) S = .ok (.ref S.n) (S.add (.lst ((ns.take 1).map .int))) := by
    show R.of (some (D.ref S.n, S.add (.lst (cutD (ns.map .int) none (some 1))))) = _
    rw [cut_one, List.map_take]; rfl
  have hg : (S.add (.lst ((ns.take 1).map .int))).get S.n = some (.lst ((ns.take 1).map .int)) := by
    show lookN S.n ((S.n, _) :: _) = _
    unfold lookN; rw [Nat.beq_refl]; rfl
  have h2 : sumF [.ref S.n] (S.add (.lst ((ns.take 1).map .int))) = some (.int (ns.head?.getD 0), S.add (.lst ((ns.take 1).map .int))) := by
    unfold sumF list?
    simp only [hg]
    cases ns with
    | nil => rfl
    | cons n ns => show some (D.int (n + 0), _) = _; rw [Int.add_zero]; rfl
  have h3 : consE (slE (var 0) noPart (partE (cst (.int 1)))) nilE (some (.scr (ns.map .int)) :: env) S = .ok [.ref S.n] (S.add (.lst ((ns.take 1).map .int))) := by
    show R.bind (slE (var 0) noPart (partE (cst (.int 1))) (some (.scr (ns.map .int)) :: env) S) _ = _
    rw [hs]; rfl
  have h4 : fnE sumF (consE (slE (var 0) noPart (partE (cst (.int 1)))) nilE) (some (.scr (ns.map .int)) :: env) S = .ok (.int (ns.head?.getD 0)) (S.add (.lst ((ns.take 1).map .int))) := by
    show R.bind (consE (slE (var 0) noPart (partE (cst (.int 1)))) nilE (some (.scr (ns.map .int)) :: env) S) _ = _
    rw [h3]; show R.of (sumF _ _) = _; rw [h2]; rfl
  show R.bind (R.bind (R.bind (fnE sumF (consE (slE (var 0) noPart (partE (cst (.int 1)))) nilE) (some (.scr (ns.map .int)) :: env) S) _) _) _ = _
  rw [h4]
  show R.of (if Nat.ble 1 ((m : Int).toNat) then _ else _) = _
  rw [if_pos (Nat.ble_eq_true_of_le (by simpa using hm))]
  rfl
theorem law_by_mod {N m : Nat} {rest : Sm} (hm : 1 ≤ m) (h : ∀ (xs ys : List D) (d : Nat), d < m → isT (fin (rest (some (.scr xs) :: some (.int d) :: List.replicate N none) ⟨1, [(0, .lst ys)]⟩)) = true) (ns : List Int) :
    ∃ S', runB (N + 2) (seqS (setS 1 (firstE m)) rest) [.scr (ns.map .int)] ⟨0, []⟩ = .ok (.bl true) S' := by
  have e : runB (N + 2) (seqS (setS 1 (firstE m)) rest) [.scr (ns.map .int)] ⟨0, []⟩ = fin (rest (some (.scr (ns.map .int)) :: some (.int (ns.head?.getD 0 % m)) :: List.replicate N none) ⟨1, [(0, .lst ((ns.take 1).map .int))]⟩) := by
    unfold runB seqS setS
    have hl : ([D.scr (ns.map .int)].map some ++ List.replicate (Nat.sub (N + 2) [D.scr (ns.map .int)].length) none : Env) = some (.scr (ns.map .int)) :: none :: List.replicate N none := by
      show some _ :: List.replicate (N + 1) none = _
      rw [List.replicate_succ]
    rw [hl, first_mod ns m hm]
    rfl
  rw [e]
  have h0 : 0 ≤ ns.head?.getD 0 % (m : Int) := Int.emod_nonneg _ (by omega)
  have h1 : ns.head?.getD 0 % (m : Int) < m := Int.emod_lt_of_pos _ (by omega)
  have h2 : ns.head?.getD 0 % (m : Int) = (((ns.head?.getD 0 % (m : Int)).toNat : Nat) : Int) := by omega
  rw [h2]
  exact of_isT (h _ _ _ (by omega))
end DE

namespace K02
open PySem L2 PyProof.Rows DE
def row (i : Nat) : Stmt := PySem.Challenge.pw_layertrees_k02_names_by_hand.main.body.getD i (.Pass ⟨0, 0, 0, 0⟩)
abbrev s_is_whole : Stmt := row 10
abbrev s_is_name : Stmt := row 11
abbrev s_is_address : Stmt := row 12
abbrev s_is_node_name : Stmt := row 13
abbrev s_is_path : Stmt := row 14
abbrev s_is_text : Stmt := row 15
abbrev s_is_item : Stmt := row 16
abbrev s_rises : Stmt := row 17
abbrev s_property_fault : Stmt := row 18
abbrev s_node_fault : Stmt := row 19
abbrev s_check_tree : Stmt := row 20
abbrev s__law_deep : Stmt := row 22
abbrev s__law_path : Stmt := row 23
abbrev s__law_names_right : Stmt := row 24
abbrev s__law_items_right : Stmt := row 25
abbrev s_law : Stmt := row 26
def d_DIGITS : D := .str [48, 49, 50, 51, 52, 53, 54, 55, 56, 57]
def d_EMPTY : D := .tup [.tup [], .tup []]
def d_HEXADECIMAL : D := .str [48, 49, 50, 51, 52, 53, 54, 55, 56, 57, 97, 98, 99, 100, 101, 102]
def d_MOST_ADDRESS : D := .int (16)
def d_MOST_CELL : D := .int (4294967295)
def d_MOST_LETTERS : D := .int (31)
def d_MOST_TEXT : D := .int (100)
def d_PRINTABLE : D := .str [32, 33, 35, 36, 38, 39, 40, 41, 42, 43, 44, 45, 46, 47, 48, 49, 50, 51, 52, 53, 54, 55, 56, 57, 58, 59, 60, 61, 62, 63, 64, 65, 66, 67, 68, 69, 70, 71, 72, 73, 74, 75, 76, 77, 78, 79, 80, 81, 82, 83, 84, 85, 86, 87, 88, 89, 90, 91, 93, 94, 95, 96, 97, 98, 99, 100, 101, 102, 103, 104, 105, 106, 107, 108, 109, 110, 111, 112, 113, 114, 115, 116, 117, 118, 119, 120, 121, 122, 123, 124, 125, 126]
def d_SMALL : D := .str [97, 98, 99, 100, 101, 102, 103, 104, 105, 106, 107, 108, 109, 110, 111, 112, 113, 114, 115, 116, 117, 118, 119, 120, 121, 122]
structure Fns where
  is_whole : Fn
  is_name : Fn
  is_address : Fn
  is_node_name : Fn
  is_path : Fn
  is_text : Fn
  is_item : Fn
  rises : Fn
  property_fault : Fn
  node_fault : Fn
  check_tree : Fn
  _law_deep : Fn
  _law_path : Fn
  _law_names_right : Fn
  _law_items_right : Fn
  law : Fn
def fns0 : Fns := ⟨fun _ _ => .bad, fun _ _ => .bad, fun _ _ => .bad, fun _ _ => .bad, fun _ _ => .bad, fun _ _ => .bad, fun _ _ => .bad, fun _ _ => .bad, fun _ _ => .bad, fun _ _ => .bad, fun _ _ => .bad, fun _ _ => .bad, fun _ _ => .bad, fun _ _ => .bad, fun _ _ => .bad, fun _ _ => .bad⟩
def b_is_whole (F : Fns) : Sm :=
  (retS (andV (una (isiD .int) (var 0)) (andV (notV (una (isiD .bool) (var 0))) (bin geO (var 0) (cst (.int 0))))))
def b_is_name (F : Fns) : Sm :=
  (seqS (ifS (orE (notE (tstE (una (isiD .str) (var 0)))) (orE (notE (blE (chainE leO leO (cst (.int 1)) (fnE lenF (consE (var 0) nilE)) (cst d_MOST_LETTERS)))) (blE (bin ninO (bin idxO (var 0) (cst (.int 0))) (cst d_SMALL)))))
    (retS (cst (.bl false)))
    nopS)
  (retS (fnE allF (consE (lcE (walkE (var 0)) (.nm 1) yesE (orV (bin inO (var 1) (cst d_SMALL)) (orV (bin inO (var 1) (cst d_DIGITS)) (bin eqO (var 1) (cst (.str [45]))))) [1]) nilE))))
def b_is_address (F : Fns) : Sm :=
  (seqS (ifS (orE (notE (blE (chainE leO leO (cst (.int 1)) (fnE lenF (consE (var 0) nilE)) (cst d_MOST_ADDRESS)))) (notE (tstE (fnE allF (consE (lcE (walkE (var 0)) (.nm 1) yesE (bin inO (var 1) (cst d_HEXADECIMAL)) [1]) nilE)))))
    (retS (cst (.bl false)))
    nopS)
  (retS (orV (bin eqO (var 0) (cst (.str [48]))) (bin neO (bin idxO (var 0) (cst (.int 0))) (cst (.str [48]))))))
def b_is_node_name (F : Fns) : Sm :=
  (seqS (ifS (notE (tstE (una (isiD .str) (var 0))))
    (retS (cst (.bl false)))
    nopS)
  (seqS (asgS (.tp (.cons (.nm 1) (.cons (.nm 2) (.cons (.nm 3) .nil)))) (metE isStr partM (var 0) (consE (cst (.str [64])) nilE)))
  (retS (andV (callE (arity 1 F.is_name) (consE (var 1) nilE)) (orV (bin eqO (var 2) (cst (.str []))) (callE (arity 1 F.is_address) (consE (var 3) nilE)))))))
def b_is_path (F : Fns) : Sm :=
  (retS (andV (una (isiD .tuple) (var 0)) (fnE allF (consE (lcE (walkE (var 0)) (.nm 1) yesE (callE (arity 1 F.is_node_name) (consE (var 1) nilE)) [1]) nilE))))
def b_is_text (F : Fns) : Sm :=
  (seqS (ifS (orE (notE (tstE (una (isiD .str) (var 0)))) (blE (bin gtO (fnE lenF (consE (var 0) nilE)) (cst d_MOST_TEXT))))
    (retS (cst (.bl false)))
    nopS)
  (retS (fnE allF (consE (lcE (walkE (var 0)) (.nm 1) yesE (bin inO (var 1) (cst d_PRINTABLE)) [1]) nilE))))
def b_is_item (F : Fns) : Sm :=
  (seqS (ifS (tstE (una (isiD .tuple) (var 0)))
    (retS (andV (bin eqO (fnE lenF (consE (var 0) nilE)) (cst (.int 2))) (andV (bin eqO (bin idxO (var 0) (cst (.int 0))) (cst (.str [116, 111]))) (callE (arity 1 F.is_path) (consE (bin idxO (var 0) (cst (.int 1))) nilE)))))
    nopS)
  (retS (orV (callE (arity 1 F.is_text) (consE (var 0) nilE)) (andV (callE (arity 1 F.is_whole) (consE (var 0) nilE)) (bin leO (var 0) (cst d_MOST_CELL))))))
def b_rises (F : Fns) : Sm :=
  (retS (orV (bin eqO (var 1) (cst (.int 0))) (bin ltO (bin idxO (bin idxO (var 0) (bin subO (var 1) (cst (.int 1)))) (cst (.int 0))) (bin idxO (bin idxO (var 0) (var 1)) (cst (.int 0))))))
def b_property_fault (F : Fns) : Sm :=
  (seqS (setS 3 (bin idxO (bin idxO (var 0) (cst (.int 0))) (var 2)))
  (seqS (ifS (orE (notE (tstE (una (isiD .tuple) (var 3)))) (orE (blE (bin neO (fnE lenF (consE (var 3) nilE)) (cst (.int 2)))) (orE (notE (tstE (callE (arity 1 F.is_name) (consE (bin idxO (var 3) (cst (.int 0))) nilE)))) (notE (tstE (callE (arity 2 F.rises) (consE (bin idxO (var 0) (cst (.int 0))) (consE (var 2) nilE))))))))
    (retS (tupE (consE (cst (.str [112, 114, 111, 112, 101, 114, 116, 121])) (consE (var 1) (consE (var 2) nilE)))))
    nopS)
  (seqS (ifS (notE (tstE (una (isiD .tuple) (bin idxO (var 3) (cst (.int 1))))))
    (retS (tupE (consE (cst (.str [112, 114, 111, 112, 101, 114, 116, 121])) (consE (var 1) (consE (var 2) nilE)))))
    nopS)
  (seqS (forS (enumE (bin idxO (var 3) (cst (.int 1)))) (.tp (.cons (.nm 4) (.cons (.nm 5) .nil)))
    (ifS (notE (tstE (callE (arity 1 F.is_item) (consE (var 5) nilE))))
    (retS (tupE (consE (cst (.str [105, 116, 101, 109])) (consE (var 1) (consE (var 2) (consE (var 4) nilE))))))
    nopS))
  (retS (cst .non))))))
def b_node_fault (F : Fns) : Sm :=
  (seqS (ifS (orE (notE (tstE (una (isiD .tuple) (var 0)))) (orE (blE (bin neO (fnE lenF (consE (var 0) nilE)) (cst (.int 2)))) (notE (tstE (fnE allF (consE (lcE (walkE (var 0)) (.nm 5) yesE (una (isiD .tuple) (var 5)) [5]) nilE))))))
    (retS (tupE (consE (cst (.str [110, 111, 100, 101])) (consE (var 1) nilE))))
    nopS)
  (seqS (forS (rngE1 (fnE lenF (consE (bin idxO (var 0) (cst (.int 0))) nilE))) (.nm 2)
    (seqS (setS 3 (callE (arity 3 F.property_fault) (consE (var 0) (consE (var 1) (consE (var 2) nilE)))))
  (ifS (blE (bin isnN (var 3) (cst .non)))
    (retS (var 3))
    nopS)))
  (seqS (forS (enumE (bin idxO (var 0) (cst (.int 1)))) (.tp (.cons (.nm 2) (.cons (.nm 4) .nil)))
    (seqS (ifS (orE (notE (tstE (una (isiD .tuple) (var 4)))) (orE (blE (bin neO (fnE lenF (consE (var 4) nilE)) (cst (.int 2)))) (orE (notE (tstE (callE (arity 1 F.is_node_name) (consE (bin idxO (var 4) (cst (.int 0))) nilE)))) (notE (tstE (callE (arity 2 F.rises) (consE (bin idxO (var 0) (cst (.int 1))) (consE (var 2) nilE))))))))
    (retS (tupE (consE (cst (.str [99, 104, 105, 108, 100])) (consE (var 1) (consE (var 2) nilE)))))
    nopS)
  (seqS (setS 3 (callE (arity 2 F.node_fault) (consE (bin idxO (var 4) (cst (.int 1))) (consE (tupE (starE (var 1) (consE (bin idxO (var 4) (cst (.int 0))) nilE))) nilE))))
  (ifS (blE (bin isnN (var 3) (cst .non)))
    (retS (var 3))
    nopS))))
  (retS (cst .non)))))
def b_check_tree (F : Fns) : Sm :=
  (retS (callE (arity 2 F.node_fault) (consE (var 0) (consE (tupE nilE) nilE))))
def b__law_deep (F : Fns) : Sm :=
  (seqS (forS (rngE1 (var 1)) (.nm 2)
    (setS 0 (tupE (consE (tupE nilE) (consE (tupE (consE (tupE (consE (bin addO (cst (.str [110])) (fnE strF (consE (var 2) nilE))) (consE (var 0) nilE))) nilE)) nilE)))))
  (retS (var 0)))
def b__law_path (F : Fns) : Sm :=
  (retS (fnE tupleF (consE (lcE (rngE3 (bin subO (var 0) (cst (.int 1))) (una negO (cst (.int 1))) (una negO (cst (.int 1)))) (.nm 1) yesE (bin addO (cst (.str [110])) (fnE strF (consE (var 1) nilE))) [1]) nilE)))
def b__law_names_right (F : Fns) : Sm :=
  (seqS (setS 1 (callE (arity 1 F._law_path) (consE (var 0) nilE)))
  (seqS (setS 2 (lstE (consE (cst (.str [97])) (consE (cst (.str [122, 57])) (consE (cst (.str [97, 45])) (consE (cst (.str [97, 45, 45, 98])) (consE (bin mulO (cst (.str [120])) (cst (.int 31))) (consE (cst (.str [97, 48, 45, 122])) (consE (cst (.str [117, 110, 115, 101, 116])) (consE (cst (.str [116, 111])) nilE))))))))))
  (seqS (setS 3 (lstE (consE (cst (.str [])) (consE (cst (.str [65])) (consE (cst (.str [57, 97])) (consE (cst (.str [45, 97])) (consE (cst (.str [97, 32, 98])) (consE (cst (.str [97, 95, 98])) (consE (cst (.str [97, 46, 98])) (consE (bin mulO (cst (.str [120])) (cst (.int 32))) (consE (cst (.str [97, 64, 48])) (consE (cst (.str [97, 66])) (consE (cst .non) (consE (cst (.int 0)) (consE (cst (.bl true)) (consE (tupE (consE (cst (.str [97])) nilE)) (consE (lstE (consE (cst (.str [97])) nilE)) nilE)))))))))))))))))
  (seqS (forS (walkE (var 2)) (.nm 4)
    (seqS (ifS (blE (bin isnN (callE (arity 1 F.check_tree) (consE (callE (arity 2 F._law_deep) (consE (tupE (consE (tupE (consE (tupE (consE (var 4) (consE (tupE nilE) nilE))) nilE)) (consE (tupE nilE) nilE))) (consE (var 0) nilE))) nilE)) (cst .non)))
    (retS (cst (.bl false)))
    nopS)
  (ifS (blE (bin isnN (callE (arity 1 F.check_tree) (consE (callE (arity 2 F._law_deep) (consE (tupE (consE (tupE nilE) (consE (tupE (consE (tupE (consE (var 4) (consE (cst d_EMPTY) nilE))) nilE)) nilE))) (consE (var 0) nilE))) nilE)) (cst .non)))
    (retS (cst (.bl false)))
    nopS)))
  (seqS (forS (walkE (var 3)) (.nm 4)
    (ifS (blE (bin neO (callE (arity 1 F.check_tree) (consE (callE (arity 2 F._law_deep) (consE (tupE (consE (tupE (consE (tupE (consE (var 4) (consE (tupE nilE) nilE))) nilE)) (consE (tupE nilE) nilE))) (consE (var 0) nilE))) nilE)) (tupE (consE (cst (.str [112, 114, 111, 112, 101, 114, 116, 121])) (consE (var 1) (consE (cst (.int 0)) nilE))))))
    (retS (cst (.bl false)))
    nopS))
  (seqS (forS (walkE (lcE (walkE (var 3)) (.nm 5) (blE (bin neO (var 5) (cst (.str [97, 64, 48])))) (var 5) [5])) (.nm 4)
    (ifS (blE (bin neO (callE (arity 1 F.check_tree) (consE (callE (arity 2 F._law_deep) (consE (tupE (consE (tupE nilE) (consE (tupE (consE (tupE (consE (var 4) (consE (cst d_EMPTY) nilE))) nilE)) nilE))) (consE (var 0) nilE))) nilE)) (tupE (consE (cst (.str [99, 104, 105, 108, 100])) (consE (var 1) (consE (cst (.int 0)) nilE))))))
    (retS (cst (.bl false)))
    nopS))
  (seqS (forS (walkE (lstE (consE (cst (.str [97, 64, 48])) (consE (cst (.str [97, 64, 49, 102])) (consE (bin addO (cst (.str [97, 64])) (bin mulO (cst (.str [102])) (cst (.int 16)))) (consE (bin addO (bin mulO (cst (.str [120])) (cst (.int 31))) (cst (.str [64, 97]))) (consE (cst (.str [97, 64, 49, 48])) nilE))))))) (.nm 4)
    (ifS (blE (bin isnN (callE (arity 1 F.check_tree) (consE (callE (arity 2 F._law_deep) (consE (tupE (consE (tupE nilE) (consE (tupE (consE (tupE (consE (var 4) (consE (cst d_EMPTY) nilE))) nilE)) nilE))) (consE (var 0) nilE))) nilE)) (cst .non)))
    (retS (cst (.bl false)))
    nopS))
  (seqS (forS (walkE (lstE (consE (cst (.str [97, 64])) (consE (cst (.str [64, 48])) (consE (cst (.str [97, 64, 48, 48])) (consE (cst (.str [97, 64, 48, 49])) (consE (cst (.str [97, 64, 103])) (consE (cst (.str [97, 64, 70])) (consE (bin addO (cst (.str [97, 64])) (bin mulO (cst (.str [49])) (cst (.int 17)))) (consE (cst (.str [97, 64, 49, 64, 50])) (consE (cst (.str [97, 64, 45, 49])) (consE (bin addO (bin mulO (cst (.str [120])) (cst (.int 32))) (cst (.str [64, 48]))) (consE (cst (.str [97, 64, 48, 120, 49])) nilE))))))))))))) (.nm 4)
    (ifS (blE (bin neO (callE (arity 1 F.check_tree) (consE (callE (arity 2 F._law_deep) (consE (tupE (consE (tupE nilE) (consE (tupE (consE (tupE (consE (var 4) (consE (cst d_EMPTY) nilE))) nilE)) nilE))) (consE (var 0) nilE))) nilE)) (tupE (consE (cst (.str [99, 104, 105, 108, 100])) (consE (var 1) (consE (cst (.int 0)) nilE))))))
    (retS (cst (.bl false)))
    nopS))
  (retS (cst (.bl true)))))))))))
def b__law_items_right (F : Fns) : Sm :=
  (seqS (setS 1 (callE (arity 1 F._law_path) (consE (var 0) nilE)))
  (seqS (setS 2 (lstE (consE (cst (.int 0)) (consE (cst (.int 1)) (consE (bin subO (bin powO (cst (.int 2)) (cst (.int 32))) (cst (.int 1))) (consE (cst (.str [])) (consE (cst (.str [32])) (consE (cst (.str [126])) (consE (bin mulO (cst (.str [120])) (cst (.int 100))) (consE (cst (.str [35])) (consE (cst (.str [39])) (consE (cst (.str [123, 125, 59])) (consE (tupE (consE (cst (.str [116, 111])) (consE (tupE nilE) nilE))) (consE (tupE (consE (cst (.str [116, 111])) (consE (tupE (consE (cst (.str [97])) (consE (cst (.str [98, 64, 48])) nilE))) nilE))) (consE (cst (.str [36, 38])) nilE)))))))))))))))
  (seqS (setS 3 (lstE (consE (una negO (cst (.int 1))) (consE (bin powO (cst (.int 2)) (cst (.int 32))) (consE (bin powO (cst (.int 10)) (cst (.int 30))) (consE (cst .non) (consE (cst (.bl true)) (consE (cst (.bl false)) (consE (bin mulO (cst (.str [120])) (cst (.int 101))) nilE)))))))))
  (seqS (setS 3 (bin addO (var 3) (lstE (consE (cst (.str [34])) (consE (cst (.str [92])) (consE (cst (.str [10])) (consE (cst (.str [9])) (consE (tupE nilE) (consE (tupE (consE (cst (.str [116, 111])) nilE)) (consE (tupE (consE (cst (.str [116, 111])) (consE (cst (.str [97])) nilE))) nilE))))))))))
  (seqS (setS 3 (bin addO (var 3) (lstE (consE (tupE (consE (cst (.str [116, 111])) (consE (lstE (consE (cst (.str [97])) nilE)) nilE))) (consE (tupE (consE (cst (.str [116, 111])) (consE (tupE (consE (cst (.str [65])) nilE)) nilE))) (consE (tupE (consE (cst (.str [116, 111])) (consE (tupE nilE) (consE (tupE nilE) nilE)))) (consE (tupE (consE (cst (.str [97, 116])) (consE (tupE nilE) nilE))) nilE)))))))
  (seqS (setS 3 (bin addO (var 3) (lstE (consE (lstE nilE) (consE (dnewK) (consE (tupE (consE (cst (.str [97])) (consE (tupE (consE (cst (.str [97])) nilE)) nilE))) (consE (lstE (consE (cst (.str [116, 111])) (consE (tupE (consE (cst (.str [97])) nilE)) nilE))) nilE)))))))
  (seqS (forS (walkE (var 2)) (.nm 4)
    (ifS (blE (bin isnN (callE (arity 1 F.check_tree) (consE (callE (arity 2 F._law_deep) (consE (tupE (consE (tupE (consE (tupE (consE (cst (.str [112])) (consE (tupE (consE (var 4) (consE (var 4) nilE))) nilE))) nilE)) (consE (tupE nilE) nilE))) (consE (var 0) nilE))) nilE)) (cst .non)))
    (retS (cst (.bl false)))
    nopS))
  (seqS (forS (walkE (var 3)) (.nm 4)
    (seqS (ifS (blE (bin neO (callE (arity 1 F.check_tree) (consE (callE (arity 2 F._law_deep) (consE (tupE (consE (tupE (consE (tupE (consE (cst (.str [112])) (consE (tupE (consE (cst (.int 1)) (consE (var 4) nilE))) nilE))) nilE)) (consE (tupE nilE) nilE))) (consE (var 0) nilE))) nilE)) (tupE (consE (cst (.str [105, 116, 101, 109])) (consE (var 1) (consE (cst (.int 0)) (consE (cst (.int 1)) nilE)))))))
    (retS (cst (.bl false)))
    nopS)
  (ifS (blE (bin neO (callE (arity 1 F.check_tree) (consE (callE (arity 2 F._law_deep) (consE (tupE (consE (tupE (consE (tupE (consE (cst (.str [112])) (consE (tupE (consE (var 4) (consE (una negO (cst (.int 1))) nilE))) nilE))) (consE (tupE (consE (cst (.str [112])) (consE (tupE nilE) nilE))) nilE))) (consE (tupE nilE) nilE))) (consE (var 0) nilE))) nilE)) (tupE (consE (cst (.str [105, 116, 101, 109])) (consE (var 1) (consE (cst (.int 0)) (consE (cst (.int 0)) nilE)))))))
    (retS (cst (.bl false)))
    nopS)))
  (retS (cst (.bl true)))))))))))
def b_law_rest (F : Fns) : Sm :=
  (seqS (ifS (orE (notE (tstE (callE (arity 1 F._law_names_right) (consE (var 1) nilE)))) (notE (tstE (callE (arity 1 F._law_items_right) (consE (var 1) nilE)))))
    (retS (cst (.bl false)))
    nopS)
  (seqS (setS 2 (callE (arity 1 F._law_path) (consE (var 1) nilE)))
  (seqS (setS 3 (tupE (consE (tupE (consE (cst (.str [97])) (consE (tupE nilE) nilE))) (consE (tupE (consE (cst (.str [98])) (consE (tupE nilE) nilE))) nilE))))
  (seqS (ifS (blE (bin neO (callE (arity 1 F.check_tree) (consE (callE (arity 2 F._law_deep) (consE (tupE (consE (una revO (var 3)) (consE (tupE nilE) nilE))) (consE (var 1) nilE))) nilE)) (tupE (consE (cst (.str [112, 114, 111, 112, 101, 114, 116, 121])) (consE (var 2) (consE (cst (.int 1)) nilE))))))
    (retS (cst (.bl false)))
    nopS)
  (seqS (ifS (blE (bin neO (callE (arity 1 F.check_tree) (consE (callE (arity 2 F._law_deep) (consE (tupE (consE (tupE (consE (bin idxO (var 3) (cst (.int 0))) (consE (bin idxO (var 3) (cst (.int 0))) nilE))) (consE (tupE nilE) nilE))) (consE (var 1) nilE))) nilE)) (tupE (consE (cst (.str [112, 114, 111, 112, 101, 114, 116, 121])) (consE (var 2) (consE (cst (.int 1)) nilE))))))
    (retS (cst (.bl false)))
    nopS)
  (seqS (setS 4 (tupE (consE (tupE (consE (cst (.str [97])) (consE (cst d_EMPTY) nilE))) (consE (tupE (consE (cst (.str [97, 64, 48])) (consE (cst d_EMPTY) nilE))) (consE (tupE (consE (cst (.str [97, 64, 49])) (consE (cst d_EMPTY) nilE))) (consE (tupE (consE (cst (.str [97, 98])) (consE (cst d_EMPTY) nilE))) nilE))))))
  (seqS (ifS (blE (bin isnN (callE (arity 1 F.check_tree) (consE (callE (arity 2 F._law_deep) (consE (tupE (consE (tupE nilE) (consE (var 4) nilE))) (consE (var 1) nilE))) nilE)) (cst .non)))
    (retS (cst (.bl false)))
    nopS)
  (seqS (ifS (blE (bin neO (callE (arity 1 F.check_tree) (consE (callE (arity 2 F._law_deep) (consE (tupE (consE (tupE nilE) (consE (bin addO (slE (var 4) (partE (cst (.int 1))) noPart) (slE (var 4) noPart (partE (cst (.int 1))))) nilE))) (consE (var 1) nilE))) nilE)) (tupE (consE (cst (.str [99, 104, 105, 108, 100])) (consE (var 2) (consE (cst (.int 3)) nilE))))))
    (retS (cst (.bl false)))
    nopS)
  (seqS (forS (walkE (lstE (consE (lstE (consE (cst (.str [98])) (consE (tupE nilE) nilE))) (consE (tupE (consE (cst (.str [98])) (consE (tupE nilE) (consE (tupE nilE) nilE)))) (consE (tupE (consE (cst (.str [98])) (consE (tupE nilE) (consE (cst .non) nilE)))) (consE (tupE (consE (cst (.str [98])) nilE)) (consE (lstE nilE) (consE (cst (.str [98, 97])) (consE (tupE (consE (cst (.str [98])) (consE (lstE nilE) nilE))) (consE (cst .non) nilE)))))))))) (.nm 5)
    (ifS (blE (bin neO (callE (arity 1 F.check_tree) (consE (callE (arity 2 F._law_deep) (consE (tupE (consE (tupE (consE (tupE (consE (cst (.str [97])) (consE (tupE nilE) nilE))) (consE (var 5) nilE))) (consE (tupE nilE) nilE))) (consE (var 1) nilE))) nilE)) (tupE (consE (cst (.str [112, 114, 111, 112, 101, 114, 116, 121])) (consE (var 2) (consE (cst (.int 1)) nilE))))))
    (retS (cst (.bl false)))
    nopS))
  (seqS (forS (walkE (lstE (consE (lstE (consE (cst (.str [98])) (consE (cst d_EMPTY) nilE))) (consE (tupE (consE (cst (.str [98])) (consE (cst d_EMPTY) (consE (tupE nilE) nilE)))) (consE (tupE (consE (cst (.str [98])) (consE (cst d_EMPTY) (consE (cst d_EMPTY) nilE)))) (consE (tupE (consE (cst (.str [98])) nilE)) (consE (lstE nilE) (consE (cst (.str [98, 97])) (consE (cst .non) nilE))))))))) (.nm 5)
    (ifS (blE (bin neO (callE (arity 1 F.check_tree) (consE (callE (arity 2 F._law_deep) (consE (tupE (consE (tupE nilE) (consE (tupE (consE (tupE (consE (cst (.str [97])) (consE (cst d_EMPTY) nilE))) (consE (var 5) nilE))) nilE))) (consE (var 1) nilE))) nilE)) (tupE (consE (cst (.str [99, 104, 105, 108, 100])) (consE (var 2) (consE (cst (.int 1)) nilE))))))
    (retS (cst (.bl false)))
    nopS))
  (retS (bin eqO (callE (arity 1 F.check_tree) (consE (callE (arity 2 F._law_deep) (consE (tupE (consE (tupE (consE (tupE (consE (cst (.str [97])) (consE (lstE nilE) nilE))) nilE)) (consE (tupE nilE) nilE))) (consE (var 1) nilE))) nilE)) (tupE (consE (cst (.str [112, 114, 111, 112, 101, 114, 116, 121])) (consE (var 2) (consE (cst (.int 0)) nilE))))))))))))))))
def b_law (F : Fns) : Sm :=
  (seqS (setS 1 (bin modO (fnE intF (consE (fnE sumF (consE (slE (var 0) noPart (partE (cst (.int 1)))) nilE)) nilE)) (cst (.int 7)))) (b_law_rest F))
def more (F : Fns) : Fns := ⟨runB 1 (b_is_whole F), runB 2 (b_is_name F), runB 2 (b_is_address F), runB 4 (b_is_node_name F), runB 2 (b_is_path F), runB 2 (b_is_text F), runB 1 (b_is_item F), runB 2 (b_rises F), runB 6 (b_property_fault F), runB 6 (b_node_fault F), runB 1 (b_check_tree F), runB 3 (b__law_deep F), runB 2 (b__law_path F), runB 6 (b__law_names_right F), runB 5 (b__law_items_right F), runB 6 (b_law F)⟩
def fns (k : Nat) : Fns := Nat.rec fns0 (fun _ F => more F) k
structure Gm (K : PySem.W.Frag) (mg : Str → Option Value) : Prop where
  n_all : mg "all" = none
  n_bool : mg "bool" = none
  n_enumerate : mg "enumerate" = none
  n_int : mg "int" = none
  n_isinstance : mg "isinstance" = none
  n_len : mg "len" = none
  n_range : mg "range" = none
  n_str : mg "str" = none
  n_sum : mg "sum" = none
  n_tuple : mg "tuple" = none
  DIGITS : GlD K mg "DIGITS" d_DIGITS
  EMPTY : GlD K mg "EMPTY" d_EMPTY
  HEXADECIMAL : GlD K mg "HEXADECIMAL" d_HEXADECIMAL
  MOST_ADDRESS : GlD K mg "MOST_ADDRESS" d_MOST_ADDRESS
  MOST_CELL : GlD K mg "MOST_CELL" d_MOST_CELL
  MOST_LETTERS : GlD K mg "MOST_LETTERS" d_MOST_LETTERS
  MOST_TEXT : GlD K mg "MOST_TEXT" d_MOST_TEXT
  PRINTABLE : GlD K mg "PRINTABLE" d_PRINTABLE
  SMALL : GlD K mg "SMALL" d_SMALL
structure All (P : Program) (w : World) (K : PySem.W.Frag) (mg : Str → Option Value) (base : Heap) (k : Nat) (F : Fns) : Prop where
  is_whole : Dfn P w K mg base XR0 k "is_whole" 1 F.is_whole
  is_name : Dfn P w K mg base XR0 k "is_name" 1 F.is_name
  is_address : Dfn P w K mg base XR0 k "is_address" 1 F.is_address
  is_node_name : Dfn P w K mg base XR0 k "is_node_name" 1 F.is_node_name
  is_path : Dfn P w K mg base XR0 k "is_path" 1 F.is_path
  is_text : Dfn P w K mg base XR0 k "is_text" 1 F.is_text
  is_item : Dfn P w K mg base XR0 k "is_item" 1 F.is_item
  rises : Dfn P w K mg base XR0 k "rises" 2 F.rises
  property_fault : Dfn P w K mg base XR0 k "property_fault" 3 F.property_fault
  node_fault : Dfn P w K mg base XR0 k "node_fault" 2 F.node_fault
  check_tree : Dfn P w K mg base XR0 k "check_tree" 1 F.check_tree
  _law_deep : Dfn P w K mg base XR0 k "_law_deep" 2 F._law_deep
  _law_path : Dfn P w K mg base XR0 k "_law_path" 1 F._law_path
  _law_names_right : Dfn P w K mg base XR0 k "_law_names_right" 1 F._law_names_right
  _law_items_right : Dfn P w K mg base XR0 k "_law_items_right" 1 F._law_items_right
  law : Dfn P w K mg base XR0 k "law" 1 F.law
section
variable {P : Program} {w : World} {K : PySem.W.Frag} {mg : Str → Option Value} {base : Heap} {k : Nat} {F : Fns} {f : Addr} {fd : FuncData}
theorem sc_is_whole : FnScope ["value"] ["value"] (defScope s_is_whole) := ⟨rfl, rfl, rfl, by decide +kernel, rfl, by decide +kernel, by decide +kernel⟩
theorem ok_is_whole (A : All P w K mg base k F) (G : Gm K mg) (U : L2.Fun K "is_whole" "is_whole" s_is_whole f fd) : FnOk P w K mg base (L2.CX P w) (k + 1) f fd ["value"] (spD K XR0 (runB 1 (b_is_whole F)) 1) :=
  def_ok U sc_is_whole fun cdv A0 outer s H E hr =>
  (ss_one (ss_ret (se_and (se_isi (T := .int) (se_var (i := 0)) rfl G.n_isinstance rfl G.n_int bt_int) (se_and (se_not (se_isi (T := .bool) (se_var (i := 0)) rfl G.n_isinstance rfl G.n_bool bt_bool)) (se_one (se_cmp or_ge (se_var (i := 0)) (se_int)))))))
theorem sc_is_name : FnScope ["value", "sign"] ["value"] (defScope s_is_name) := ⟨rfl, rfl, rfl, by decide +kernel, rfl, by decide +kernel, by decide +kernel⟩
theorem ok_is_name (A : All P w K mg base k F) (G : Gm K mg) (U : L2.Fun K "is_name" "is_name" s_is_name f fd) : FnOk P w K mg base (L2.CX P w) (k + 1) f fd ["value"] (spD K XR0 (runB 2 (b_is_name F)) 1) :=
  def_ok U sc_is_name fun cdv A0 outer s H E hr =>
  (ss_cons (ss_if (st_pw (st_or (st_not (st_truth (se_isi (T := .str) (se_var (i := 0)) rfl G.n_isinstance rfl G.n_str bt_str))) (st_or (st_not (st_chain or_le or_le (se_int) (se_callB cr_len rfl G.n_len bt_len (sa_cons (se_var (i := 0)) sa_nil)) (se_gl G.MOST_LETTERS rfl))) (st_or1 (st_cmp (or_nin (hu65 hr)) (se_ix (se_var (i := 0)) (se_int)) (se_gl G.SMALL rfl))))))
    (ss_one (ss_ret (se_bl)))
    ss_nil)
  (ss_one (ss_ret (se_callB (cr_allF rfl) rfl G.n_all bt_all (sa_cons (se_lc (own := [("sign", 1)]) rfl sc_is_name.nd (si_walk (se_var (i := 0))) (blkOk_by (N := ["value", "sign"]) (sc := defScope s_is_name) (by decide +kernel)) (by decide) (fun _ _ _ _ _ => (sg_nm (i := 1) sc_is_name.nd)) (fun _ _ _ _ _ => sts_nil) (fun _ _ _ _ _ => (se_or (se_cmp (or_in (hu65 hr)) (se_var (i := 1)) (se_gl G.SMALL rfl)) (se_or (se_cmp (or_in (hu65 hr)) (se_var (i := 1)) (se_gl G.DIGITS rfl)) (se_one (se_cmp (or_eq (hu64 hr)) (se_var (i := 1)) (se_str))))))) sa_nil)))))
theorem sc_is_address : FnScope ["text", "sign"] ["text"] (defScope s_is_address) := ⟨rfl, rfl, rfl, by decide +kernel, rfl, by decide +kernel, by decide +kernel⟩
theorem ok_is_address (A : All P w K mg base k F) (G : Gm K mg) (U : L2.Fun K "is_address" "is_address" s_is_address f fd) : FnOk P w K mg base (L2.CX P w) (k + 1) f fd ["text"] (spD K XR0 (runB 2 (b_is_address F)) 1) :=
  def_ok U sc_is_address fun cdv A0 outer s H E hr =>
  (ss_cons (ss_if (st_pw (st_or (st_not (st_chain or_le or_le (se_int) (se_callB cr_len rfl G.n_len bt_len (sa_cons (se_var (i := 0)) sa_nil)) (se_gl G.MOST_ADDRESS rfl))) (st_or1 (st_not (st_truth (se_callB (cr_allF rfl) rfl G.n_all bt_all (sa_cons (se_lc (own := [("sign", 1)]) rfl sc_is_address.nd (si_walk (se_var (i := 0))) (blkOk_by (N := ["text", "sign"]) (sc := defScope s_is_address) (by decide +kernel)) (by decide) (fun _ _ _ _ _ => (sg_nm (i := 1) sc_is_address.nd)) (fun _ _ _ _ _ => sts_nil) (fun _ _ _ _ _ => (se_cmp (or_in (hu65 hr)) (se_var (i := 1)) (se_gl G.HEXADECIMAL rfl)))) sa_nil)))))))
    (ss_one (ss_ret (se_bl)))
    ss_nil)
  (ss_one (ss_ret (se_or (se_cmp (or_eq (hu64 hr)) (se_var (i := 0)) (se_str)) (se_one (se_cmp (or_ne (hu64 hr)) (se_ix (se_var (i := 0)) (se_int)) (se_str)))))))
theorem sc_is_node_name : FnScope ["value", "word", "sign", "address"] ["value"] (defScope s_is_node_name) := ⟨rfl, rfl, rfl, by decide +kernel, rfl, by decide +kernel, by decide +kernel⟩
theorem ok_is_node_name (A : All P w K mg base k F) (G : Gm K mg) (U : L2.Fun K "is_node_name" "is_node_name" s_is_node_name f fd) : FnOk P w K mg base (L2.CX P w) (k + 1) f fd ["value"] (spD K XR0 (runB 4 (b_is_node_name F)) 1) :=
  def_ok U sc_is_node_name fun cdv A0 outer s H E hr =>
  (ss_cons (ss_if (st_not (st_truth (se_isi (T := .str) (se_var (i := 0)) rfl G.n_isinstance rfl G.n_str bt_str)))
    (ss_one (ss_ret (se_bl)))
    ss_nil)
  (ss_cons (ss_asg (se_partition (se_var (i := 0)) (sa_cons (se_str) sa_nil)) (sg_tp rfl (sgs_cons (sg_nm (i := 1) sc_is_node_name.nd) (sgs_cons (sg_nm (i := 2) sc_is_node_name.nd) (sgs_cons (sg_nm (i := 3) sc_is_node_name.nd) sgs_nil))) fun _ _ h => flatPs_len h))
  (ss_one (ss_ret (se_and (se_call A.is_name hr (takes_of rfl rfl rfl rfl) rfl (sa_cons (se_var (i := 1)) sa_nil)) (se_one (se_or (se_cmp (or_eq (hu64 hr)) (se_var (i := 2)) (se_str)) (se_one (se_call A.is_address hr (takes_of rfl rfl rfl rfl) rfl (sa_cons (se_var (i := 3)) sa_nil))))))))))
theorem sc_is_path : FnScope ["value", "name"] ["value"] (defScope s_is_path) := ⟨rfl, rfl, rfl, by decide +kernel, rfl, by decide +kernel, by decide +kernel⟩
theorem ok_is_path (A : All P w K mg base k F) (G : Gm K mg) (U : L2.Fun K "is_path" "is_path" s_is_path f fd) : FnOk P w K mg base (L2.CX P w) (k + 1) f fd ["value"] (spD K XR0 (runB 2 (b_is_path F)) 1) :=
  def_ok U sc_is_path fun cdv A0 outer s H E hr =>
  (ss_one (ss_ret (se_and (se_isi (T := .tuple) (se_var (i := 0)) rfl G.n_isinstance rfl G.n_tuple bt_tuple) (se_one (se_callB (cr_allF rfl) rfl G.n_all bt_all (sa_cons (se_lc (own := [("name", 1)]) rfl sc_is_path.nd (si_walk (se_var (i := 0))) (blkOk_by (N := ["value", "name"]) (sc := defScope s_is_path) (by decide +kernel)) (by decide) (fun _ _ _ _ _ => (sg_nm (i := 1) sc_is_path.nd)) (fun _ _ _ _ _ => sts_nil) (fun _ _ _ _ _ => (se_call A.is_node_name hr takes0 rfl (sa_cons (se_var (i := 1)) sa_nil)))) sa_nil))))))
theorem sc_is_text : FnScope ["value", "sign"] ["value"] (defScope s_is_text) := ⟨rfl, rfl, rfl, by decide +kernel, rfl, by decide +kernel, by decide +kernel⟩
theorem ok_is_text (A : All P w K mg base k F) (G : Gm K mg) (U : L2.Fun K "is_text" "is_text" s_is_text f fd) : FnOk P w K mg base (L2.CX P w) (k + 1) f fd ["value"] (spD K XR0 (runB 2 (b_is_text F)) 1) :=
  def_ok U sc_is_text fun cdv A0 outer s H E hr =>
  (ss_cons (ss_if (st_pw (st_or (st_not (st_truth (se_isi (T := .str) (se_var (i := 0)) rfl G.n_isinstance rfl G.n_str bt_str))) (st_or1 (st_cmp or_gt (se_callB cr_len rfl G.n_len bt_len (sa_cons (se_var (i := 0)) sa_nil)) (se_gl G.MOST_TEXT rfl)))))
    (ss_one (ss_ret (se_bl)))
    ss_nil)
  (ss_one (ss_ret (se_callB (cr_allF rfl) rfl G.n_all bt_all (sa_cons (se_lc (own := [("sign", 1)]) rfl sc_is_text.nd (si_walk (se_var (i := 0))) (blkOk_by (N := ["value", "sign"]) (sc := defScope s_is_text) (by decide +kernel)) (by decide) (fun _ _ _ _ _ => (sg_nm (i := 1) sc_is_text.nd)) (fun _ _ _ _ _ => sts_nil) (fun _ _ _ _ _ => (se_cmp (or_in (hu65 hr)) (se_var (i := 1)) (se_gl G.PRINTABLE rfl)))) sa_nil)))))
theorem sc_is_item : FnScope ["value"] ["value"] (defScope s_is_item) := ⟨rfl, rfl, rfl, by decide +kernel, rfl, by decide +kernel, by decide +kernel⟩
theorem ok_is_item (A : All P w K mg base k F) (G : Gm K mg) (U : L2.Fun K "is_item" "is_item" s_is_item f fd) : FnOk P w K mg base (L2.CX P w) (k + 1) f fd ["value"] (spD K XR0 (runB 1 (b_is_item F)) 1) :=
  def_ok U sc_is_item fun cdv A0 outer s H E hr =>
  (ss_cons (ss_if (st_truth (se_isi (T := .tuple) (se_var (i := 0)) rfl G.n_isinstance rfl G.n_tuple bt_tuple))
    (ss_one (ss_ret (se_and (se_cmp (or_eq (hu64 hr)) (se_callB cr_len rfl G.n_len bt_len (sa_cons (se_var (i := 0)) sa_nil)) (se_int)) (se_and (se_cmp (or_eq (hu64 hr)) (se_ix (se_var (i := 0)) (se_int)) (se_str)) (se_one (se_call A.is_path hr (takes_of rfl rfl rfl rfl) rfl (sa_cons (se_ix (se_var (i := 0)) (se_int)) sa_nil)))))))
    ss_nil)
  (ss_one (ss_ret (se_or (se_call A.is_text hr (takes_of rfl rfl rfl rfl) rfl (sa_cons (se_var (i := 0)) sa_nil)) (se_one (se_and (se_call A.is_whole hr (takes_of rfl rfl rfl rfl) rfl (sa_cons (se_var (i := 0)) sa_nil)) (se_one (se_cmp or_le (se_var (i := 0)) (se_gl G.MOST_CELL rfl)))))))))
theorem sc_rises : FnScope ["rows", "place"] ["rows", "place"] (defScope s_rises) := ⟨rfl, rfl, rfl, by decide +kernel, rfl, by decide +kernel, by decide +kernel⟩
theorem ok_rises (A : All P w K mg base k F) (G : Gm K mg) (U : L2.Fun K "rises" "rises" s_rises f fd) : FnOk P w K mg base (L2.CX P w) (k + 1) f fd ["rows", "place"] (spD K XR0 (runB 2 (b_rises F)) 2) :=
  def_ok U sc_rises fun cdv A0 outer s H E hr =>
  (ss_one (ss_ret (se_or (se_cmp (or_eq (hu64 hr)) (se_var (i := 1)) (se_int)) (se_one (se_cmp or_lt (se_ix (se_ix (se_var (i := 0)) (se_bin or_sub (se_var (i := 1)) (se_int))) (se_int)) (se_ix (se_ix (se_var (i := 0)) (se_var (i := 1))) (se_int)))))))
theorem sc_property_fault : FnScope ["node", "path", "place", "row", "index", "item"] ["node", "path", "place"] (defScope s_property_fault) := ⟨rfl, rfl, rfl, by decide +kernel, rfl, by decide +kernel, by decide +kernel⟩
theorem ok_property_fault (A : All P w K mg base k F) (G : Gm K mg) (U : L2.Fun K "property_fault" "property_fault" s_property_fault f fd) : FnOk P w K mg base (L2.CX P w) (k + 1) f fd ["node", "path", "place"] (spD K XR0 (runB 6 (b_property_fault F)) 3) :=
  def_ok U sc_property_fault fun cdv A0 outer s H E hr =>
  (ss_cons (ss_set (i := 3) sc_property_fault.nd (se_ix (se_ix (se_var (i := 0)) (se_int)) (se_var (i := 2))))
  (ss_cons (ss_if (st_pw (st_or (st_not (st_truth (se_isi (T := .tuple) (se_var (i := 3)) rfl G.n_isinstance rfl G.n_tuple bt_tuple))) (st_or (st_cmp (or_ne (hu64 hr)) (se_callB cr_len rfl G.n_len bt_len (sa_cons (se_var (i := 3)) sa_nil)) (se_int)) (st_or (st_not (st_truth (se_call A.is_name hr (takes_of rfl rfl rfl rfl) rfl (sa_cons (se_ix (se_var (i := 3)) (se_int)) sa_nil)))) (st_or1 (st_not (st_truth (se_call A.rises hr (takes_of rfl rfl rfl rfl) rfl (sa_cons (se_ix (se_var (i := 0)) (se_int)) (sa_cons (se_var (i := 2)) sa_nil))))))))))
    (ss_one (ss_ret (se_tup (sa_cons (se_str) (sa_cons (se_var (i := 1)) (sa_cons (se_var (i := 2)) sa_nil))))))
    ss_nil)
  (ss_cons (ss_if (st_not (st_truth (se_isi (T := .tuple) (se_ix (se_var (i := 3)) (se_int)) rfl G.n_isinstance rfl G.n_tuple bt_tuple)))
    (ss_one (ss_ret (se_tup (sa_cons (se_str) (sa_cons (se_var (i := 1)) (sa_cons (se_var (i := 2)) sa_nil))))))
    ss_nil)
  (ss_cons (ss_for (passes_of rfl) rfl (si_enum (se_ix (se_var (i := 3)) (se_int)) rfl G.n_enumerate) (sg_tp rfl (sgs_cons (sg_nm (i := 4) sc_property_fault.nd) (sgs_cons (sg_nm (i := 5) sc_property_fault.nd) sgs_nil)) fun _ _ h => flatPs_len h)
    (ss_one (ss_if (st_not (st_truth (se_call A.is_item hr (takes_of rfl rfl rfl rfl) rfl (sa_cons (se_var (i := 5)) sa_nil))))
    (ss_one (ss_ret (se_tup (sa_cons (se_str) (sa_cons (se_var (i := 1)) (sa_cons (se_var (i := 2)) (sa_cons (se_var (i := 4)) sa_nil)))))))
    ss_nil)))
  (ss_one (ss_ret (se_non)))))))
theorem sc_node_fault : FnScope ["node", "path", "place", "fault", "row", "part"] ["node", "path"] (defScope s_node_fault) := ⟨rfl, rfl, rfl, by decide +kernel, rfl, by decide +kernel, by decide +kernel⟩
theorem ok_node_fault (A : All P w K mg base k F) (G : Gm K mg) (U : L2.Fun K "node_fault" "node_fault" s_node_fault f fd) : FnOk P w K mg base (L2.CX P w) (k + 1) f fd ["node", "path"] (spD K XR0 (runB 6 (b_node_fault F)) 2) :=
  def_ok U sc_node_fault fun cdv A0 outer s H E hr =>
  (ss_cons (ss_if (st_pw (st_or (st_not (st_truth (se_isi (T := .tuple) (se_var (i := 0)) rfl G.n_isinstance rfl G.n_tuple bt_tuple))) (st_or (st_cmp (or_ne (hu64 hr)) (se_callB cr_len rfl G.n_len bt_len (sa_cons (se_var (i := 0)) sa_nil)) (se_int)) (st_or1 (st_not (st_truth (se_callB (cr_allF rfl) rfl G.n_all bt_all (sa_cons (se_lc (own := [("part", 5)]) rfl sc_node_fault.nd (si_walk (se_var (i := 0))) (blkOk_by (N := ["node", "path", "place", "fault", "row", "part"]) (sc := defScope s_node_fault) (by decide +kernel)) (by decide) (fun _ _ _ _ _ => (sg_nm (i := 5) sc_node_fault.nd)) (fun _ _ _ _ _ => sts_nil) (fun _ _ _ _ _ => (se_isi (T := .tuple) (se_var (i := 5)) rfl G.n_isinstance rfl G.n_tuple bt_tuple))) sa_nil))))))))
    (ss_one (ss_ret (se_tup (sa_cons (se_str) (sa_cons (se_var (i := 1)) sa_nil)))))
    ss_nil)
  (ss_cons (ss_for (passes_of rfl) rfl (si_rng1 (se_callB cr_len rfl G.n_len bt_len (sa_cons (se_ix (se_var (i := 0)) (se_int)) sa_nil)) rfl G.n_range) (sg_nm (i := 2) sc_node_fault.nd)
    (ss_cons (ss_set (i := 3) sc_node_fault.nd (se_call A.property_fault hr (takes_of rfl rfl rfl rfl) rfl (sa_cons (se_var (i := 0)) (sa_cons (se_var (i := 1)) (sa_cons (se_var (i := 2)) sa_nil)))))
  (ss_one (ss_if (st_cmp or_isnt (se_var (i := 3)) (se_non))
    (ss_one (ss_ret (se_var (i := 3))))
    ss_nil))))
  (ss_cons (ss_for (passes_of rfl) rfl (si_enum (se_ix (se_var (i := 0)) (se_int)) rfl G.n_enumerate) (sg_tp rfl (sgs_cons (sg_nm (i := 2) sc_node_fault.nd) (sgs_cons (sg_nm (i := 4) sc_node_fault.nd) sgs_nil)) fun _ _ h => flatPs_len h)
    (ss_cons (ss_if (st_pw (st_or (st_not (st_truth (se_isi (T := .tuple) (se_var (i := 4)) rfl G.n_isinstance rfl G.n_tuple bt_tuple))) (st_or (st_cmp (or_ne (hu64 hr)) (se_callB cr_len rfl G.n_len bt_len (sa_cons (se_var (i := 4)) sa_nil)) (se_int)) (st_or (st_not (st_truth (se_call A.is_node_name hr (takes_of rfl rfl rfl rfl) rfl (sa_cons (se_ix (se_var (i := 4)) (se_int)) sa_nil)))) (st_or1 (st_not (st_truth (se_call A.rises hr (takes_of rfl rfl rfl rfl) rfl (sa_cons (se_ix (se_var (i := 0)) (se_int)) (sa_cons (se_var (i := 2)) sa_nil))))))))))
    (ss_one (ss_ret (se_tup (sa_cons (se_str) (sa_cons (se_var (i := 1)) (sa_cons (se_var (i := 2)) sa_nil))))))
    ss_nil)
  (ss_cons (ss_set (i := 3) sc_node_fault.nd (se_call A.node_fault hr (takes_of rfl rfl rfl rfl) rfl (sa_cons (se_ix (se_var (i := 4)) (se_int)) (sa_cons (se_tup (sa_star (se_var (i := 1)) (sa_cons (se_ix (se_var (i := 4)) (se_int)) sa_nil))) sa_nil))))
  (ss_one (ss_if (st_cmp or_isnt (se_var (i := 3)) (se_non))
    (ss_one (ss_ret (se_var (i := 3))))
    ss_nil)))))
  (ss_one (ss_ret (se_non))))))
theorem sc_check_tree : FnScope ["value"] ["value"] (defScope s_check_tree) := ⟨rfl, rfl, rfl, by decide +kernel, rfl, by decide +kernel, by decide +kernel⟩
theorem ok_check_tree (A : All P w K mg base k F) (G : Gm K mg) (U : L2.Fun K "check_tree" "check_tree" s_check_tree f fd) : FnOk P w K mg base (L2.CX P w) (k + 1) f fd ["value"] (spD K XR0 (runB 1 (b_check_tree F)) 1) :=
  def_ok U sc_check_tree fun cdv A0 outer s H E hr =>
  (ss_one (ss_ret (se_call A.node_fault hr (takes_of rfl rfl rfl rfl) rfl (sa_cons (se_var (i := 0)) (sa_cons (se_tup sa_nil) sa_nil)))))
theorem sc__law_deep : FnScope ["node", "depth", "level"] ["node", "depth"] (defScope s__law_deep) := ⟨rfl, rfl, rfl, by decide +kernel, rfl, by decide +kernel, by decide +kernel⟩
theorem ok__law_deep (A : All P w K mg base k F) (G : Gm K mg) (U : L2.Fun K "_law_deep" "_law_deep" s__law_deep f fd) : FnOk P w K mg base (L2.CX P w) (k + 1) f fd ["node", "depth"] (spD K XR0 (runB 3 (b__law_deep F)) 2) :=
  def_ok U sc__law_deep fun cdv A0 outer s H E hr =>
  (ss_cons (ss_for (passes_of rfl) rfl (si_rng1 (se_var (i := 1)) rfl G.n_range) (sg_nm (i := 2) sc__law_deep.nd)
    (ss_one (ss_set (i := 0) sc__law_deep.nd (se_tup (sa_cons (se_tup sa_nil) (sa_cons (se_tup (sa_cons (se_tup (sa_cons (se_bin or_add (se_str) (se_callTy cr_str rfl G.n_str bt_str (sa_cons (se_var (i := 2)) sa_nil))) (sa_cons (se_var (i := 0)) sa_nil))) sa_nil)) sa_nil))))))
  (ss_one (ss_ret (se_var (i := 0)))))
theorem sc__law_path : FnScope ["depth", "level"] ["depth"] (defScope s__law_path) := ⟨rfl, rfl, rfl, by decide +kernel, rfl, by decide +kernel, by decide +kernel⟩
theorem ok__law_path (A : All P w K mg base k F) (G : Gm K mg) (U : L2.Fun K "_law_path" "_law_path" s__law_path f fd) : FnOk P w K mg base (L2.CX P w) (k + 1) f fd ["depth"] (spD K XR0 (runB 2 (b__law_path F)) 1) :=
  def_ok U sc__law_path fun cdv A0 outer s H E hr =>
  (ss_one (ss_ret (se_callTy cr_tuple rfl G.n_tuple bt_tuple (sa_cons (se_lc (own := [("level", 1)]) rfl sc__law_path.nd (si_rng3 (se_bin or_sub (se_var (i := 0)) (se_int)) (se_un or_neg (se_int)) (se_un or_neg (se_int)) rfl G.n_range) (blkOk_by (N := ["depth", "level"]) (sc := defScope s__law_path) (by decide +kernel)) (by decide) (fun _ _ _ _ _ => (sg_nm (i := 1) sc__law_path.nd)) (fun _ _ _ _ _ => sts_nil) (fun _ _ _ _ _ => (se_bin or_add (se_str) (se_callTy cr_str rfl G.n_str bt_str (sa_cons (se_var (i := 1)) sa_nil))))) sa_nil))))
theorem sc__law_names_right : FnScope ["depth", "path", "good", "bad", "name", "one"] ["depth"] (defScope s__law_names_right) := ⟨rfl, rfl, rfl, by decide +kernel, rfl, by decide +kernel, by decide +kernel⟩
theorem ok__law_names_right (A : All P w K mg base k F) (G : Gm K mg) (U : L2.Fun K "_law_names_right" "_law_names_right" s__law_names_right f fd) : FnOk P w K mg base (L2.CX P w) (k + 1) f fd ["depth"] (spD K XR0 (runB 6 (b__law_names_right F)) 1) :=
  def_ok U sc__law_names_right fun cdv A0 outer s H E hr =>
  (ss_cons (ss_set (i := 1) sc__law_names_right.nd (se_call A._law_path hr (takes_of rfl rfl rfl rfl) rfl (sa_cons (se_var (i := 0)) sa_nil)))
  (ss_cons (ss_set (i := 2) sc__law_names_right.nd (se_lst (sa_cons (se_str) (sa_cons (se_str) (sa_cons (se_str) (sa_cons (se_str) (sa_cons (se_bin or_mul (se_str) (se_int)) (sa_cons (se_str) (sa_cons (se_str) (sa_cons (se_str) sa_nil))))))))))
  (ss_cons (ss_set (i := 3) sc__law_names_right.nd (se_lst (sa_cons (se_str) (sa_cons (se_str) (sa_cons (se_str) (sa_cons (se_str) (sa_cons (se_str) (sa_cons (se_str) (sa_cons (se_str) (sa_cons (se_bin or_mul (se_str) (se_int)) (sa_cons (se_str) (sa_cons (se_str) (sa_cons (se_non) (sa_cons (se_int) (sa_cons (se_bl) (sa_cons (se_tup (sa_cons (se_str) sa_nil)) (sa_cons (se_lst (sa_cons (se_str) sa_nil)) sa_nil)))))))))))))))))
  (ss_cons (ss_for (passes_of rfl) rfl (si_walk (se_var (i := 2))) (sg_nm (i := 4) sc__law_names_right.nd)
    (ss_cons (ss_if (st_cmp or_isnt (se_call A.check_tree hr (takes_of rfl rfl rfl rfl) rfl (sa_cons (se_call A._law_deep hr (takes_of rfl rfl rfl rfl) rfl (sa_cons (se_tup (sa_cons (se_tup (sa_cons (se_tup (sa_cons (se_var (i := 4)) (sa_cons (se_tup sa_nil) sa_nil))) sa_nil)) (sa_cons (se_tup sa_nil) sa_nil))) (sa_cons (se_var (i := 0)) sa_nil))) sa_nil)) (se_non))
    (ss_one (ss_ret (se_bl)))
    ss_nil)
  (ss_one (ss_if (st_cmp or_isnt (se_call A.check_tree hr (takes_of rfl rfl rfl rfl) rfl (sa_cons (se_call A._law_deep hr (takes_of rfl rfl rfl rfl) rfl (sa_cons (se_tup (sa_cons (se_tup sa_nil) (sa_cons (se_tup (sa_cons (se_tup (sa_cons (se_var (i := 4)) (sa_cons (se_gl G.EMPTY rfl) sa_nil))) sa_nil)) sa_nil))) (sa_cons (se_var (i := 0)) sa_nil))) sa_nil)) (se_non))
    (ss_one (ss_ret (se_bl)))
    ss_nil))))
  (ss_cons (ss_for (passes_of rfl) rfl (si_walk (se_var (i := 3))) (sg_nm (i := 4) sc__law_names_right.nd)
    (ss_one (ss_if (st_cmp (or_ne (hu64 hr)) (se_call A.check_tree hr (takes_of rfl rfl rfl rfl) rfl (sa_cons (se_call A._law_deep hr (takes_of rfl rfl rfl rfl) rfl (sa_cons (se_tup (sa_cons (se_tup (sa_cons (se_tup (sa_cons (se_var (i := 4)) (sa_cons (se_tup sa_nil) sa_nil))) sa_nil)) (sa_cons (se_tup sa_nil) sa_nil))) (sa_cons (se_var (i := 0)) sa_nil))) sa_nil)) (se_tup (sa_cons (se_str) (sa_cons (se_var (i := 1)) (sa_cons (se_int) sa_nil)))))
    (ss_one (ss_ret (se_bl)))
    ss_nil)))
  (ss_cons (ss_for (passes_of rfl) rfl (si_walk (se_lc (own := [("one", 5)]) rfl sc__law_names_right.nd (si_walk (se_var (i := 3))) (blkOk_by (N := ["depth", "path", "good", "bad", "name", "one"]) (sc := defScope s__law_names_right) (by decide +kernel)) (by decide) (fun _ _ _ _ _ => (sg_nm (i := 5) sc__law_names_right.nd)) (fun _ _ _ _ _ => (sts_one (st_cmp (or_ne (hu64 hr)) (se_var (i := 5)) (se_str)))) (fun _ _ _ _ _ => (se_var (i := 5))))) (sg_nm (i := 4) sc__law_names_right.nd)
    (ss_one (ss_if (st_cmp (or_ne (hu64 hr)) (se_call A.check_tree hr (takes_of rfl rfl rfl rfl) rfl (sa_cons (se_call A._law_deep hr (takes_of rfl rfl rfl rfl) rfl (sa_cons (se_tup (sa_cons (se_tup sa_nil) (sa_cons (se_tup (sa_cons (se_tup (sa_cons (se_var (i := 4)) (sa_cons (se_gl G.EMPTY rfl) sa_nil))) sa_nil)) sa_nil))) (sa_cons (se_var (i := 0)) sa_nil))) sa_nil)) (se_tup (sa_cons (se_str) (sa_cons (se_var (i := 1)) (sa_cons (se_int) sa_nil)))))
    (ss_one (ss_ret (se_bl)))
    ss_nil)))
  (ss_cons (ss_for (passes_of rfl) rfl (si_walk (se_lst (sa_cons (se_str) (sa_cons (se_str) (sa_cons (se_bin or_add (se_str) (se_bin or_mul (se_str) (se_int))) (sa_cons (se_bin or_add (se_bin or_mul (se_str) (se_int)) (se_str)) (sa_cons (se_str) sa_nil))))))) (sg_nm (i := 4) sc__law_names_right.nd)
    (ss_one (ss_if (st_cmp or_isnt (se_call A.check_tree hr (takes_of rfl rfl rfl rfl) rfl (sa_cons (se_call A._law_deep hr (takes_of rfl rfl rfl rfl) rfl (sa_cons (se_tup (sa_cons (se_tup sa_nil) (sa_cons (se_tup (sa_cons (se_tup (sa_cons (se_var (i := 4)) (sa_cons (se_gl G.EMPTY rfl) sa_nil))) sa_nil)) sa_nil))) (sa_cons (se_var (i := 0)) sa_nil))) sa_nil)) (se_non))
    (ss_one (ss_ret (se_bl)))
    ss_nil)))
  (ss_cons (ss_for (passes_of rfl) rfl (si_walk (se_lst (sa_cons (se_str) (sa_cons (se_str) (sa_cons (se_str) (sa_cons (se_str) (sa_cons (se_str) (sa_cons (se_str) (sa_cons (se_bin or_add (se_str) (se_bin or_mul (se_str) (se_int))) (sa_cons (se_str) (sa_cons (se_str) (sa_cons (se_bin or_add (se_bin or_mul (se_str) (se_int)) (se_str)) (sa_cons (se_str) sa_nil))))))))))))) (sg_nm (i := 4) sc__law_names_right.nd)
    (ss_one (ss_if (st_cmp (or_ne (hu64 hr)) (se_call A.check_tree hr (takes_of rfl rfl rfl rfl) rfl (sa_cons (se_call A._law_deep hr (takes_of rfl rfl rfl rfl) rfl (sa_cons (se_tup (sa_cons (se_tup sa_nil) (sa_cons (se_tup (sa_cons (se_tup (sa_cons (se_var (i := 4)) (sa_cons (se_gl G.EMPTY rfl) sa_nil))) sa_nil)) sa_nil))) (sa_cons (se_var (i := 0)) sa_nil))) sa_nil)) (se_tup (sa_cons (se_str) (sa_cons (se_var (i := 1)) (sa_cons (se_int) sa_nil)))))
    (ss_one (ss_ret (se_bl)))
    ss_nil)))
  (ss_one (ss_ret (se_bl)))))))))))
theorem sc__law_items_right : FnScope ["depth", "path", "good", "bad", "item"] ["depth"] (defScope s__law_items_right) := ⟨rfl, rfl, rfl, by decide +kernel, rfl, by decide +kernel, by decide +kernel⟩
theorem ok__law_items_right (A : All P w K mg base k F) (G : Gm K mg) (U : L2.Fun K "_law_items_right" "_law_items_right" s__law_items_right f fd) : FnOk P w K mg base (L2.CX P w) (k + 1) f fd ["depth"] (spD K XR0 (runB 5 (b__law_items_right F)) 1) :=
  def_ok U sc__law_items_right fun cdv A0 outer s H E hr =>
  (ss_cons (ss_set (i := 1) sc__law_items_right.nd (se_call A._law_path hr (takes_of rfl rfl rfl rfl) rfl (sa_cons (se_var (i := 0)) sa_nil)))
  (ss_cons (ss_set (i := 2) sc__law_items_right.nd (se_lst (sa_cons (se_int) (sa_cons (se_int) (sa_cons (se_bin or_sub (se_bin or_pow (se_int) (se_int)) (se_int)) (sa_cons (se_str) (sa_cons (se_str) (sa_cons (se_str) (sa_cons (se_bin or_mul (se_str) (se_int)) (sa_cons (se_str) (sa_cons (se_str) (sa_cons (se_str) (sa_cons (se_tup (sa_cons (se_str) (sa_cons (se_tup sa_nil) sa_nil))) (sa_cons (se_tup (sa_cons (se_str) (sa_cons (se_tup (sa_cons (se_str) (sa_cons (se_str) sa_nil))) sa_nil))) (sa_cons (se_str) sa_nil)))))))))))))))
  (ss_cons (ss_set (i := 3) sc__law_items_right.nd (se_lst (sa_cons (se_un or_neg (se_int)) (sa_cons (se_bin or_pow (se_int) (se_int)) (sa_cons (se_bin or_pow (se_int) (se_int)) (sa_cons (se_non) (sa_cons (se_bl) (sa_cons (se_bl) (sa_cons (se_bin or_mul (se_str) (se_int)) sa_nil)))))))))
  (ss_cons (ss_set (i := 3) sc__law_items_right.nd (se_bin or_add (se_var (i := 3)) (se_lst (sa_cons (se_str) (sa_cons (se_str) (sa_cons (se_str) (sa_cons (se_str) (sa_cons (se_tup sa_nil) (sa_cons (se_tup (sa_cons (se_str) sa_nil)) (sa_cons (se_tup (sa_cons (se_str) (sa_cons (se_str) sa_nil))) sa_nil))))))))))
  (ss_cons (ss_set (i := 3) sc__law_items_right.nd (se_bin or_add (se_var (i := 3)) (se_lst (sa_cons (se_tup (sa_cons (se_str) (sa_cons (se_lst (sa_cons (se_str) sa_nil)) sa_nil))) (sa_cons (se_tup (sa_cons (se_str) (sa_cons (se_tup (sa_cons (se_str) sa_nil)) sa_nil))) (sa_cons (se_tup (sa_cons (se_str) (sa_cons (se_tup sa_nil) (sa_cons (se_tup sa_nil) sa_nil)))) (sa_cons (se_tup (sa_cons (se_str) (sa_cons (se_tup sa_nil) sa_nil))) sa_nil)))))))
  (ss_cons (ss_set (i := 3) sc__law_items_right.nd (se_bin or_add (se_var (i := 3)) (se_lst (sa_cons (se_lst sa_nil) (sa_cons (se_dnewK) (sa_cons (se_tup (sa_cons (se_str) (sa_cons (se_tup (sa_cons (se_str) sa_nil)) sa_nil))) (sa_cons (se_lst (sa_cons (se_str) (sa_cons (se_tup (sa_cons (se_str) sa_nil)) sa_nil))) sa_nil)))))))
  (ss_cons (ss_for (passes_of rfl) rfl (si_walk (se_var (i := 2))) (sg_nm (i := 4) sc__law_items_right.nd)
    (ss_one (ss_if (st_cmp or_isnt (se_call A.check_tree hr (takes_of rfl rfl rfl rfl) rfl (sa_cons (se_call A._law_deep hr (takes_of rfl rfl rfl rfl) rfl (sa_cons (se_tup (sa_cons (se_tup (sa_cons (se_tup (sa_cons (se_str) (sa_cons (se_tup (sa_cons (se_var (i := 4)) (sa_cons (se_var (i := 4)) sa_nil))) sa_nil))) sa_nil)) (sa_cons (se_tup sa_nil) sa_nil))) (sa_cons (se_var (i := 0)) sa_nil))) sa_nil)) (se_non))
    (ss_one (ss_ret (se_bl)))
    ss_nil)))
  (ss_cons (ss_for (passes_of rfl) rfl (si_walk (se_var (i := 3))) (sg_nm (i := 4) sc__law_items_right.nd)
    (ss_cons (ss_if (st_cmp (or_ne (hu64 hr)) (se_call A.check_tree hr (takes_of rfl rfl rfl rfl) rfl (sa_cons (se_call A._law_deep hr (takes_of rfl rfl rfl rfl) rfl (sa_cons (se_tup (sa_cons (se_tup (sa_cons (se_tup (sa_cons (se_str) (sa_cons (se_tup (sa_cons (se_int) (sa_cons (se_var (i := 4)) sa_nil))) sa_nil))) sa_nil)) (sa_cons (se_tup sa_nil) sa_nil))) (sa_cons (se_var (i := 0)) sa_nil))) sa_nil)) (se_tup (sa_cons (se_str) (sa_cons (se_var (i := 1)) (sa_cons (se_int) (sa_cons (se_int) sa_nil))))))
    (ss_one (ss_ret (se_bl)))
    ss_nil)
  (ss_one (ss_if (st_cmp (or_ne (hu64 hr)) (se_call A.check_tree hr (takes_of rfl rfl rfl rfl) rfl (sa_cons (se_call A._law_deep hr (takes_of rfl rfl rfl rfl) rfl (sa_cons (se_tup (sa_cons (se_tup (sa_cons (se_tup (sa_cons (se_str) (sa_cons (se_tup (sa_cons (se_var (i := 4)) (sa_cons (se_un or_neg (se_int)) sa_nil))) sa_nil))) (sa_cons (se_tup (sa_cons (se_str) (sa_cons (se_tup sa_nil) sa_nil))) sa_nil))) (sa_cons (se_tup sa_nil) sa_nil))) (sa_cons (se_var (i := 0)) sa_nil))) sa_nil)) (se_tup (sa_cons (se_str) (sa_cons (se_var (i := 1)) (sa_cons (se_int) (sa_cons (se_int) sa_nil))))))
    (ss_one (ss_ret (se_bl)))
    ss_nil))))
  (ss_one (ss_ret (se_bl)))))))))))
theorem sc_law : FnScope ["script", "depth", "path", "rows", "children", "row"] ["script"] (defScope s_law) := ⟨rfl, rfl, rfl, by decide +kernel, rfl, by decide +kernel, by decide +kernel⟩
theorem ok_law (A : All P w K mg base k F) (G : Gm K mg) (U : L2.Fun K "law" "law" s_law f fd) : FnOk P w K mg base (L2.CX P w) (k + 1) f fd ["script"] (spD K XR0 (runB 6 (b_law F)) 1) :=
  def_ok U sc_law fun cdv A0 outer s H E hr =>
  (ss_cons (ss_set (i := 1) sc_law.nd (se_bin or_mod (se_callTy cr_int rfl G.n_int bt_int (sa_cons (se_callB (cr_sumF rfl) rfl G.n_sum bt_sum (sa_cons (se_sl (se_var (i := 0)) so_none (so_some (se_int))) sa_nil)) sa_nil)) (se_int)))
  (ss_cons (ss_if (st_pw (st_or (st_not (st_truth (se_call A._law_names_right hr (takes_of rfl rfl rfl rfl) rfl (sa_cons (se_var (i := 1)) sa_nil)))) (st_or1 (st_not (st_truth (se_call A._law_items_right hr (takes_of rfl rfl rfl rfl) rfl (sa_cons (se_var (i := 1)) sa_nil)))))))
    (ss_one (ss_ret (se_bl)))
    ss_nil)
  (ss_cons (ss_set (i := 2) sc_law.nd (se_call A._law_path hr (takes_of rfl rfl rfl rfl) rfl (sa_cons (se_var (i := 1)) sa_nil)))
  (ss_cons (ss_set (i := 3) sc_law.nd (se_tup (sa_cons (se_tup (sa_cons (se_str) (sa_cons (se_tup sa_nil) sa_nil))) (sa_cons (se_tup (sa_cons (se_str) (sa_cons (se_tup sa_nil) sa_nil))) sa_nil))))
  (ss_cons (ss_if (st_cmp (or_ne (hu64 hr)) (se_call A.check_tree hr (takes_of rfl rfl rfl rfl) rfl (sa_cons (se_call A._law_deep hr (takes_of rfl rfl rfl rfl) rfl (sa_cons (se_tup (sa_cons (se_rev (se_var (i := 3))) (sa_cons (se_tup sa_nil) sa_nil))) (sa_cons (se_var (i := 1)) sa_nil))) sa_nil)) (se_tup (sa_cons (se_str) (sa_cons (se_var (i := 2)) (sa_cons (se_int) sa_nil)))))
    (ss_one (ss_ret (se_bl)))
    ss_nil)
  (ss_cons (ss_if (st_cmp (or_ne (hu64 hr)) (se_call A.check_tree hr (takes_of rfl rfl rfl rfl) rfl (sa_cons (se_call A._law_deep hr (takes_of rfl rfl rfl rfl) rfl (sa_cons (se_tup (sa_cons (se_tup (sa_cons (se_ix (se_var (i := 3)) (se_int)) (sa_cons (se_ix (se_var (i := 3)) (se_int)) sa_nil))) (sa_cons (se_tup sa_nil) sa_nil))) (sa_cons (se_var (i := 1)) sa_nil))) sa_nil)) (se_tup (sa_cons (se_str) (sa_cons (se_var (i := 2)) (sa_cons (se_int) sa_nil)))))
    (ss_one (ss_ret (se_bl)))
    ss_nil)
  (ss_cons (ss_set (i := 4) sc_law.nd (se_tup (sa_cons (se_tup (sa_cons (se_str) (sa_cons (se_gl G.EMPTY rfl) sa_nil))) (sa_cons (se_tup (sa_cons (se_str) (sa_cons (se_gl G.EMPTY rfl) sa_nil))) (sa_cons (se_tup (sa_cons (se_str) (sa_cons (se_gl G.EMPTY rfl) sa_nil))) (sa_cons (se_tup (sa_cons (se_str) (sa_cons (se_gl G.EMPTY rfl) sa_nil))) sa_nil))))))
  (ss_cons (ss_if (st_cmp or_isnt (se_call A.check_tree hr (takes_of rfl rfl rfl rfl) rfl (sa_cons (se_call A._law_deep hr (takes_of rfl rfl rfl rfl) rfl (sa_cons (se_tup (sa_cons (se_tup sa_nil) (sa_cons (se_var (i := 4)) sa_nil))) (sa_cons (se_var (i := 1)) sa_nil))) sa_nil)) (se_non))
    (ss_one (ss_ret (se_bl)))
    ss_nil)
  (ss_cons (ss_if (st_cmp (or_ne (hu64 hr)) (se_call A.check_tree hr (takes_of rfl rfl rfl rfl) rfl (sa_cons (se_call A._law_deep hr (takes_of rfl rfl rfl rfl) rfl (sa_cons (se_tup (sa_cons (se_tup sa_nil) (sa_cons (se_bin or_add (se_sl (se_var (i := 4)) (so_some (se_int)) so_none) (se_sl (se_var (i := 4)) so_none (so_some (se_int)))) sa_nil))) (sa_cons (se_var (i := 1)) sa_nil))) sa_nil)) (se_tup (sa_cons (se_str) (sa_cons (se_var (i := 2)) (sa_cons (se_int) sa_nil)))))
    (ss_one (ss_ret (se_bl)))
    ss_nil)
  (ss_cons (ss_for (passes_of rfl) rfl (si_walk (se_lst (sa_cons (se_lst (sa_cons (se_str) (sa_cons (se_tup sa_nil) sa_nil))) (sa_cons (se_tup (sa_cons (se_str) (sa_cons (se_tup sa_nil) (sa_cons (se_tup sa_nil) sa_nil)))) (sa_cons (se_tup (sa_cons (se_str) (sa_cons (se_tup sa_nil) (sa_cons (se_non) sa_nil)))) (sa_cons (se_tup (sa_cons (se_str) sa_nil)) (sa_cons (se_lst sa_nil) (sa_cons (se_str) (sa_cons (se_tup (sa_cons (se_str) (sa_cons (se_lst sa_nil) sa_nil))) (sa_cons (se_non) sa_nil)))))))))) (sg_nm (i := 5) sc_law.nd)
    (ss_one (ss_if (st_cmp (or_ne (hu64 hr)) (se_call A.check_tree hr (takes_of rfl rfl rfl rfl) rfl (sa_cons (se_call A._law_deep hr (takes_of rfl rfl rfl rfl) rfl (sa_cons (se_tup (sa_cons (se_tup (sa_cons (se_tup (sa_cons (se_str) (sa_cons (se_tup sa_nil) sa_nil))) (sa_cons (se_var (i := 5)) sa_nil))) (sa_cons (se_tup sa_nil) sa_nil))) (sa_cons (se_var (i := 1)) sa_nil))) sa_nil)) (se_tup (sa_cons (se_str) (sa_cons (se_var (i := 2)) (sa_cons (se_int) sa_nil)))))
    (ss_one (ss_ret (se_bl)))
    ss_nil)))
  (ss_cons (ss_for (passes_of rfl) rfl (si_walk (se_lst (sa_cons (se_lst (sa_cons (se_str) (sa_cons (se_gl G.EMPTY rfl) sa_nil))) (sa_cons (se_tup (sa_cons (se_str) (sa_cons (se_gl G.EMPTY rfl) (sa_cons (se_tup sa_nil) sa_nil)))) (sa_cons (se_tup (sa_cons (se_str) (sa_cons (se_gl G.EMPTY rfl) (sa_cons (se_gl G.EMPTY rfl) sa_nil)))) (sa_cons (se_tup (sa_cons (se_str) sa_nil)) (sa_cons (se_lst sa_nil) (sa_cons (se_str) (sa_cons (se_non) sa_nil))))))))) (sg_nm (i := 5) sc_law.nd)
    (ss_one (ss_if (st_cmp (or_ne (hu64 hr)) (se_call A.check_tree hr (takes_of rfl rfl rfl rfl) rfl (sa_cons (se_call A._law_deep hr (takes_of rfl rfl rfl rfl) rfl (sa_cons (se_tup (sa_cons (se_tup sa_nil) (sa_cons (se_tup (sa_cons (se_tup (sa_cons (se_str) (sa_cons (se_gl G.EMPTY rfl) sa_nil))) (sa_cons (se_var (i := 5)) sa_nil))) sa_nil))) (sa_cons (se_var (i := 1)) sa_nil))) sa_nil)) (se_tup (sa_cons (se_str) (sa_cons (se_var (i := 2)) (sa_cons (se_int) sa_nil)))))
    (ss_one (ss_ret (se_bl)))
    ss_nil)))
  (ss_one (ss_ret (se_cmp (or_eq (hu64 hr)) (se_call A.check_tree hr (takes_of rfl rfl rfl rfl) rfl (sa_cons (se_call A._law_deep hr (takes_of rfl rfl rfl rfl) rfl (sa_cons (se_tup (sa_cons (se_tup (sa_cons (se_tup (sa_cons (se_str) (sa_cons (se_lst sa_nil) sa_nil))) sa_nil)) (sa_cons (se_tup sa_nil) sa_nil))) (sa_cons (se_var (i := 1)) sa_nil))) sa_nil)) (se_tup (sa_cons (se_str) (sa_cons (se_var (i := 2)) (sa_cons (se_int) sa_nil))))))))))))))))))
end
theorem step {P : Program} {w : World} {K : PySem.W.Frag} {mg : Str → Option Value} {base : Heap} (G : Gm K mg)
    {f0 : Addr} {fd0 : FuncData} (U0 : L2.Fun K "is_whole" "is_whole" s_is_whole f0 fd0) (B0 : Binds K fd0 ["value"] []) (m0 : mg "is_whole" = some (.ref f0))
    {f1 : Addr} {fd1 : FuncData} (U1 : L2.Fun K "is_name" "is_name" s_is_name f1 fd1) (B1 : Binds K fd1 ["value"] []) (m1 : mg "is_name" = some (.ref f1))
    {f2 : Addr} {fd2 : FuncData} (U2 : L2.Fun K "is_address" "is_address" s_is_address f2 fd2) (B2 : Binds K fd2 ["text"] []) (m2 : mg "is_address" = some (.ref f2))
    {f3 : Addr} {fd3 : FuncData} (U3 : L2.Fun K "is_node_name" "is_node_name" s_is_node_name f3 fd3) (B3 : Binds K fd3 ["value"] []) (m3 : mg "is_node_name" = some (.ref f3))
    {f4 : Addr} {fd4 : FuncData} (U4 : L2.Fun K "is_path" "is_path" s_is_path f4 fd4) (B4 : Binds K fd4 ["value"] []) (m4 : mg "is_path" = some (.ref f4))
    {f5 : Addr} {fd5 : FuncData} (U5 : L2.Fun K "is_text" "is_text" s_is_text f5 fd5) (B5 : Binds K fd5 ["value"] []) (m5 : mg "is_text" = some (.ref f5))
    {f6 : Addr} {fd6 : FuncData} (U6 : L2.Fun K "is_item" "is_item" s_is_item f6 fd6) (B6 : Binds K fd6 ["value"] []) (m6 : mg "is_item" = some (.ref f6))
    {f7 : Addr} {fd7 : FuncData} (U7 : L2.Fun K "rises" "rises" s_rises f7 fd7) (B7 : Binds K fd7 ["rows", "place"] []) (m7 : mg "rises" = some (.ref f7))
    {f8 : Addr} {fd8 : FuncData} (U8 : L2.Fun K "property_fault" "property_fault" s_property_fault f8 fd8) (B8 : Binds K fd8 ["node", "path", "place"] []) (m8 : mg "property_fault" = some (.ref f8))
    {f9 : Addr} {fd9 : FuncData} (U9 : L2.Fun K "node_fault" "node_fault" s_node_fault f9 fd9) (B9 : Binds K fd9 ["node", "path"] []) (m9 : mg "node_fault" = some (.ref f9))
    {f10 : Addr} {fd10 : FuncData} (U10 : L2.Fun K "check_tree" "check_tree" s_check_tree f10 fd10) (B10 : Binds K fd10 ["value"] []) (m10 : mg "check_tree" = some (.ref f10))
    {f11 : Addr} {fd11 : FuncData} (U11 : L2.Fun K "_law_deep" "_law_deep" s__law_deep f11 fd11) (B11 : Binds K fd11 ["node", "depth"] []) (m11 : mg "_law_deep" = some (.ref f11))
    {f12 : Addr} {fd12 : FuncData} (U12 : L2.Fun K "_law_path" "_law_path" s__law_path f12 fd12) (B12 : Binds K fd12 ["depth"] []) (m12 : mg "_law_path" = some (.ref f12))
    {f13 : Addr} {fd13 : FuncData} (U13 : L2.Fun K "_law_names_right" "_law_names_right" s__law_names_right f13 fd13) (B13 : Binds K fd13 ["depth"] []) (m13 : mg "_law_names_right" = some (.ref f13))
    {f14 : Addr} {fd14 : FuncData} (U14 : L2.Fun K "_law_items_right" "_law_items_right" s__law_items_right f14 fd14) (B14 : Binds K fd14 ["depth"] []) (m14 : mg "_law_items_right" = some (.ref f14))
    {f15 : Addr} {fd15 : FuncData} (U15 : L2.Fun K "law" "law" s_law f15 fd15) (B15 : Binds K fd15 ["script"] []) (m15 : mg "law" = some (.ref f15))
    : ∀ k, All P w K mg base k (fns k)
  | 0 => ⟨Dfn.none m0 U0.kp B0, Dfn.none m1 U1.kp B1, Dfn.none m2 U2.kp B2, Dfn.none m3 U3.kp B3, Dfn.none m4 U4.kp B4, Dfn.none m5 U5.kp B5, Dfn.none m6 U6.kp B6, Dfn.none m7 U7.kp B7, Dfn.none m8 U8.kp B8, Dfn.none m9 U9.kp B9, Dfn.none m10 U10.kp B10, Dfn.none m11 U11.kp B11, Dfn.none m12 U12.kp B12, Dfn.none m13 U13.kp B13, Dfn.none m14 U14.kp B14, Dfn.none m15 U15.kp B15⟩
  | k + 1 => by
    have A := step (P := P) (w := w) (base := base) G U0 B0 m0 U1 B1 m1 U2 B2 m2 U3 B3 m3 U4 B4 m4 U5 B5 m5 U6 B6 m6 U7 B7 m7 U8 B8 m8 U9 B9 m9 U10 B10 m10 U11 B11 m11 U12 B12 m12 U13 B13 m13 U14 B14 m14 U15 B15 m15 k
    exact ⟨⟨f0, fd0, _, ok_is_whole A G U0, m0, U0.kp, B0⟩, ⟨f1, fd1, _, ok_is_name A G U1, m1, U1.kp, B1⟩, ⟨f2, fd2, _, ok_is_address A G U2, m2, U2.kp, B2⟩, ⟨f3, fd3, _, ok_is_node_name A G U3, m3, U3.kp, B3⟩, ⟨f4, fd4, _, ok_is_path A G U4, m4, U4.kp, B4⟩, ⟨f5, fd5, _, ok_is_text A G U5, m5, U5.kp, B5⟩, ⟨f6, fd6, _, ok_is_item A G U6, m6, U6.kp, B6⟩, ⟨f7, fd7, _, ok_rises A G U7, m7, U7.kp, B7⟩, ⟨f8, fd8, _, ok_property_fault A G U8, m8, U8.kp, B8⟩, ⟨f9, fd9, _, ok_node_fault A G U9, m9, U9.kp, B9⟩, ⟨f10, fd10, _, ok_check_tree A G U10, m10, U10.kp, B10⟩, ⟨f11, fd11, _, ok__law_deep A G U11, m11, U11.kp, B11⟩, ⟨f12, fd12, _, ok__law_path A G U12, m12, U12.kp, B12⟩, ⟨f13, fd13, _, ok__law_names_right A G U13, m13, U13.kp, B13⟩, ⟨f14, fd14, _, ok__law_items_right A G U14, m14, U14.kp, B14⟩, ⟨f15, fd15, _, ok_law A G U15, m15, U15.kp, B15⟩⟩
theorem all_mk {P : Program} {w : World} {K : PySem.W.Frag} {h : Heap} {mg : Str → Option Value} {fa : Addr} (X : K.In h) (N : h.Ns mainGlobals mg) (hfa : mg "law" = some (.ref fa))
    {f0 : Addr} {od0 an0 : Option Addr} {sl0 : Array (Option Value)} {oc0 kV0 dc0 pm0 cd0 ct0 : Value} (a0 : PySem.W.nsIn K mainGlobals "is_whole" = some (some (.ref f0))) (l0 : K.lookup f0 = some ⟨oc0, od0, .func (PySem.W.fnOf "is_whole" "is_whole" (defArgs s_is_whole) (defBody s_is_whole) (defScope s_is_whole) .none kV0 dc0 pm0 an0 cd0 ct0), sl0⟩) (c0 : PySem.W.codeIn K cd0 "is_whole" = true) (k0 : PySem.W.keepIn K (.ref f0) = true)
    {f1 : Addr} {od1 an1 : Option Addr} {sl1 : Array (Option Value)} {oc1 kV1 dc1 pm1 cd1 ct1 : Value} (a1 : PySem.W.nsIn K mainGlobals "is_name" = some (some (.ref f1))) (l1 : K.lookup f1 = some ⟨oc1, od1, .func (PySem.W.fnOf "is_name" "is_name" (defArgs s_is_name) (defBody s_is_name) (defScope s_is_name) .none kV1 dc1 pm1 an1 cd1 ct1), sl1⟩) (c1 : PySem.W.codeIn K cd1 "is_name" = true) (k1 : PySem.W.keepIn K (.ref f1) = true)
    {f2 : Addr} {od2 an2 : Option Addr} {sl2 : Array (Option Value)} {oc2 kV2 dc2 pm2 cd2 ct2 : Value} (a2 : PySem.W.nsIn K mainGlobals "is_address" = some (some (.ref f2))) (l2 : K.lookup f2 = some ⟨oc2, od2, .func (PySem.W.fnOf "is_address" "is_address" (defArgs s_is_address) (defBody s_is_address) (defScope s_is_address) .none kV2 dc2 pm2 an2 cd2 ct2), sl2⟩) (c2 : PySem.W.codeIn K cd2 "is_address" = true) (k2 : PySem.W.keepIn K (.ref f2) = true)
    {f3 : Addr} {od3 an3 : Option Addr} {sl3 : Array (Option Value)} {oc3 kV3 dc3 pm3 cd3 ct3 : Value} (a3 : PySem.W.nsIn K mainGlobals "is_node_name" = some (some (.ref f3))) (l3 : K.lookup f3 = some ⟨oc3, od3, .func (PySem.W.fnOf "is_node_name" "is_node_name" (defArgs s_is_node_name) (defBody s_is_node_name) (defScope s_is_node_name) .none kV3 dc3 pm3 an3 cd3 ct3), sl3⟩) (c3 : PySem.W.codeIn K cd3 "is_node_name" = true) (k3 : PySem.W.keepIn K (.ref f3) = true)
    {f4 : Addr} {od4 an4 : Option Addr} {sl4 : Array (Option Value)} {oc4 kV4 dc4 pm4 cd4 ct4 : Value} (a4 : PySem.W.nsIn K mainGlobals "is_path" = some (some (.ref f4))) (l4 : K.lookup f4 = some ⟨oc4, od4, .func (PySem.W.fnOf "is_path" "is_path" (defArgs s_is_path) (defBody s_is_path) (defScope s_is_path) .none kV4 dc4 pm4 an4 cd4 ct4), sl4⟩) (c4 : PySem.W.codeIn K cd4 "is_path" = true) (k4 : PySem.W.keepIn K (.ref f4) = true)
    {f5 : Addr} {od5 an5 : Option Addr} {sl5 : Array (Option Value)} {oc5 kV5 dc5 pm5 cd5 ct5 : Value} (a5 : PySem.W.nsIn K mainGlobals "is_text" = some (some (.ref f5))) (l5 : K.lookup f5 = some ⟨oc5, od5, .func (PySem.W.fnOf "is_text" "is_text" (defArgs s_is_text) (defBody s_is_text) (defScope s_is_text) .none kV5 dc5 pm5 an5 cd5 ct5), sl5⟩) (c5 : PySem.W.codeIn K cd5 "is_text" = true) (k5 : PySem.W.keepIn K (.ref f5) = true)
    {f6 : Addr} {od6 an6 : Option Addr} {sl6 : Array (Option Value)} {oc6 kV6 dc6 pm6 cd6 ct6 : Value} (a6 : PySem.W.nsIn K mainGlobals "is_item" = some (some (.ref f6))) (l6 : K.lookup f6 = some ⟨oc6, od6, .func (PySem.W.fnOf "is_item" "is_item" (defArgs s_is_item) (defBody s_is_item) (defScope s_is_item) .none kV6 dc6 pm6 an6 cd6 ct6), sl6⟩) (c6 : PySem.W.codeIn K cd6 "is_item" = true) (k6 : PySem.W.keepIn K (.ref f6) = true)
    {f7 : Addr} {od7 an7 : Option Addr} {sl7 : Array (Option Value)} {oc7 kV7 dc7 pm7 cd7 ct7 : Value} (a7 : PySem.W.nsIn K mainGlobals "rises" = some (some (.ref f7))) (l7 : K.lookup f7 = some ⟨oc7, od7, .func (PySem.W.fnOf "rises" "rises" (defArgs s_rises) (defBody s_rises) (defScope s_rises) .none kV7 dc7 pm7 an7 cd7 ct7), sl7⟩) (c7 : PySem.W.codeIn K cd7 "rises" = true) (k7 : PySem.W.keepIn K (.ref f7) = true)
    {f8 : Addr} {od8 an8 : Option Addr} {sl8 : Array (Option Value)} {oc8 kV8 dc8 pm8 cd8 ct8 : Value} (a8 : PySem.W.nsIn K mainGlobals "property_fault" = some (some (.ref f8))) (l8 : K.lookup f8 = some ⟨oc8, od8, .func (PySem.W.fnOf "property_fault" "property_fault" (defArgs s_property_fault) (defBody s_property_fault) (defScope s_property_fault) .none kV8 dc8 pm8 an8 cd8 ct8), sl8⟩) (c8 : PySem.W.codeIn K cd8 "property_fault" = true) (k8 : PySem.W.keepIn K (.ref f8) = true)
    {f9 : Addr} {od9 an9 : Option Addr} {sl9 : Array (Option Value)} {oc9 kV9 dc9 pm9 cd9 ct9 : Value} (a9 : PySem.W.nsIn K mainGlobals "node_fault" = some (some (.ref f9))) (l9 : K.lookup f9 = some ⟨oc9, od9, .func (PySem.W.fnOf "node_fault" "node_fault" (defArgs s_node_fault) (defBody s_node_fault) (defScope s_node_fault) .none kV9 dc9 pm9 an9 cd9 ct9), sl9⟩) (c9 : PySem.W.codeIn K cd9 "node_fault" = true) (k9 : PySem.W.keepIn K (.ref f9) = true)
    {f10 : Addr} {od10 an10 : Option Addr} {sl10 : Array (Option Value)} {oc10 kV10 dc10 pm10 cd10 ct10 : Value} (a10 : PySem.W.nsIn K mainGlobals "check_tree" = some (some (.ref f10))) (l10 : K.lookup f10 = some ⟨oc10, od10, .func (PySem.W.fnOf "check_tree" "check_tree" (defArgs s_check_tree) (defBody s_check_tree) (defScope s_check_tree) .none kV10 dc10 pm10 an10 cd10 ct10), sl10⟩) (c10 : PySem.W.codeIn K cd10 "check_tree" = true) (k10 : PySem.W.keepIn K (.ref f10) = true)
    {f11 : Addr} {od11 an11 : Option Addr} {sl11 : Array (Option Value)} {oc11 kV11 dc11 pm11 cd11 ct11 : Value} (a11 : PySem.W.nsIn K mainGlobals "_law_deep" = some (some (.ref f11))) (l11 : K.lookup f11 = some ⟨oc11, od11, .func (PySem.W.fnOf "_law_deep" "_law_deep" (defArgs s__law_deep) (defBody s__law_deep) (defScope s__law_deep) .none kV11 dc11 pm11 an11 cd11 ct11), sl11⟩) (c11 : PySem.W.codeIn K cd11 "_law_deep" = true) (k11 : PySem.W.keepIn K (.ref f11) = true)
    {f12 : Addr} {od12 an12 : Option Addr} {sl12 : Array (Option Value)} {oc12 kV12 dc12 pm12 cd12 ct12 : Value} (a12 : PySem.W.nsIn K mainGlobals "_law_path" = some (some (.ref f12))) (l12 : K.lookup f12 = some ⟨oc12, od12, .func (PySem.W.fnOf "_law_path" "_law_path" (defArgs s__law_path) (defBody s__law_path) (defScope s__law_path) .none kV12 dc12 pm12 an12 cd12 ct12), sl12⟩) (c12 : PySem.W.codeIn K cd12 "_law_path" = true) (k12 : PySem.W.keepIn K (.ref f12) = true)
    {f13 : Addr} {od13 an13 : Option Addr} {sl13 : Array (Option Value)} {oc13 kV13 dc13 pm13 cd13 ct13 : Value} (a13 : PySem.W.nsIn K mainGlobals "_law_names_right" = some (some (.ref f13))) (l13 : K.lookup f13 = some ⟨oc13, od13, .func (PySem.W.fnOf "_law_names_right" "_law_names_right" (defArgs s__law_names_right) (defBody s__law_names_right) (defScope s__law_names_right) .none kV13 dc13 pm13 an13 cd13 ct13), sl13⟩) (c13 : PySem.W.codeIn K cd13 "_law_names_right" = true) (k13 : PySem.W.keepIn K (.ref f13) = true)
    {f14 : Addr} {od14 an14 : Option Addr} {sl14 : Array (Option Value)} {oc14 kV14 dc14 pm14 cd14 ct14 : Value} (a14 : PySem.W.nsIn K mainGlobals "_law_items_right" = some (some (.ref f14))) (l14 : K.lookup f14 = some ⟨oc14, od14, .func (PySem.W.fnOf "_law_items_right" "_law_items_right" (defArgs s__law_items_right) (defBody s__law_items_right) (defScope s__law_items_right) .none kV14 dc14 pm14 an14 cd14 ct14), sl14⟩) (c14 : PySem.W.codeIn K cd14 "_law_items_right" = true) (k14 : PySem.W.keepIn K (.ref f14) = true)
    {f15 : Addr} {od15 an15 : Option Addr} {sl15 : Array (Option Value)} {oc15 kV15 dc15 pm15 cd15 ct15 : Value} (a15 : PySem.W.nsIn K mainGlobals "law" = some (some (.ref f15))) (l15 : K.lookup f15 = some ⟨oc15, od15, .func (PySem.W.fnOf "law" "law" (defArgs s_law) (defBody s_law) (defScope s_law) .none kV15 dc15 pm15 an15 cd15 ct15), sl15⟩) (c15 : PySem.W.codeIn K cd15 "law" = true) (k15 : PySem.W.keepIn K (.ref f15) = true)
    (z_all : PySem.W.nsIn K mainGlobals "all" = some none)
    (z_bool : PySem.W.nsIn K mainGlobals "bool" = some none)
    (z_enumerate : PySem.W.nsIn K mainGlobals "enumerate" = some none)
    (z_int : PySem.W.nsIn K mainGlobals "int" = some none)
    (z_isinstance : PySem.W.nsIn K mainGlobals "isinstance" = some none)
    (z_len : PySem.W.nsIn K mainGlobals "len" = some none)
    (z_range : PySem.W.nsIn K mainGlobals "range" = some none)
    (z_str : PySem.W.nsIn K mainGlobals "str" = some none)
    (z_sum : PySem.W.nsIn K mainGlobals "sum" = some none)
    (z_tuple : PySem.W.nsIn K mainGlobals "tuple" = some none)
    {tk_DIGITS : Tok} {st_DIGITS : Str} (g_DIGITS : PySem.W.nsIn K mainGlobals "DIGITS" = some (some (.str st_DIGITS tk_DIGITS))) (e_DIGITS : st_DIGITS = mkS [48, 49, 50, 51, 52, 53, 54, 55, 56, 57])
    {a_EMPTY0 : Addr} {n_EMPTY0 : Nat} {sl_EMPTY0 : Array (Option Value)} {od_EMPTY0 : Option Addr} (t_EMPTY0 : K.lookup a_EMPTY0 = some ⟨.type "tuple", od_EMPTY0, .seq ([] : List Value).toArray n_EMPTY0, sl_EMPTY0⟩)
    {a_EMPTY1 : Addr} {n_EMPTY1 : Nat} {sl_EMPTY1 : Array (Option Value)} {od_EMPTY1 : Option Addr} (t_EMPTY1 : K.lookup a_EMPTY1 = some ⟨.type "tuple", od_EMPTY1, .seq ([] : List Value).toArray n_EMPTY1, sl_EMPTY1⟩)
    {a_EMPTY : Addr} {n_EMPTY : Nat} {sl_EMPTY : Array (Option Value)} {od_EMPTY : Option Addr} (g_EMPTY : PySem.W.nsIn K mainGlobals "EMPTY" = some (some (.ref a_EMPTY))) (t_EMPTY : K.lookup a_EMPTY = some ⟨.type "tuple", od_EMPTY, .seq ([.ref a_EMPTY0, .ref a_EMPTY1] : List Value).toArray n_EMPTY, sl_EMPTY⟩)
    {tk_HEXADECIMAL : Tok} {st_HEXADECIMAL : Str} (g_HEXADECIMAL : PySem.W.nsIn K mainGlobals "HEXADECIMAL" = some (some (.str st_HEXADECIMAL tk_HEXADECIMAL))) (e_HEXADECIMAL : st_HEXADECIMAL = mkS [48, 49, 50, 51, 52, 53, 54, 55, 56, 57, 97, 98, 99, 100, 101, 102])
    {tk_MOST_ADDRESS : Tok} (g_MOST_ADDRESS : PySem.W.nsIn K mainGlobals "MOST_ADDRESS" = some (some (.int 16 tk_MOST_ADDRESS)))
    {tk_MOST_CELL : Tok} (g_MOST_CELL : PySem.W.nsIn K mainGlobals "MOST_CELL" = some (some (.int 4294967295 tk_MOST_CELL)))
    {tk_MOST_LETTERS : Tok} (g_MOST_LETTERS : PySem.W.nsIn K mainGlobals "MOST_LETTERS" = some (some (.int 31 tk_MOST_LETTERS)))
    {tk_MOST_TEXT : Tok} (g_MOST_TEXT : PySem.W.nsIn K mainGlobals "MOST_TEXT" = some (some (.int 100 tk_MOST_TEXT)))
    {tk_PRINTABLE : Tok} {st_PRINTABLE : Str} (g_PRINTABLE : PySem.W.nsIn K mainGlobals "PRINTABLE" = some (some (.str st_PRINTABLE tk_PRINTABLE))) (e_PRINTABLE : st_PRINTABLE = mkS [32, 33, 35, 36, 38, 39, 40, 41, 42, 43, 44, 45, 46, 47, 48, 49, 50, 51, 52, 53, 54, 55, 56, 57, 58, 59, 60, 61, 62, 63, 64, 65, 66, 67, 68, 69, 70, 71, 72, 73, 74, 75, 76, 77, 78, 79, 80, 81, 82, 83, 84, 85, 86, 87, 88, 89, 90, 91, 93, 94, 95, 96, 97, 98, 99, 100, 101, 102, 103, 104, 105, 106, 107, 108, 109, 110, 111, 112, 113, 114, 115, 116, 117, 118, 119, 120, 121, 122, 123, 124, 125, 126])
    {tk_SMALL : Tok} {st_SMALL : Str} (g_SMALL : PySem.W.nsIn K mainGlobals "SMALL" = some (some (.str st_SMALL tk_SMALL))) (e_SMALL : st_SMALL = mkS [97, 98, 99, 100, 101, 102, 103, 104, 105, 106, 107, 108, 109, 110, 111, 112, 113, 114, 115, 116, 117, 118, 119, 120, 121, 122])
    : ∃ fd : FuncData, (∀ (s : Shared) (v : Value), BindsTo s fd ⟨[v], []⟩ [("script", v)]) ∧ ∀ base : Heap, K.In base → base.Ns mainGlobals mg → FnOk P w K mg base (L2.CX P w) 100 fa fd ["script"] (spD K XR0 (fns 100).law 1) := by
  have e := hfa.symm.trans (PySem.W.mg_of X N a15)
  cases e
  have G : Gm K mg := ⟨PySem.W.mg_none_of X N z_all, PySem.W.mg_none_of X N z_bool, PySem.W.mg_none_of X N z_enumerate, PySem.W.mg_none_of X N z_int, PySem.W.mg_none_of X N z_isinstance, PySem.W.mg_none_of X N z_len, PySem.W.mg_none_of X N z_range, PySem.W.mg_none_of X N z_str, PySem.W.mg_none_of X N z_sum, PySem.W.mg_none_of X N z_tuple, .str (PySem.W.mg_of X N g_DIGITS) e_DIGITS, .tup (PySem.W.mg_of X N g_EMPTY) t_EMPTY (by show 2 ≤ sizeLine; decide) (.cons (a := V.ref a_EMPTY0) rfl (.cons (a := V.ref a_EMPTY1) rfl .nil)) fun _ _ => (.cons (dr_ktup t_EMPTY0 (by show 0 ≤ sizeLine; decide) .nil (fun _ _ => .nil) _ _) (.cons (dr_ktup t_EMPTY1 (by show 0 ≤ sizeLine; decide) .nil (fun _ _ => .nil) _ _) .nil)), .str (PySem.W.mg_of X N g_HEXADECIMAL) e_HEXADECIMAL, .int (PySem.W.mg_of X N g_MOST_ADDRESS), .int (PySem.W.mg_of X N g_MOST_CELL), .int (PySem.W.mg_of X N g_MOST_LETTERS), .int (PySem.W.mg_of X N g_MOST_TEXT), .str (PySem.W.mg_of X N g_PRINTABLE) e_PRINTABLE, .str (PySem.W.mg_of X N g_SMALL) e_SMALL⟩
  have U0 := fun_mk (st := s_is_whole) l0 c0 k0
  have B0 := U0.binds (ps := ["value"]) fun _ _ _ _ _ _ us hl => match us, hl with | [_], _ => rfl
  have U1 := fun_mk (st := s_is_name) l1 c1 k1
  have B1 := U1.binds (ps := ["value"]) fun _ _ _ _ _ _ us hl => match us, hl with | [_], _ => rfl
  have U2 := fun_mk (st := s_is_address) l2 c2 k2
  have B2 := U2.binds (ps := ["text"]) fun _ _ _ _ _ _ us hl => match us, hl with | [_], _ => rfl
  have U3 := fun_mk (st := s_is_node_name) l3 c3 k3
  have B3 := U3.binds (ps := ["value"]) fun _ _ _ _ _ _ us hl => match us, hl with | [_], _ => rfl
  have U4 := fun_mk (st := s_is_path) l4 c4 k4
  have B4 := U4.binds (ps := ["value"]) fun _ _ _ _ _ _ us hl => match us, hl with | [_], _ => rfl
  have U5 := fun_mk (st := s_is_text) l5 c5 k5
  have B5 := U5.binds (ps := ["value"]) fun _ _ _ _ _ _ us hl => match us, hl with | [_], _ => rfl
  have U6 := fun_mk (st := s_is_item) l6 c6 k6
  have B6 := U6.binds (ps := ["value"]) fun _ _ _ _ _ _ us hl => match us, hl with | [_], _ => rfl
  have U7 := fun_mk (st := s_rises) l7 c7 k7
  have B7 := U7.binds (ps := ["rows", "place"]) fun _ _ _ _ _ _ us hl => match us, hl with | [_, _], _ => rfl
  have U8 := fun_mk (st := s_property_fault) l8 c8 k8
  have B8 := U8.binds (ps := ["node", "path", "place"]) fun _ _ _ _ _ _ us hl => match us, hl with | [_, _, _], _ => rfl
  have U9 := fun_mk (st := s_node_fault) l9 c9 k9
  have B9 := U9.binds (ps := ["node", "path"]) fun _ _ _ _ _ _ us hl => match us, hl with | [_, _], _ => rfl
  have U10 := fun_mk (st := s_check_tree) l10 c10 k10
  have B10 := U10.binds (ps := ["value"]) fun _ _ _ _ _ _ us hl => match us, hl with | [_], _ => rfl
  have U11 := fun_mk (st := s__law_deep) l11 c11 k11
  have B11 := U11.binds (ps := ["node", "depth"]) fun _ _ _ _ _ _ us hl => match us, hl with | [_, _], _ => rfl
  have U12 := fun_mk (st := s__law_path) l12 c12 k12
  have B12 := U12.binds (ps := ["depth"]) fun _ _ _ _ _ _ us hl => match us, hl with | [_], _ => rfl
  have U13 := fun_mk (st := s__law_names_right) l13 c13 k13
  have B13 := U13.binds (ps := ["depth"]) fun _ _ _ _ _ _ us hl => match us, hl with | [_], _ => rfl
  have U14 := fun_mk (st := s__law_items_right) l14 c14 k14
  have B14 := U14.binds (ps := ["depth"]) fun _ _ _ _ _ _ us hl => match us, hl with | [_], _ => rfl
  have U15 := fun_mk (st := s_law) l15 c15 k15
  have B15 := U15.binds (ps := ["script"]) fun _ _ _ _ _ _ us hl => match us, hl with | [_], _ => rfl
  refine ⟨PySem.W.fnOf "law" "law" (defArgs s_law) (defBody s_law) (defScope s_law) .none kV15 dc15 pm15 an15 cd15 ct15, fun s v => .of_eq rfl, fun base _ _ => ?_⟩
  exact ok_law (step (P := P) (w := w) (base := base) G U0 B0 (PySem.W.mg_of X N a0) U1 B1 (PySem.W.mg_of X N a1) U2 B2 (PySem.W.mg_of X N a2) U3 B3 (PySem.W.mg_of X N a3) U4 B4 (PySem.W.mg_of X N a4) U5 B5 (PySem.W.mg_of X N a5) U6 B6 (PySem.W.mg_of X N a6) U7 B7 (PySem.W.mg_of X N a7) U8 B8 (PySem.W.mg_of X N a8) U9 B9 (PySem.W.mg_of X N a9) U10 B10 (PySem.W.mg_of X N a10) U11 B11 (PySem.W.mg_of X N a11) U12 B12 (PySem.W.mg_of X N a12) U13 B13 (PySem.W.mg_of X N a13) U14 B14 (PySem.W.mg_of X N a14) U15 B15 (PySem.W.mg_of X N a15) 99) G U15
end K02

namespace K02
open PySem L2 PyProof.Rows DE
theorem q_0 (xs ys : List D) : isT (fin (b_law_rest (fns 99) (some (.scr xs) :: some (.int ((0 : Nat) : Int)) :: List.replicate 4 none) ⟨1, [(0, .lst ys)]⟩)) = true := by kernel_rfl
theorem q_1 (xs ys : List D) : isT (fin (b_law_rest (fns 99) (some (.scr xs) :: some (.int ((1 : Nat) : Int)) :: List.replicate 4 none) ⟨1, [(0, .lst ys)]⟩)) = true := by kernel_rfl
theorem q_2 (xs ys : List D) : isT (fin (b_law_rest (fns 99) (some (.scr xs) :: some (.int ((2 : Nat) : Int)) :: List.replicate 4 none) ⟨1, [(0, .lst ys)]⟩)) = true := by kernel_rfl
theorem q_3 (xs ys : List D) : isT (fin (b_law_rest (fns 99) (some (.scr xs) :: some (.int ((3 : Nat) : Int)) :: List.replicate 4 none) ⟨1, [(0, .lst ys)]⟩)) = true := by kernel_rfl
theorem q_4 (xs ys : List D) : isT (fin (b_law_rest (fns 99) (some (.scr xs) :: some (.int ((4 : Nat) : Int)) :: List.replicate 4 none) ⟨1, [(0, .lst ys)]⟩)) = true := by kernel_rfl
theorem q_5 (xs ys : List D) : isT (fin (b_law_rest (fns 99) (some (.scr xs) :: some (.int ((5 : Nat) : Int)) :: List.replicate 4 none) ⟨1, [(0, .lst ys)]⟩)) = true := by kernel_rfl
theorem q_6 (xs ys : List D) : isT (fin (b_law_rest (fns 99) (some (.scr xs) :: some (.int ((6 : Nat) : Int)) :: List.replicate 4 none) ⟨1, [(0, .lst ys)]⟩)) = true := by kernel_rfl
theorem law_true (ns : List Int) (_ : ns.length ≤ 63) : ∃ S, (fns 100).law [.scr (ns.map .int)] ⟨0, []⟩ = .ok (.bl true) S :=
  law_by_mod (N := 4) (m := 7) (rest := b_law_rest (fns 99)) (by decide) (fun xs ys d hd => match d, hd with
    | 0, _ => q_0 xs ys
    | 1, _ => q_1 xs ys
    | 2, _ => q_2 xs ys
    | 3, _ => q_3 xs ys
    | 4, _ => q_4 xs ys
    | 5, _ => q_5 xs ys
    | 6, _ => q_6 xs ys
    | d + 7, h => absurd h (by omega)) ns
end K02

open PySem PySem.W PyProof.Rows
set_option maxHeartbeats 0 in
theorem PySem.Challenge.cw_layertrees_k02_names_by_hand_holds : PySem.Challenge.rw_layertrees_k02_names_by_hand.Holds := by
  w_on; o_law; k_head; (case hw => w_witness2)
  k_fill
  refine DE.law_end (l := PySem.Challenge.rw_layertrees_k02_names_by_hand) (n := 63) (k := 100) (x := "script") (XR := DE.XR0) (g := (K02.fns 100).law) rfl (by decide) rfl ⟨rfl, by decide, by decide⟩ (fun w h Y => PySem.W.kIn_of Y) ?F K02.law_true
  case F =>
    intro w mg fa h KX G hmg
    refine' K02.all_mk KX G hmg ?a0 ?l0 ?c0 ?k0 ?a1 ?l1 ?c1 ?k1 ?a2 ?l2 ?c2 ?k2 ?a3 ?l3 ?c3 ?k3 ?a4 ?l4 ?c4 ?k4 ?a5 ?l5 ?c5 ?k5 ?a6 ?l6 ?c6 ?k6 ?a7 ?l7 ?c7 ?k7 ?a8 ?l8 ?c8 ?k8 ?a9 ?l9 ?c9 ?k9 ?a10 ?l10 ?c10 ?k10 ?a11 ?l11 ?c11 ?k11 ?a12 ?l12 ?c12 ?k12 ?a13 ?l13 ?c13 ?k13 ?a14 ?l14 ?c14 ?k14 ?a15 ?l15 ?c15 ?k15 ?z_all ?z_bool ?z_enumerate ?z_int ?z_isinstance ?z_len ?z_range ?z_str ?z_sum ?z_tuple ?g_DIGITS ?e_DIGITS ?t_EMPTY0 ?t_EMPTY1 ?g_EMPTY ?t_EMPTY ?g_HEXADECIMAL ?e_HEXADECIMAL ?g_MOST_ADDRESS ?g_MOST_CELL ?g_MOST_LETTERS ?g_MOST_TEXT ?g_PRINTABLE ?e_PRINTABLE ?g_SMALL ?e_SMALL
    (case a0 => k_is)
    (case l0 => k_is)
    (case c0 => k_is)
    (case k0 => k_is)
    (case a1 => k_is)
    (case l1 => k_is)
    (case c1 => k_is)
    (case k1 => k_is)
    (case a2 => k_is)
    (case l2 => k_is)
    (case c2 => k_is)
    (case k2 => k_is)
    (case a3 => k_is)
    (case l3 => k_is)
    (case c3 => k_is)
    (case k3 => k_is)
    (case a4 => k_is)
    (case l4 => k_is)
    (case c4 => k_is)
    (case k4 => k_is)
    (case a5 => k_is)
    (case l5 => k_is)
    (case c5 => k_is)
    (case k5 => k_is)
    (case a6 => k_is)
    (case l6 => k_is)
    (case c6 => k_is)
    (case k6 => k_is)
    (case a7 => k_is)
    (case l7 => k_is)
    (case c7 => k_is)
    (case k7 => k_is)
    (case a8 => k_is)
    (case l8 => k_is)
    (case c8 => k_is)
    (case k8 => k_is)
    (case a9 => k_is)
    (case l9 => k_is)
    (case c9 => k_is)
    (case k9 => k_is)
    (case a10 => k_is)
    (case l10 => k_is)
    (case c10 => k_is)
    (case k10 => k_is)
    (case a11 => k_is)
    (case l11 => k_is)
    (case c11 => k_is)
    (case k11 => k_is)
    (case a12 => k_is)
    (case l12 => k_is)
    (case c12 => k_is)
    (case k12 => k_is)
    (case a13 => k_is)
    (case l13 => k_is)
    (case c13 => k_is)
    (case k13 => k_is)
    (case a14 => k_is)
    (case l14 => k_is)
    (case c14 => k_is)
    (case k14 => k_is)
    (case a15 => k_is)
    (case l15 => k_is)
    (case c15 => k_is)
    (case k15 => k_is)
    (case z_all => k_is)
    (case z_bool => k_is)
    (case z_enumerate => k_is)
    (case z_int => k_is)
    (case z_isinstance => k_is)
    (case z_len => k_is)
    (case z_range => k_is)
    (case z_str => k_is)
    (case z_sum => k_is)
    (case z_tuple => k_is)
    (case g_DIGITS => k_is)
    (case e_DIGITS => decide +kernel)
    (case g_EMPTY => k_is)
    (case t_EMPTY => k_is)
    (case g_HEXADECIMAL => k_is)
    (case e_HEXADECIMAL => decide +kernel)
    (case g_MOST_ADDRESS => k_is)
    (case g_MOST_CELL => k_is)
    (case g_MOST_LETTERS => k_is)
    (case g_MOST_TEXT => k_is)
    (case g_PRINTABLE => k_is)
    (case e_PRINTABLE => decide +kernel)
    (case g_SMALL => k_is)
    (case e_SMALL => decide +kernel)
    (case t_EMPTY0 => k_is)
    (case t_EMPTY1 => k_is)

