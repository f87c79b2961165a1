import PyProof.Rows.All
import Wide.All
import OpenK.AllK
import Wide.FinOn
import HandS.ForMost
import HandS.ForExc
import HandS.CallSlots
import HandS.IsInst
import HandS.Deep
import HandS.TupAny
import HandS.Small
import HandS.TupLen
import KE.GoesNew
import HandS.Style
import KE.SortKeyed
import KE.KDictSum
import HandS.Conv
import HandS.Strs
import HandS.SetFor
import KE.KRevSl
import HandS.TupMul
import HandS.ExcInit
import HandS.ExcField
import HandS.TryMany
import HandS.ExcIs
import KE.KExcIs
import HandS.Iter
import HandS.Text
import PyProof.Rows.StrMul
import KE.IntTextLaws
import PySem.Challenge.RW_nofewerrounds_k02_tokens
set_option Elab.async false
set_option linter.all false
set_option maxRecDepth 100000
set_option maxHeartbeats 4000000
/-! DLCore: plain data D, a memory of numbered cells, how both stand in the layer's heap; judgements whose index is a plain function. -/
namespace DL
open PySem L2

abbrev Fg := PySem.W.Frag

/-- plain data; rot, rol: a tuple, a list of the written part or locked; ref: a cell of the memory; exo: the exception that an except suite holds: where it stands, where its dict stands, the dict's cell -/
inductive D where
  | non | bl (b : Bool) | int (i : Int) | str (x : Str) | tup (ds : List D) | rot (ds : List D) | rol (ds : List D) | ref (k : Nat) | exo (a b : Addr) (k : Nat)

theorem D.ind {P : D → Prop} (hn : P .non) (hb : ∀ b, P (.bl b)) (hi : ∀ i, P (.int i)) (hs : ∀ x, P (.str x)) (hr : ∀ k, P (.ref k)) (hx : ∀ a b k, P (.exo a b k))
    (ht : ∀ ds, (∀ d ∈ ds, P d) → P (.tup ds)) (hw : ∀ ds, (∀ d ∈ ds, P d) → P (.rot ds)) (hl : ∀ ds, (∀ d ∈ ds, P d) → P (.rol ds)) : ∀ d, P d
  | .non => hn
  | .bl b => hb b
  | .int i => hi i
  | .str x => hs x
  | .ref k => hr k
  | .exo a b k => hx a b k
  | .tup ds => ht ds fun d hd => D.ind hn hb hi hs hr hx ht hw hl d
  | .rot ds => hw ds fun d hd => D.ind hn hb hi hs hr hx ht hw hl d
  | .rol ds => hl ds fun d hd => D.ind hn hb hi hs hr hx ht hw hl d
termination_by d => sizeOf d
decreasing_by
  all_goals (have := List.sizeOf_lt_of_mem hd; simp; omega)

/-- a list that nobody writes: locked, or of the written part -/
def SqF (K : Fg) (H : Hp) (a : Addr) (xs : List V) : Prop :=
  (∃ o, H a = some (.frz o (.lst xs))) ∨
    ∃ (o : Obj) (its : Array Value) (n : Nat), K.lookup a = some o ∧ o.cls = .type "list" ∧ o.dict = none ∧ o.data = .seq its n ∧ its.size ≤ sizeLine ∧ Vals xs its.toList
theorem SqF.sq {K : Fg} {H : Hp} {a : Addr} {xs : List V} (h : SqF K H a xs) : SqL K H a xs := by
  rcases h with h | h
  · exact .inl (.inr h)
  · exact .inr h
theorem SqF.of {K : Fg} {H : Hp} {a : Addr} {xs : List V} (h : SqL K H a xs) (o : Only H) : SqF K H a xs := by
  rcases h with (h | h) | h
  · rcases o a with z | ⟨_, _, z⟩
    · rw [z] at h; cases h
    · rw [z] at h; cases h
  · exact .inl h
  · exact .inr h

inductive Rep (K : Fg) (H : Hp) (φ : List Addr) : D → V → Prop
  | non : Rep K H φ .non .non
  | bl (b : Bool) : Rep K H φ (.bl b) (.bl b)
  | int (i : Int) : Rep K H φ (.int i) (.int i)
  | str {x : Str} : x.length ≤ sizeLine → PySem.PyData.strOk x = true → Rep K H φ (.str x) (.str x)
  | tup {ds : List D} {a : Addr} {vs : List V} : ds.length ≤ sizeLine → H a = some (.tup vs) → Paired (Rep K H φ) ds vs → Rep K H φ (.tup ds) (.ref a)
  | rot {ds : List D} {a : Addr} {vs : List V} : ds.length ≤ sizeLine → SqT K H a vs → Paired (Rep K H φ) ds vs → Rep K H φ (.rot ds) (.ref a)
  | rol {ds : List D} {a : Addr} {vs : List V} : ds.length ≤ sizeLine → SqF K H a vs → Paired (Rep K H φ) ds vs → Rep K H φ (.rol ds) (.ref a)
  | ref {k : Nat} {a : Addr} : φ[k]? = some a → Rep K H φ (.ref k) (.ref a)
  | exo {a b : Addr} {k : Nat} : φ[k]? = some b → Rep K H φ (.exo a b k) (.ref a)

abbrev Reps (K : Fg) (H : Hp) (φ : List Addr) : List D → List V → Prop := Paired (Rep K H φ)

/-! ### pairs -/
section
variable {α β γ : Type} {F G : α → β → Prop}
theorem Paired.mapMem : ∀ {l₁ : List α} {l₂ : List β}, Paired F l₁ l₂ → (∀ a ∈ l₁, ∀ b, F a b → G a b) → Paired G l₁ l₂
  | _, _, .nil, _ => .nil
  | _, _, .cons r t, f => .cons (f _ List.mem_cons_self _ r) (Paired.mapMem t fun a ha => f a (List.mem_cons_of_mem _ ha))
theorem Paired.get : ∀ {l₁ : List α} {l₂ : List β} {i : Nat} {a : α}, Paired F l₁ l₂ → l₁[i]? = some a → ∃ b, l₂[i]? = some b ∧ F a b
  | _, _, _, _, .nil, e => by simp at e
  | _, _, 0, _, .cons r _, e => by simp at e; subst e; exact ⟨_, rfl, r⟩
  | _, _, i + 1, a, .cons _ t, e => by
    obtain ⟨b, h1, h2⟩ := Paired.get (i := i) (a := a) t (by simpa using e)
    exact ⟨b, by simpa using h1, h2⟩
theorem Paired.get' : ∀ {l₁ : List α} {l₂ : List β} {i : Nat} {b : β}, Paired F l₁ l₂ → l₂[i]? = some b → ∃ a, l₁[i]? = some a ∧ F a b
  | _, _, _, _, .nil, e => by simp at e
  | _, _, 0, _, .cons r _, e => by simp at e; subst e; exact ⟨_, rfl, r⟩
  | _, _, i + 1, b, .cons _ t, e => by
    obtain ⟨a, h1, h2⟩ := Paired.get' (i := i) (b := b) t (by simpa using e)
    exact ⟨a, by simpa using h1, h2⟩
theorem Paired.app : ∀ {l₁ k₁ : List α} {l₂ k₂ : List β}, Paired F l₁ l₂ → Paired F k₁ k₂ → Paired F (l₁ ++ k₁) (l₂ ++ k₂)
  | _, _, _, _, .nil, s => s
  | _, _, _, _, .cons r t, s => .cons r (Paired.app t s)
theorem Paired.tk : ∀ {l₁ : List α} {l₂ : List β} (n : Nat), Paired F l₁ l₂ → Paired F (l₁.take n) (l₂.take n)
  | _, _, 0, _ => .nil
  | _, _, _ + 1, .nil => .nil
  | _, _, n + 1, .cons r t => .cons r (Paired.tk n t)
theorem Paired.dp : ∀ {l₁ : List α} {l₂ : List β} (n : Nat), Paired F l₁ l₂ → Paired F (l₁.drop n) (l₂.drop n)
  | _, _, 0, r => r
  | _, _, _ + 1, .nil => .nil
  | _, _, n + 1, .cons _ t => Paired.dp n t
theorem Paired.st {a : α} {b : β} (r : F a b) : ∀ {l₁ : List α} {l₂ : List β} (i : Nat), Paired F l₁ l₂ → Paired F (l₁.set i a) (l₂.set i b)
  | _, _, _, .nil => .nil
  | _, _, 0, .cons _ t => .cons r t
  | _, _, i + 1, .cons q t => .cons q (Paired.st r i t)
theorem Paired.rv {l₁ : List α} {l₂ : List β} (h : Paired F l₁ l₂) : Paired F l₁.reverse l₂.reverse := by
  induction h with
  | nil => exact .nil
  | cons r t ih => rw [List.reverse_cons, List.reverse_cons]; exact Paired.app ih (.cons r .nil)
theorem Paired.er : ∀ {l₁ : List α} {l₂ : List β} (i : Nat), Paired F l₁ l₂ → Paired F (l₁.eraseIdx i) (l₂.eraseIdx i)
  | _, _, _, .nil => .nil
  | _, _, 0, .cons _ t => t
  | _, _, i + 1, .cons q t => .cons q (Paired.er i t)
theorem Paired.dl {l₁ : List α} {l₂ : List β} (h : Paired F l₁ l₂) : Paired F l₁.dropLast l₂.dropLast := by
  rw [List.dropLast_eq_take, List.dropLast_eq_take, PySem.Paired.length h]; exact Paired.tk _ h
theorem Paired.len {l₁ : List α} {l₂ : List β} (h : Paired F l₁ l₂) : l₁.length = l₂.length := PySem.Paired.length h
theorem Paired.one_r {l₁ : List α} {b : β} (h : Paired F l₁ [b]) : ∃ a, l₁ = [a] ∧ F a b := by
  cases h with
  | cons r t => cases t; exact ⟨_, rfl, r⟩
theorem Paired.one_l {l₂ : List β} {a : α} (h : Paired F [a] l₂) : ∃ b, l₂ = [b] ∧ F a b := by
  cases h with
  | cons r t => cases t; exact ⟨_, rfl, r⟩
end

/-! ### what stays -/
structure Ext (K : Fg) (H H' : Hp) : Prop where
  u : ∀ a xs, H a = some (.tup xs) → H' a = some (.tup xs)
  t : ∀ a xs, SqT K H a xs → SqT K H' a xs
  f : ∀ a xs, SqF K H a xs → SqF K H' a xs
theorem Ext.refl {K : Fg} {H : Hp} : Ext K H H := ⟨fun _ _ h => h, fun _ _ h => h, fun _ _ h => h⟩
theorem Ext.trans {K : Fg} {H H1 H2 : Hp} (a : Ext K H H1) (b : Ext K H1 H2) : Ext K H H2 := ⟨fun c xs h => b.u c xs (a.u c xs h), fun c xs h => b.t c xs (a.t c xs h), fun c xs h => b.f c xs (a.f c xs h)⟩
/-- what may be written over: nothing, or a thing that changes -/
def Free : Option HO → Prop
  | none => True
  | some (.tup _) => False
  | some (.frz _ _) => False
  | _ => True
theorem Ext.upd {K : Fg} {H : Hp} {a : Addr} {o : HO} (h : Free (H a)) : Ext K H (upd H a o) := by
  refine ⟨fun b xs q => ?_, fun b xs q => ?_, fun b xs q => ?_⟩
  · rw [upd_ne (by rintro rfl; rw [q] at h; exact h)]; exact q
  · rcases q with (q | ⟨ob, q⟩) | q
    · exact .inl (.inl (by rw [upd_ne (by rintro rfl; rw [q] at h; exact h)]; exact q))
    · exact .inl (.inr ⟨ob, by rw [upd_ne (by rintro rfl; rw [q] at h; exact h)]; exact q⟩)
    · exact .inr q
  · rcases q with ⟨ob, q⟩ | q
    · exact .inl ⟨ob, by rw [upd_ne (by rintro rfl; rw [q] at h; exact h)]; exact q⟩
    · exact .inr q
theorem Ext.new {K : Fg} {H : Hp} {a : Addr} {o : HO} (h : H a = none) : Ext K H (L2.upd H a o) := Ext.upd (by rw [h]; trivial)
theorem Ext.same {K : Fg} {H H' : Hp} (h : ∀ b o, H b = some o → H' b = some o) : Ext K H H' := by
  refine ⟨fun b xs q => h _ _ q, fun b xs q => ?_, fun b xs q => ?_⟩
  · rcases q with (q | ⟨ob, q⟩) | q
    · exact .inl (.inl (h _ _ q))
    · exact .inl (.inr ⟨ob, h _ _ q⟩)
    · exact .inr q
  · rcases q with ⟨ob, q⟩ | q
    · exact .inl ⟨ob, h _ _ q⟩
    · exact .inr q

section
variable {K : Fg} {H H' : Hp} {φ φ' : List Addr}
theorem pre_get {α : Type} {l l' : List α} (p : l <+: l') {i : Nat} {a : α} (h : l[i]? = some a) : l'[i]? = some a := by
  obtain ⟨t, rfl⟩ := p
  have hi : i < l.length := by
    rcases Nat.lt_or_ge i l.length with z | z
    · exact z
    · rw [List.getElem?_eq_none z] at h; cases h
  rw [List.getElem?_append_left hi]; exact h
theorem Rep.mono (e : Ext K H H') (p : φ <+: φ') : ∀ {d : D} {v : V}, Rep K H φ d v → Rep K H' φ' d v := by
  intro d
  refine D.ind (P := fun d => ∀ {v : V}, Rep K H φ d v → Rep K H' φ' d v) ?_ ?_ ?_ ?_ ?_ ?_ ?_ ?_ ?_ d
  · intro v h; cases h; exact .non
  · intro b v h; cases h; exact .bl b
  · intro i v h; cases h; exact .int i
  · intro x v h; cases h with
    | str h1 h2 => exact .str h1 h2
  · intro k v h; cases h with
    | ref h => exact .ref (pre_get p h)
  · intro a b k v h; cases h with
    | exo h => exact .exo (pre_get p h)
  · intro ds ih v h; cases h with
    | tup h1 h2 h3 => exact .tup h1 (e.u _ _ h2) (Paired.mapMem h3 fun a ha b hb => ih a ha hb)
  · intro ds ih v h; cases h with
    | rot h1 h2 h3 => exact .rot h1 (e.t _ _ h2) (Paired.mapMem h3 fun a ha b hb => ih a ha hb)
  · intro ds ih v h; cases h with
    | rol h1 h2 h3 => exact .rol h1 (e.f _ _ h2) (Paired.mapMem h3 fun a ha b hb => ih a ha hb)
theorem Reps.mono (e : Ext K H H') (p : φ <+: φ') {ds : List D} {vs : List V} (h : Reps K H φ ds vs) : Reps K H' φ' ds vs := Paired.mapMem h fun _ _ _ r => r.mono e p
end

theorem nd_ix {α : Type} {N : List α} (hN : N.Nodup) {i j : Nat} {x : α} (a : N[i]? = some x) (b : N[j]? = some x) : i = j := by
  obtain ⟨h1, e1⟩ := List.getElem?_eq_some_iff.mp a
  obtain ⟨h2, e2⟩ := List.getElem?_eq_some_iff.mp b
  exact (List.getElem_inj hN).mp (e1.trans e2.symm)

/-! ### cells -/
inductive Cell where
  | lst (ds : List D) | dK (kvs : List (Key × D)) | dT (kvs : List (List Key × D)) | ins (c : Str) (fs : List (Str × D)) | exn (c : Str) (fs : List (Str × D))
abbrev Mem := List Cell

/-- the surroundings: the written part, the module's names -/
structure Ct where
  K : Fg
  mg : Str → Option Value
abbrev ct (X : Cx) : Ct := ⟨X.K, X.mg⟩

abbrev RepK {κ : Type} (K : Fg) (H : Hp) (φ : List Addr) : List (κ × D) → List (κ × V) → Prop := Paired fun p q => p.1 = q.1 ∧ Rep K H φ p.2 q.2
/-- a key's text is one that a value may be -/
def KFit : Key → Prop
  | .inl _ => True
  | .inr x => x.length ≤ sizeLine ∧ PySem.PyData.strOk x = true
def RepC (C : Ct) (H : Hp) (φ : List Addr) : Cell → HO → Prop
  | .lst ds, .lst vs => ds.length ≤ sizeLine ∧ Reps C.K H φ ds vs
  | .dK kvs, .dK kvs' => (kvs.length ≤ sizeLine ∧ ∀ p ∈ kvs, KFit p.1) ∧ RepK C.K H φ kvs kvs'
  | .dT kvs, .dT kvs' => (kvs.length ≤ sizeLine ∧ ∀ p ∈ kvs, ∀ k ∈ p.1, KFit k) ∧ RepK C.K H φ kvs kvs'
  | .ins c fs, .ins a _ fs' => C.mg c = some (.ref a) ∧ RepK C.K H φ fs fs'
  | .exn _ fs, .xd fs' => True ∧ RepK C.K H φ fs fs'
  | _, _ => False
theorem RepK.mono {κ : Type} {K : Fg} {H H' : Hp} {φ φ' : List Addr} (e : Ext K H H') (p : φ <+: φ') {l : List (κ × D)} {l' : List (κ × V)} (h : RepK K H φ l l') : RepK K H' φ' l l' :=
  Paired.mapMem h fun _ _ _ r => ⟨r.1, r.2.mono e p⟩
theorem RepC.mono {C : Ct} {H H' : Hp} {φ φ' : List Addr} (e : Ext C.K H H') (p : φ <+: φ') {c : Cell} {o : HO} (h : RepC C H φ c o) : RepC C H' φ' c o := by
  cases c <;> cases o <;> first | exact h.elim | exact ⟨h.1, h.2.mono e p⟩
theorem RepC.free {C : Ct} {H : Hp} {φ : List Addr} {c : Cell} {o : HO} (h : RepC C H φ c o) : Free (some o) := by
  cases c <;> cases o <;> first | exact h.elim | exact trivial
structure Sim (C : Ct) (H : Hp) (φ : List Addr) (m : Mem) : Prop where
  len : φ.length = m.length
  nd : φ.Nodup
  at_ : ∀ (k : Nat) (c : Cell), m[k]? = some c → ∃ a o, φ[k]? = some a ∧ H a = some o ∧ RepC C H φ c o

section
variable {C : Ct} {H H' : Hp} {φ φ' : List Addr} {m : Mem}
theorem Sim.mem (s : Sim C H φ m) {a : Addr} (h : a ∈ φ) : ∃ o, H a = some o ∧ Free (some o) := by
  obtain ⟨k, hk, e⟩ := List.getElem_of_mem h
  have hm : k < m.length := by rw [← s.len]; exact hk
  obtain ⟨b, o, h1, h2, h3⟩ := s.at_ k m[k] (by rw [List.getElem?_eq_getElem hm])
  rw [List.getElem?_eq_getElem hk, e] at h1
  cases h1
  exact ⟨o, h2, h3.free⟩
theorem Sim.notin (s : Sim C H φ m) {a : Addr} (h : H a = none) : a ∉ φ := fun z => by
  obtain ⟨o, e, _⟩ := s.mem z
  rw [h] at e; cases e
/-- what the memory's cells lean on stays -/
theorem Sim.keep (s : Sim C H φ m) (e : Ext C.K H H') (k : ∀ a ∈ φ, H' a = H a) : Sim C H' φ m :=
  ⟨s.len, s.nd, fun i c q => by
    obtain ⟨a, o, h1, h2, h3⟩ := s.at_ i c q
    exact ⟨a, o, h1, by rw [k a (List.mem_of_getElem? h1)]; exact h2, h3.mono e (List.prefix_refl φ)⟩⟩
/-- something new that is no cell -/
theorem Sim.side (s : Sim C H φ m) {p : Addr} {o : HO} (h : H p = none) : Sim C (upd H p o) φ m :=
  s.keep (Ext.new h) fun a ha => upd_ne fun z => by subst z; exact s.notin h ha
/-- a new cell -/
theorem Sim.new (s : Sim C H φ m) {p : Addr} {o : HO} {c : Cell} (h : H p = none) (r : RepC C (upd H p o) (φ ++ [p]) c o) : Sim C (upd H p o) (φ ++ [p]) (m ++ [c]) := by
  have s' := s.side (o := o) h
  refine ⟨by simp [s.len], ?_, fun i c' q => ?_⟩
  · rw [List.nodup_append]
    exact ⟨s.nd, by simp, fun a ha b hb e => by
      have : b = p := by simpa using hb
      subst this; subst e; exact s.notin h ha⟩
  · by_cases hi : i < m.length
    · rw [List.getElem?_append_left hi] at q
      obtain ⟨a, u, h1, h2, h3⟩ := s'.at_ i c' q
      exact ⟨a, u, pre_get ⟨_, rfl⟩ h1, h2, h3.mono Ext.refl ⟨_, rfl⟩⟩
    · rw [List.getElem?_append_right (Nat.le_of_not_lt hi)] at q
      have e0 : i - m.length = 0 := by
        rcases Nat.eq_zero_or_pos (i - m.length) with z | z
        · exact z
        · rw [List.getElem?_eq_none (by simp; omega)] at q; cases q
      rw [e0] at q
      have e1 : i = φ.length := by rw [s.len]; omega
      have : c = c' := by simpa using q
      subst this
      exact ⟨p, o, by rw [e1]; simp, upd_same, r⟩
/-- a cell is changed -/
theorem Sim.set (s : Sim C H φ m) {k : Nat} {a : Addr} {o : HO} {c : Cell} (h : φ[k]? = some a) (r : RepC C H φ c o) : Sim C (upd H a o) φ (m.set k c) ∧ Ext C.K H (upd H a o) := by
  obtain ⟨u, hu, hf⟩ := s.mem (List.mem_of_getElem? h)
  have e : Ext C.K H (upd H a o) := Ext.upd (by rw [hu]; exact hf)
  refine ⟨⟨by simp [s.len], s.nd, fun i c' q => ?_⟩, e⟩
  by_cases hi : k = i
  · subst hi
    have hlt : k < m.length := by
      rcases Nat.lt_or_ge k φ.length with z | z
      · rw [← s.len]; exact z
      · rw [List.getElem?_eq_none z] at h; cases h
    rw [List.getElem?_set_self hlt] at q
    cases q
    exact ⟨a, o, h, upd_same, r.mono e (List.prefix_refl _)⟩
  · rw [List.getElem?_set_ne hi] at q
    obtain ⟨b, w, h1, h2, h3⟩ := s.at_ i c' q
    refine ⟨b, w, h1, ?_, h3.mono e (List.prefix_refl _)⟩
    rw [upd_ne]; exact h2
    rintro rfl
    exact hi (nd_ix s.nd h h1)
theorem Sim.look (s : Sim C H φ m) {k : Nat} {a : Addr} {c : Cell} (h : φ[k]? = some a) (e : m[k]? = some c) : ∃ o, H a = some o ∧ RepC C H φ c o := by
  obtain ⟨b, o, h1, h2, h3⟩ := s.at_ k c e
  rw [h] at h1; cases h1
  exact ⟨o, h2, h3⟩
theorem Sim.lst (s : Sim C H φ m) {k : Nat} {a : Addr} {ds : List D} (h : φ[k]? = some a) (e : m[k]? = some (.lst ds)) : ∃ vs, H a = some (.lst vs) ∧ ds.length ≤ sizeLine ∧ Reps C.K H φ ds vs := by
  obtain ⟨o, h1, h2⟩ := s.look h e
  cases o <;> first | exact h2.elim | exact ⟨_, h1, h2⟩
theorem Sim.dk (s : Sim C H φ m) {k : Nat} {a : Addr} {kvs : List (Key × D)} (h : φ[k]? = some a) (e : m[k]? = some (.dK kvs)) : ∃ kvs', H a = some (.dK kvs') ∧ (kvs.length ≤ sizeLine ∧ ∀ p ∈ kvs, KFit p.1) ∧ RepK C.K H φ kvs kvs' := by
  obtain ⟨o, h1, h2⟩ := s.look h e
  cases o <;> first | exact h2.elim | exact ⟨_, h1, h2⟩
theorem Sim.dt (s : Sim C H φ m) {k : Nat} {a : Addr} {kvs : List (List Key × D)} (h : φ[k]? = some a) (e : m[k]? = some (.dT kvs)) : ∃ kvs', H a = some (.dT kvs') ∧ (kvs.length ≤ sizeLine ∧ ∀ p ∈ kvs, ∀ k ∈ p.1, KFit k) ∧ RepK C.K H φ kvs kvs' := by
  obtain ⟨o, h1, h2⟩ := s.look h e
  cases o <;> first | exact h2.elim | exact ⟨_, h1, h2⟩
end

/-! ### slots -/
abbrev Rho := List (Option D)
def RepE (K : Fg) (H : Hp) (φ : List Addr) (ρ : Rho) (σ : St) : Prop := ρ.length = σ.length ∧ ∀ (i : Nat) (d : D), ρ[i]? = some (some d) → ∃ v, σ[i]? = some (some v) ∧ Rep K H φ d v
section
variable {K : Fg} {H H' : Hp} {φ φ' : List Addr} {ρ : Rho} {σ : St}
theorem RepE.mono (h : RepE K H φ ρ σ) (e : Ext K H H') (p : φ <+: φ') : RepE K H' φ' ρ σ := ⟨h.1, fun i d q => by
  obtain ⟨v, h1, h2⟩ := h.2 i d q
  exact ⟨v, h1, h2.mono e p⟩⟩
theorem RepE.set (h : RepE K H φ ρ σ) {i : Nat} {d : D} {v : V} (r : Rep K H φ d v) : RepE K H φ (ρ.set i (some d)) (σ.set i (some v)) := by
  refine ⟨by simp [h.1], fun j d' q => ?_⟩
  by_cases hi : i = j
  · subst hi
    have hlt : i < ρ.length := by
      rcases Nat.lt_or_ge i ρ.length with z | z
      · exact z
      · rw [List.getElem?_eq_none (by simpa using z)] at q; cases q
    rw [List.getElem?_set_self hlt] at q
    cases q
    exact ⟨v, List.getElem?_set_self (by rw [← h.1]; exact hlt), r⟩
  · rw [List.getElem?_set_ne hi] at q ⊢
    exact h.2 j d' q
theorem RepE.wipe (h : RepE K H φ ρ σ) {i : Nat} {ov : Option V} : RepE K H φ (ρ.set i none) (σ.set i ov) := by
  refine ⟨by simp [h.1], fun j d' q => ?_⟩
  by_cases hi : i = j
  · subst hi
    have hlt : i < ρ.length := by
      rcases Nat.lt_or_ge i ρ.length with z | z
      · exact z
      · rw [List.getElem?_eq_none (by simpa using z)] at q; cases q
    rw [List.getElem?_set_self hlt] at q
    cases q
  · rw [List.getElem?_set_ne hi] at q ⊢
    exact h.2 j d' q
end
theorem RepE.start {K : Fg} {H : Hp} {φ : List Addr} {ds : List D} {vs : List V} {N : List Str} (h : Reps K H φ ds vs) : RepE K H φ (ds.map some ++ List.replicate (N.length - ds.length) none) (L2.start N vs) := by
  have hl := Paired.len h
  refine ⟨by simp [L2.start, hl], fun i d q => ?_⟩
  unfold L2.start
  by_cases hi : i < ds.length
  · rw [List.getElem?_append_left (by simpa using hi), List.getElem?_map, List.getElem?_eq_getElem hi] at q
    have : ds[i] = d := by simpa using q
    obtain ⟨v, h1, h2⟩ := Paired.get h (i := i) (a := d) (by rw [List.getElem?_eq_getElem hi, this])
    refine ⟨v, ?_, h2⟩
    rw [List.getElem?_append_left (by rw [List.length_map, ← hl]; exact hi), List.getElem?_map, h1]; rfl
  · rw [List.getElem?_append_right (by simpa using Nat.le_of_not_lt hi)] at q
    rw [List.getElem?_replicate] at q
    split at q <;> cases q

/-! ### outcomes -/
structure Exn where
  cls : Str
  fs : List (Str × D)
inductive Out (α : Type) where
  | ok (a : α) (m : Mem) | exc (x : Exn) (m : Mem) | bad
def Out.bind {α β : Type} : Out α → (α → Mem → Out β) → Out β
  | .ok a m, f => f a m
  | .exc x m, _ => .exc x m
  | .bad, _ => .bad
@[simp] theorem Out.bind_ok {α β : Type} {a : α} {m : Mem} {f : α → Mem → Out β} : (Out.ok a m).bind f = f a m := rfl
@[simp] theorem Out.bind_exc {α β : Type} {x : Exn} {m : Mem} {f : α → Mem → Out β} : (Out.exc x m).bind f = .exc x m := rfl
@[simp] theorem Out.bind_bad {α β : Type} {f : α → Mem → Out β} : (Out.bad).bind f = .bad := rfl
inductive SO where
  | next (ρ : Rho) (m : Mem) | brk (ρ : Rho) (m : Mem) | cont (ρ : Rho) (m : Mem) | ret (d : D) (m : Mem) | exc (x : Exn) (ρ : Rho) (m : Mem) | bad

def RepX (C : Ct) (H : Hp) (φ : List Addr) (x : Exn) (cls : Value) (dx : Option Addr) : Prop :=
  C.mg x.cls = some cls ∧ ∃ a fs, dx = some a ∧ a ∉ φ ∧ H a = some (.xd fs) ∧ RepK C.K H φ x.fs fs

section
variable (C : Ct) (W : WX) {α β : Type} (R : Hp → List Addr → α → β → Prop)
def Post (σ : St) (H0 : Hp) (φ0 : List Addr) (o : Out α) (Q : β → Hp → Prop) : Prop := match o with
  | .ok d m => ∀ v H φ, Ext C.K H0 H → φ0 <+: φ → R H φ d v → Sim C H φ m → Q v H
  | .exc x m => ∀ cls dx H φ, Ext C.K H0 H → φ0 <+: φ → RepX C H φ x cls dx → Sim C H φ m → W cls dx σ H
  | .bad => False
def tG (f : Rho → Mem → Out α) : St → Hp → (β → Hp → Prop) → Prop := fun σ H Q => ∃ ρ φ m, RepE C.K H φ ρ σ ∧ Sim C H φ m ∧ Post C W R σ H φ (f ρ m) Q
end
def PostS (C : Ct) (W : WX) (H0 : Hp) (φ0 : List Addr) (o : SO) (D : Ends) : Prop := match o with
  | .next ρ m => ∀ σ H φ, Ext C.K H0 H → φ0 <+: φ → RepE C.K H φ ρ σ → Sim C H φ m → D.nx σ H
  | .brk ρ m => ∀ σ H φ, Ext C.K H0 H → φ0 <+: φ → RepE C.K H φ ρ σ → Sim C H φ m → D.bk σ H
  | .cont ρ m => ∀ σ H φ, Ext C.K H0 H → φ0 <+: φ → RepE C.K H φ ρ σ → Sim C H φ m → D.ct σ H
  | .ret d m => ∀ v H φ, Ext C.K H0 H → φ0 <+: φ → Rep C.K H φ d v → Sim C H φ m → D.rt v H
  | .exc x ρ m => ∀ cls dx σ H φ, Ext C.K H0 H → φ0 <+: φ → RepX C H φ x cls dx → RepE C.K H φ ρ σ → Sim C H φ m → W cls dx σ H
  | .bad => False
def tS (C : Ct) (W : WX) (g : Rho → Mem → SO) : TS := fun D σ H => ∃ ρ φ m, RepE C.K H φ ρ σ ∧ Sim C H φ m ∧ PostS C W H φ (g ρ m) D

abbrev RD (C : Ct) : Hp → List Addr → D → V → Prop := fun H φ d v => Rep C.K H φ d v
abbrev RB : Hp → List Addr → Bool → Bool → Prop := fun _ _ a b => a = b
abbrev RL (C : Ct) : Hp → List Addr → List D → List V → Prop := fun H φ d v => Reps C.K H φ d v

abbrev EFn := Rho → Mem → Out D
abbrev TFn := Rho → Mem → Out Bool
abbrev AFn := Rho → Mem → Out (List D)
abbrev SFn := Rho → Mem → SO

def EX (X : Cx) (W : WX) (e : Expr) (f : EFn) : Prop := PE X e (tG (ct X) W (RD (ct X)) f)
def TX (X : Cx) (W : WX) (e : Expr) (f : TFn) : Prop := PT X e (tG (ct X) W RB f)
def WXx (X : Cx) (W : WX) (e : Expr) (f : TFn) : Prop := PW X e (tG (ct X) W RB f)
def AX (X : Cx) (W : WX) (es : List Expr) (f : AFn) : Prop := PA X es (tG (ct X) W (RL (ct X)) f)
def SX (X : Cx) (W : WX) (st : Stmt) (g : SFn) : Prop := PS X st (tS (ct X) W g)
def SXs (X : Cx) (W : WX) (sts : List Stmt) (g : SFn) : Prop := PSs X sts (tS (ct X) W g)

/-! ### how readings follow -/
section
variable {C : Ct} {W : WX} {α β γ δ : Type} {R : Hp → List Addr → α → β → Prop} {R' : Hp → List Addr → γ → δ → Prop} {σ : St} {H H1 : Hp} {φ φ1 : List Addr} {ρ : Rho} {m : Mem}
theorem Post.shift {o : Out α} {Q : β → Hp → Prop} (h : Post C W R σ H φ o Q) (e : Ext C.K H H1) (p : φ <+: φ1) : Post C W R σ H1 φ1 o Q := by
  cases o with
  | ok d m => exact fun v H2 φ2 e2 p2 r s => h v H2 φ2 (e.trans e2) (p.trans p2) r s
  | exc x m => exact fun cls dx H2 φ2 e2 p2 r s => h cls dx H2 φ2 (e.trans e2) (p.trans p2) r s
  | bad => exact h
theorem PostS.shift {o : SO} {D : Ends} (h : PostS C W H φ o D) (e : Ext C.K H H1) (p : φ <+: φ1) : PostS C W H1 φ1 o D := by
  cases o with
  | next ρ m => exact fun σ H2 φ2 e2 p2 r s => h σ H2 φ2 (e.trans e2) (p.trans p2) r s
  | brk ρ m => exact fun σ H2 φ2 e2 p2 r s => h σ H2 φ2 (e.trans e2) (p.trans p2) r s
  | cont ρ m => exact fun σ H2 φ2 e2 p2 r s => h σ H2 φ2 (e.trans e2) (p.trans p2) r s
  | ret d m => exact fun v H2 φ2 e2 p2 r s => h v H2 φ2 (e.trans e2) (p.trans p2) r s
  | exc x ρ m => exact fun cls dx σ H2 φ2 e2 p2 r r2 s => h cls dx σ H2 φ2 (e.trans e2) (p.trans p2) r r2 s
  | bad => exact h
/-- the end here and now -/
theorem Post.here {Q : β → Hp → Prop} {d : α} {v : β} (h : Post C W R σ H φ (.ok d m) Q) (s : Sim C H φ m) (r : R H φ d v) : Q v H := h v H φ Ext.refl (List.prefix_refl _) r s
theorem Post.at {Q : β → Hp → Prop} {d : α} {v : β} (h : Post C W R σ H φ (.ok d m) Q) (e : Ext C.K H H1) (p : φ <+: φ1) (s : Sim C H1 φ1 m) (r : R H1 φ1 d v) : Q v H1 := h v H1 φ1 e p r s
/-- first f, then k -/
theorem bindG {f : Rho → Mem → Out α} {k : α → Mem → Out γ} {Q : δ → Hp → Prop} {T : β → Hp → Prop} (hρ : RepE C.K H φ ρ σ) (hs : Sim C H φ m) (h : Post C W R' σ H φ ((f ρ m).bind k) Q)
    (hT : ∀ d m1 v H1 φ1, Ext C.K H H1 → φ <+: φ1 → RepE C.K H1 φ1 ρ σ → Sim C H1 φ1 m1 → R H1 φ1 d v → Post C W R' σ H1 φ1 (k d m1) Q → T v H1) : tG C W R f σ H T := by
  refine ⟨ρ, φ, m, hρ, hs, ?_⟩
  cases e : f ρ m with
  | ok d m1 =>
    rw [e] at h
    exact fun v H1 φ1 ex p r s => hT d m1 v H1 φ1 ex p (hρ.mono ex p) s r (Post.shift (R := R') h ex p)
  | exc x m1 =>
    rw [e] at h
    exact h
  | bad =>
    rw [e] at h
    exact h
end
/-- an expression's outcome, then a statement -/
def Out.so {α : Type} (o : Out α) (ρ : Rho) (k : α → Mem → SO) : SO := match o with
  | .ok a m => k a m
  | .exc x m => .exc x ρ m
  | .bad => .bad
@[simp] theorem Out.so_ok {α : Type} {a : α} {m : Mem} {ρ : Rho} {k : α → Mem → SO} : (Out.ok a m).so ρ k = k a m := rfl
@[simp] theorem Out.so_exc {α : Type} {x : Exn} {m : Mem} {ρ : Rho} {k : α → Mem → SO} : (Out.exc x m).so ρ k = .exc x ρ m := rfl
@[simp] theorem Out.so_bad {α : Type} {ρ : Rho} {k : α → Mem → SO} : (Out.bad : Out α).so ρ k = .bad := rfl
section
variable {C : Ct} {W : WX} {α β : Type} {R : Hp → List Addr → α → β → Prop} {σ : St} {H H1 : Hp} {φ φ1 : List Addr} {ρ : Rho} {m : Mem}
theorem bindS {f : Rho → Mem → Out α} {k : α → Mem → SO} {Dn : Ends} {T : β → Hp → Prop} (hρ : RepE C.K H φ ρ σ) (hs : Sim C H φ m) (h : PostS C W H φ ((f ρ m).so ρ k) Dn)
    (hT : ∀ d m1 v H1 φ1, Ext C.K H H1 → φ <+: φ1 → RepE C.K H1 φ1 ρ σ → Sim C H1 φ1 m1 → R H1 φ1 d v → PostS C W H1 φ1 (k d m1) Dn → T v H1) : tG C W R f σ H T := by
  refine ⟨ρ, φ, m, hρ, hs, ?_⟩
  cases e : f ρ m with
  | ok d m1 =>
    rw [e] at h
    exact fun v H1 φ1 ex p r s => hT d m1 v H1 φ1 ex p (hρ.mono ex p) s r (h.shift ex p)
  | exc x m1 =>
    rw [e] at h
    exact fun cls dx H2 φ2 e2 p2 r s => h cls dx σ H2 φ2 e2 p2 r (hρ.mono e2 p2) s
  | bad =>
    rw [e] at h
    exact h
end
/-! ### weaker readings -/
theorem PE.imp {X : Cx} {e : Expr} {t t' : TE} (h : PE X e t) (i : ∀ σ H Q, t' σ H Q → t σ H Q) : PE X e t' := ⟨fun pins s σ H Q I q => h.run pins s σ H Q I (i σ H Q q)⟩
theorem PT.imp {X : Cx} {e : Expr} {t t' : TT} (h : PT X e t) (i : ∀ σ H Q, t' σ H Q → t σ H Q) : PT X e t' := ⟨fun pins s σ H Q I q => h.run pins s σ H Q I (i σ H Q q)⟩
theorem PW.imp {X : Cx} {e : Expr} {t t' : TT} (h : PW X e t) (i : ∀ σ H Q, t' σ H Q → t σ H Q) : PW X e t' := ⟨fun wh pins s σ H Q I q => h.run wh pins s σ H Q I (i σ H Q q)⟩
theorem PA.imp {X : Cx} {es : List Expr} {t t' : TA} (h : PA X es t) (i : ∀ σ H Q, t' σ H Q → t σ H Q) : PA X es t' := ⟨fun pos pins s σ H Q I q => h.run pos pins s σ H Q I (i σ H Q q)⟩
theorem PS.imp {X : Cx} {st : Stmt} {t t' : TS} (h : PS X st t) (i : ∀ D σ H, t' D σ H → t D σ H) : PS X st t' := ⟨fun pins s σ H D I q => h.run pins s σ H D I (i D σ H q)⟩
theorem PSs.imp {X : Cx} {st : List Stmt} {t t' : TS} (h : PSs X st t) (i : ∀ D σ H, t' D σ H → t D σ H) : PSs X st t' := ⟨fun pins s σ H D I q => h.run pins s σ H D I (i D σ H q)⟩
end DL
set_option Elab.async false
set_option linter.all false
set_option maxRecDepth 100000
set_option maxHeartbeats 4000000
/-! DLExpr: expressions. -/
namespace DL
open PySem L2

section
variable {X : Cx} {W : WX} {e a b c : Expr} {fa fb fc : EFn} {pos : Pos}

/-! ### names and constants -/
def eVar (i : Nat) : EFn := fun ρ m => match ρ[i]? with | some (some d) => .ok d m | _ => .bad
def eC (d : D) : EFn := fun _ m => .ok d m
theorem ex_of_var {i : Nat} (h : PE X e (tVar i)) : EX X W e (eVar i) := by
  refine PE.imp h fun σ H Q ⟨ρ, φ, m, hρ, hs, q⟩ => ?_
  have q' : Post (ct X) W (RD (ct X)) σ H φ (match ρ[i]? with | some (some d) => .ok d m | _ => .bad) Q := q
  split at q'
  · rename_i d he
    obtain ⟨v, h1, h2⟩ := hρ.2 i d he
    exact ⟨v, h1, q'.here hs h2⟩
  · exact q'.elim
theorem ex_v (i : Nat) {x : Str} {pos : Pos} (hN : X.N[i]? = some x := by rfl) (hv : Vis X.env.scope x := by first | exact Or.inl rfl | exact Or.inr (Or.inl rfl) | exact Or.inr (Or.inr rfl)) (hd : (x == ("__debug__" : Str)) = false := by decide)
    (hcd : (x == ("__classdict__" : Str)) = false := by decide) : EX X W (.Name x pos) (eVar i) := ex_of_var (pe_var hN hv hd hcd)
theorem ex_of_c {d : D} {v : V} (h : PE X e (tC v)) (r : ∀ H φ, Rep X.K H φ d v) : EX X W e (eC d) :=
  PE.imp h fun σ H Q ⟨ρ, φ, m, hρ, hs, q⟩ => Post.here q hs (r H φ)
theorem ex_int {i : Int} {j pos} : EX X W (.Constant (.int i) j pos) (eC (.int i)) := ex_of_c pe_int fun _ _ => .int i
theorem ex_bl {b : Bool} {j pos} : EX X W (.Constant (.bool b) j pos) (eC (.bl b)) := ex_of_c pe_bl fun _ _ => .bl b
theorem ex_non {j pos} : EX X W (.Constant .none j pos) (eC .non) := ex_of_c pe_non fun _ _ => .non
theorem ex_str {x : Str} {j pos} (h : (decide (x.length ≤ 16777216) && PySem.PyData.strOk x) = true := by decide +kernel) : EX X W (.Constant (.str x) j pos) (eC (.str x)) := by
  obtain ⟨h1, h2⟩ := Bool.and_eq_true_iff.mp h
  exact ex_of_c pe_str fun _ _ => .str (by rw [sizeLine_eq]; exact of_decide_eq_true h1) h2
theorem ex_globI {x : Str} {i : Int} {t : Tok} {pos : Pos} (hg : Gl X x) (hm : X.mg x = some (.int i t)) (hd : (x == ("__debug__" : Str)) = false := by decide) : EX X W (.Name x pos) (eC (.int i)) := ex_of_c (v := .int i) (pe_glob hg hm ⟨_, rfl⟩ hd) fun _ _ => .int i
theorem ex_globS {x y : Str} {t : Tok} {pos : Pos} (hg : Gl X x) (hm : X.mg x = some (.str y t)) (h : (decide (y.length ≤ 16777216) && PySem.PyData.strOk y) = true := by decide +kernel) (hd : (x == ("__debug__" : Str)) = false := by decide) : EX X W (.Name x pos) (eC (.str y)) := by
  obtain ⟨h1, h2⟩ := Bool.and_eq_true_iff.mp h
  exact ex_of_c (v := .str y) (pe_glob hg hm ⟨_, rfl⟩ hd) fun _ _ => .str (by rw [sizeLine_eq]; exact of_decide_eq_true h1) h2

/-! ### operators -/
abbrev G2 := D → D → Mem → Out D
abbrev G1 := D → Mem → Out D
def Ad2 (C : Ct) (r : R2) (g : G2) : Prop := ∀ (W : WX) (σ : L2.St) (H : Hp) (φ : List Addr) (m : Mem) (d1 d2 : D) (v1 v2 : V) (Q : VK), Sim C H φ m → Rep C.K H φ d1 v1 → Rep C.K H φ d2 v2 → Post C W (RD C) σ H φ (g d1 d2 m) Q → r v1 v2 H Q
def eBin (g : G2) (a b : EFn) : EFn := fun ρ m => (a ρ m).bind fun x m1 => (b ρ m1).bind fun y m2 => g x y m2
theorem tOp_of {C : Ct} {r : R2} {g : G2} (ad : Ad2 C r g) {σ : L2.St} {H : Hp} {Q : VK} (h : tG C W (RD C) (eBin g fa fb) σ H Q) : tOp r (tG C W (RD C) fa) (tG C W (RD C) fb) σ H Q := by
  obtain ⟨ρ, φ, m, hρ, hs, q⟩ := h
  refine bindG hρ hs q fun d m1 v H1 φ1 e1 p1 hρ1 hs1 r1 q1 => ?_
  refine bindG hρ1 hs1 q1 fun d2 m2 v2 H2 φ2 e2 p2 hρ2 hs2 r2 q2 => ?_
  exact ad W σ H2 φ2 m2 d d2 v v2 Q hs2 (r1.mono e2 p2) r2 q2
theorem ex_op {op : Operator} {r : R2} {g : G2} (ho : OpR X (binaryOp op) r) (ad : Ad2 (ct X) r g) (ha : EX X W a fa) (hb : EX X W b fb) : EX X W (.BinOp a op b pos) (eBin g fa fb) :=
  PE.imp (pe_op ho ha hb) fun _ _ _ h => tOp_of ad h
theorem ex_cmpG {op : CmpOp} {r : R2} {g : G2} (ho : OpR X (compareOp op) r) (ad : Ad2 (ct X) r g) (ha : EX X W a fa) (hb : EX X W b fb) (hm : behindInMarks op b = false) : EX X W (.Compare a [op] [b] pos) (eBin g fa fb) :=
  PE.imp (pe_cmpR ho ha hb hm) fun _ _ _ h => tOp_of ad h

/-- ints -/
def gI (p : Int → Int → Bool) (f : Int → Int → D) : G2 := fun x y m => match x, y with | .int i, .int j => if p i j = true then .ok (f i j) m else .bad | _, _ => .bad
theorem ad_I {C : Ct} {P : Int → Int → Prop} {p : Int → Int → Bool} {f : Int → Int → D} {f' : Int → Int → V} (hp : ∀ i j, p i j = true → P i j) (hf : ∀ H φ i j, Rep C.K H φ (f i j) (f' i j)) : Ad2 C (rI P f') (gI p f) := by
  intro W σ H φ m d1 d2 v1 v2 Q hs r1 r2 q
  cases d1 <;> cases d2 <;> first | exact (show False from q).elim | skip
  rename_i i j
  cases r1; cases r2
  have q' : Post C W (RD C) σ H φ (if p i j = true then .ok (f i j) m else .bad) Q := q
  split at q'
  · rename_i h
    exact ⟨i, j, rfl, rfl, hp i j h, q'.here hs (hf H φ i j)⟩
  · exact q'.elim
theorem ad_I0 {C : Ct} {f : Int → Int → D} {f' : Int → Int → V} (hf : ∀ H φ i j, Rep C.K H φ (f i j) (f' i j)) : Ad2 C (rI0 f') (gI (fun _ _ => true) f) := by
  intro W σ H φ m d1 d2 v1 v2 Q hs r1 r2 q
  cases d1 <;> cases d2 <;> first | exact (show False from q).elim | skip
  rename_i i j
  cases r1; cases r2
  exact ⟨i, j, rfl, rfl, Post.here (show Post C W (RD C) σ H φ (.ok (f i j) m) Q from q) hs (hf H φ i j)⟩

theorem Rep.tup_new {K : Fg} {H : Hp} {φ : List Addr} {ds : List D} {vs : List V} {p : Addr} (hl : ds.length ≤ sizeLine) (hp : H p = none) (r : Reps K H φ ds vs) : Rep K (upd H p (.tup vs)) φ (.tup ds) (.ref p) :=
  .tup hl upd_same (Reps.mono (Ext.new hp) (List.prefix_refl _) r)
/-- a new list as a cell -/
theorem new_lst {C : Ct} {H : Hp} {φ : List Addr} {m : Mem} {ds : List D} {vs : List V} {p : Addr} (hs : Sim C H φ m) (hl : ds.length ≤ sizeLine) (hp : H p = none) (r : Reps C.K H φ ds vs) :
    Sim C (upd H p (.lst vs)) (φ ++ [p]) (m ++ [.lst ds]) ∧ Rep C.K (upd H p (.lst vs)) (φ ++ [p]) (.ref m.length) (.ref p) :=
  ⟨hs.new hp ⟨hl, Reps.mono (Ext.new hp) ⟨_, rfl⟩ r⟩, .ref (by rw [← hs.len]; simp)⟩
theorem Post.newLst {C : Ct} {σ : L2.St} {H : Hp} {φ : List Addr} {m : Mem} {ds : List D} {vs : List V} {Q : VK} (q : Post C W (RD C) σ H φ (.ok (.ref m.length) (m ++ [.lst ds])) Q) (hs : Sim C H φ m) (hl : ds.length ≤ sizeLine) (r : Reps C.K H φ ds vs) :
    ∀ p, H p = none → Q (.ref p) (upd H p (.lst vs)) := fun p hp =>
  let ⟨h1, h2⟩ := new_lst hs hl hp r
  q.at (Ext.new hp) ⟨_, rfl⟩ h1 h2
theorem Post.newTup {C : Ct} {σ : L2.St} {H : Hp} {φ : List Addr} {m : Mem} {ds : List D} {vs : List V} {Q : VK} (q : Post C W (RD C) σ H φ (.ok (.tup ds) m) Q) (hs : Sim C H φ m) (hl : ds.length ≤ sizeLine) (r : Reps C.K H φ ds vs) :
    ∀ p, H p = none → Q (.ref p) (upd H p (.tup vs)) := fun p hp => q.at (Ext.new hp) (List.prefix_refl _) (hs.side hp) (Rep.tup_new hl hp r)

def gAdd : G2 := fun x y m => match x, y with
  | .int i, .int j => .ok (.int (i + j)) m
  | .str s, .str t => if s.length + t.length ≤ sizeLine then .ok (.str (s ++ t)) m else .bad
  | .tup s, .tup t => if s.length + t.length ≤ sizeLine then .ok (.tup (s ++ t)) m else .bad
  | .ref k, .ref l => match m[k]?, m[l]? with
    | some (.lst s), some (.lst t) => if s.length + t.length ≤ sizeLine then .ok (.ref m.length) (m ++ [.lst (s ++ t)]) else .bad
    | _, _ => .bad
  | _, _ => .bad
theorem str_app_len (s t : Str) : (s ++ t).length = s.length + t.length := by
  show (Array.append s.cps t.cps).size = _
  exact Array.size_append
theorem strOk_app {s t : Str} (h1 : PySem.PyData.strOk s = true) (h2 : PySem.PyData.strOk t = true) : PySem.PyData.strOk (s ++ t) = true := by
  unfold PySem.PyData.strOk at h1 h2 ⊢
  show (Array.append s.cps t.cps).all _ = true
  rw [show Array.append s.cps t.cps = s.cps ++ t.cps from rfl, Array.all_append, h1, h2]; rfl
abbrev rAddA (K : Fg) : R2 := fun x y H Q => rI0 (fun i j => .int (i + j)) x y H Q ∨ (fun x y H Q => ((∃ i j, x = V.str i ∧ y = V.str j ∧ i.length + j.length ≤ sizeLine ∧ Q (V.str (i ++ j)) H) ∨ (rCatA K x y H Q ∨ rCat x y H Q))) x y H Q
theorem op_addA : OpR X (binaryOp .Add) (rAddA X.K) := op_add.or (op_add_str.or (op_catA.or op_cat))
theorem ad_add : Ad2 (ct X) (rAddA X.K) gAdd := by
  intro W σ H φ m d1 d2 v1 v2 Q hs r1 r2 q
  cases d1 <;> cases d2 <;> first | exact (show False from q).elim | skip
  · cases r1; cases r2
    exact .inl ⟨_, _, rfl, rfl, Post.here (C := ct X) (W := W) (R := RD (ct X)) (σ := σ) (φ := φ) q hs (.int _)⟩
  · rename_i s t
    cases r1 with
    | str a1 a2 => cases r2 with
      | str b1 b2 =>
        have q' : Post (ct X) W (RD (ct X)) σ H φ (if s.length + t.length ≤ sizeLine then .ok (.str (s ++ t)) m else .bad) Q := q
        split at q'
        · rename_i h
          exact .inr (.inl ⟨s, t, rfl, rfl, h, q'.here hs (.str (by rw [str_app_len]; exact h) (strOk_app a2 b2))⟩)
        · exact q'.elim
  · rename_i s t
    cases r1 with
    | tup a1 a2 a3 => cases r2 with
      | tup b1 b2 b3 =>
        have q' : Post (ct X) W (RD (ct X)) σ H φ (if s.length + t.length ≤ sizeLine then .ok (.tup (s ++ t)) m else .bad) Q := q
        split at q'
        · rename_i a vs b ws h
          have l1 := Paired.len a3
          have l2 := Paired.len b3
          refine .inr (.inr (.inl ⟨a, b, vs, ws, rfl, rfl, SqT.of a2, SqT.of b2, by rw [← l1, ← l2]; exact h, fun z => ?_, fun _ z => ?_, fun _ _ => q'.newTup hs (by simpa using h) (Paired.app a3 b3)⟩))
          · subst z
            have : s = [] := List.eq_nil_of_length_eq_zero (by simpa using l1)
            subst this
            exact q'.here hs (.tup b1 b2 b3)
          · subst z
            have : t = [] := List.eq_nil_of_length_eq_zero (by simpa using l2)
            subst this
            rw [List.append_nil] at q'
            exact q'.here hs (.tup a1 a2 a3)
        · exact q'.elim
  · rename_i k l
    cases r1 with
    | ref h1 => cases r2 with
      | ref h2 =>
        have q' : Post (ct X) W (RD (ct X)) σ H φ (match m[k]?, m[l]? with
          | some (.lst s), some (.lst t) => if s.length + t.length ≤ sizeLine then .ok (.ref m.length) (m ++ [.lst (s ++ t)]) else .bad
          | _, _ => .bad) Q := q
        split at q'
        · rename_i s t e1 e2
          split at q'
          · rename_i h
            obtain ⟨vs, g1, g2, g3⟩ := hs.lst h1 e1
            obtain ⟨ws, f1, f2, f3⟩ := hs.lst h2 e2
            exact .inr (.inr (.inr ⟨_, _, vs, ws, rfl, rfl, g1, f1, by rw [← Paired.len g3, ← Paired.len f3]; exact h, q'.newLst hs (by simpa using h) (Paired.app g3 f3)⟩))
          · exact q'.elim
        · exact q'.elim
theorem ex_add (ha : EX X W a fa) (hb : EX X W b fb) : EX X W (.BinOp a .Add b pos) (eBin gAdd fa fb) := ex_op op_addA ad_add ha hb
def gSub : G2 := gI (fun _ _ => true) fun i j => .int (i - j)
theorem ex_sub (ha : EX X W a fa) (hb : EX X W b fb) : EX X W (.BinOp a .Sub b pos) (eBin gSub fa fb) := ex_op op_sub (ad_I0 fun _ _ _ _ => .int _) ha hb
/-- i * j of ints, one of them below 2^64; a list's parts several times -/
def sm64 (i : Int) : Bool := Nat.ble i.natAbs 18446744073709551615
def sm63 (i : Int) : Bool := Nat.ble i.natAbs 9223372036854775807
theorem sm64_mul {i j : Int} (h : (sm64 i || sm64 j) = true) : CMul i j := by
  rcases Bool.or_eq_true_iff.mp h with h | h
  · have := Nat.le_of_ble_eq_true h
    exact .inl (by omega)
  · have := Nat.le_of_ble_eq_true h
    exact .inr (by omega)
theorem sm63_iff {i : Int} (h : sm63 i = true) : -(2 ^ 63) ≤ i ∧ i < 2 ^ 63 := by
  have := Nat.le_of_ble_eq_true h
  omega
def gMul : G2 := fun x y m => match x, y with
  | .int i, .int j => if (sm64 i || sm64 j) = true then .ok (.int (i * j)) m else .bad
  | .ref k, .int j => match m[k]? with
    | some (.lst s) => if sm63 j = true ∧ s.length * j.toNat ≤ sizeLine then .ok (.ref m.length) (m ++ [.lst (List.replicate j.toNat s).flatten]) else .bad
    | _ => .bad
  | _, _ => .bad
theorem Paired.rep {α β : Type} {F : α → β → Prop} {l : List α} {l' : List β} (h : Paired F l l') : ∀ k : Nat, Paired F (List.replicate k l).flatten (List.replicate k l').flatten
  | 0 => .nil
  | k + 1 => by rw [List.replicate_succ, List.replicate_succ, List.flatten_cons, List.flatten_cons]; exact Paired.app h (Paired.rep h k)
theorem rep_len {α : Type} (l : List α) : ∀ k : Nat, (List.replicate k l).flatten.length = l.length * k
  | 0 => by simp
  | k + 1 => by rw [List.replicate_succ, List.flatten_cons, List.length_append, rep_len l k, Nat.mul_succ]; omega
abbrev rMulA : R2 := fun x y H Q => rI CMul (fun i j => .int (i * j)) x y H Q ∨ rRep x y H Q
theorem ad_mul {C : Ct} : Ad2 C rMulA gMul := by
  intro W σ H φ m d1 d2 v1 v2 Q hs r1 r2 q
  cases d1 <;> cases d2 <;> first | exact (show False from q).elim | skip
  · rename_i i j
    cases r1; cases r2
    have q' : Post C W (RD C) σ H φ (if (sm64 i || sm64 j) = true then .ok (.int (i * j)) m else .bad) Q := q
    split at q'
    · rename_i h
      exact .inl ⟨i, j, rfl, rfl, sm64_mul h, q'.here hs (.int _)⟩
    · exact q'.elim
  · rename_i k j
    cases r1 with
    | ref h1 =>
      cases r2
      have q' : Post C W (RD C) σ H φ (match m[k]? with
        | some (.lst s) => if sm63 j = true ∧ s.length * j.toNat ≤ sizeLine then .ok (.ref m.length) (m ++ [.lst (List.replicate j.toNat s).flatten]) else .bad
        | _ => .bad) Q := q
      split at q'
      · rename_i s e1
        split at q'
        · rename_i h
          obtain ⟨vs, g1, g2, g3⟩ := hs.lst h1 e1
          exact .inr ⟨_, j, vs, rfl, rfl, g1, (sm63_iff h.1).1, (sm63_iff h.1).2, by rw [← Paired.len g3]; exact h.2, q'.newLst hs (by rw [rep_len]; exact h.2) (Paired.rep g3 _)⟩
        · exact q'.elim
      · exact q'.elim
theorem ex_mul (ha : EX X W a fa) (hb : EX X W b fb) : EX X W (.BinOp a .Mult b pos) (eBin gMul fa fb) := ex_op (op_mul.or op_rep) ad_mul ha hb
def gFdiv : G2 := gI (fun _ j => decide (j ≠ 0 ∧ j.natAbs < 1073741824)) fun i j => .int (i.fdiv j)
theorem ex_fdiv (ha : EX X W a fa) (hb : EX X W b fb) : EX X W (.BinOp a .FloorDiv b pos) (eBin gFdiv fa fb) := ex_op op_fdivN (ad_I (fun i j h => (of_decide_eq_true h : j ≠ 0 ∧ j.natAbs < 1073741824)) fun _ _ _ _ => .int _) ha hb
def gMod : G2 := gI (fun _ j => decide (j ≠ 0)) fun i j => .int (i.fmod j)
theorem ex_mod (ha : EX X W a fa) (hb : EX X W b fb) : EX X W (.BinOp a .Mod b pos) (eBin gMod fa fb) := ex_op op_modN (ad_I (fun _ _ h => of_decide_eq_true h) fun _ _ _ _ => .int _) ha hb
def powOk (i j : Int) : Bool := decide (0 ≤ j ∧ j.natAbs ≤ 1000000 ∧ i.natAbs < 18446744073709551616)
theorem powOk_iff {i j : Int} (h : powOk i j = true) : 0 ≤ j ∧ j ≤ 1000000 ∧ i.natAbs < 2 ^ 64 := by
  have := of_decide_eq_true h
  omega
def gPow : G2 := gI powOk fun i j => .int (i ^ j.toNat)
theorem ex_pow (ha : EX X W a fa) (hb : EX X W b fb) : EX X W (.BinOp a .Pow b pos) (eBin gPow fa fb) := ex_op op_pow (ad_I (fun i j h => powOk_iff h) fun _ _ _ _ => .int _) ha hb
def gShl : G2 := gI powOk fun i j => .int (i * 2 ^ j.toNat)
theorem ex_shl (ha : EX X W a fa) (hb : EX X W b fb) : EX X W (.BinOp a .LShift b pos) (eBin gShl fa fb) := ex_op op_shl (ad_I (fun i j h => powOk_iff h) fun _ _ _ _ => .int _) ha hb
def gShr : G2 := gI (fun _ j => decide (0 ≤ j)) fun i j => .int (i / 2 ^ j.toNat)
theorem ex_shr (ha : EX X W a fa) (hb : EX X W b fb) : EX X W (.BinOp a .RShift b pos) (eBin gShr fa fb) := ex_op op_shr (ad_I (fun _ _ h => of_decide_eq_true h) fun _ _ _ _ => .int _) ha hb

/-! ### one operand -/
def Ad1 (C : Ct) (r : V → Hp → VK → Prop) (g : G1) : Prop := ∀ (W : WX) (σ : L2.St) (H : Hp) (φ : List Addr) (m : Mem) (d : D) (v : V) (Q : VK), Sim C H φ m → Rep C.K H φ d v → Post C W (RD C) σ H φ (g d m) Q → r v H Q
def eUn (g : G1) (a : EFn) : EFn := fun ρ m => (a ρ m).bind g
def gNeg : G1 := fun x m => match x with | .int i => .ok (.int (-i)) m | _ => .bad
theorem ad_neg {C : Ct} : Ad1 C (rU fun i => .int (-i)) gNeg := by
  intro W σ H φ m d v Q hs r q
  cases d <;> first | exact (show False from q).elim | skip
  cases r
  exact ⟨_, rfl, Post.here (C := C) (W := W) (R := RD C) (σ := σ) (φ := φ) q hs (.int _)⟩
theorem ex_un {op : UnaryOp} {r : V → Hp → VK → Prop} {g : G1} (ho : UnR X (unaryOp op) r) (ad : Ad1 (ct X) r g) (ha : EX X W a fa) : EX X W (.UnaryOp op a pos) (eUn g fa) :=
  PE.imp (pe_un ho ha) fun σ H Q ⟨ρ, φ, m, hρ, hs, q⟩ => bindG hρ hs q fun d m1 v H1 φ1 e1 p1 hρ1 hs1 r1 q1 => ad W σ H1 φ1 m1 d v Q hs1 r1 q1
theorem ex_neg (ha : EX X W a fa) : EX X W (.UnaryOp .USub a pos) (eUn gNeg fa) := ex_un un_neg ad_neg ha

/-! ### comparisons -/
mutual
def D.py : D → PyData
  | .non => .none
  | .bl b => .bool b
  | .int i => .int i
  | .str x => .str x
  | .tup ds => .tuple (D.pys ds)
  | .rot ds => .tuple (D.pys ds)
  | .rol ds => .list (D.pys ds)
  | .ref _ => .none
  | .exo _ _ _ => .none
def D.pys : List D → List PyData
  | [] => []
  | d :: ds => d.py :: D.pys ds
end
mutual
def D.plain : D → Bool
  | .tup ds => D.plains ds
  | .rot ds => D.plains ds
  | .rol ds => D.plains ds
  | .ref _ => false
  | .exo _ _ _ => false
  | .non => true
  | .bl _ => true
  | .int _ => true
  | .str _ => true
def D.plains : List D → Bool
  | [] => true
  | d :: ds => d.plain && D.plains ds
end
mutual
theorem Rep.dp {K : Fg} {H : Hp} {φ : List Addr} : ∀ (d : D) (v : V), Rep K H φ d v → d.plain = true → Dp K H v d.py ∧ d.py.canLay0 = true
  | .non, v, r, _ => by cases r; exact ⟨.non, by simp [D.py, PyData.canLay0]⟩
  | .bl b, v, r, _ => by cases r; exact ⟨.bl b, by simp [D.py, PyData.canLay0]⟩
  | .int i, v, r, _ => by cases r; exact ⟨.int i, by simp [D.py, PyData.canLay0]⟩
  | .str x, v, r, _ => by
    cases r with
    | str h1 h2 => exact ⟨.str x, by simpa [D.py, PyData.canLay0] using h2⟩
  | .tup ds, v, r, p => by
    cases r with
    | tup h1 h2 h3 =>
      obtain ⟨g1, g2⟩ := Reps.dp ds _ h3 (by simpa [D.plain] using p)
      exact ⟨.tup (SqT.of h2) g1, by simpa [D.py, PyData.canLay0] using g2⟩
  | .rot ds, v, r, p => by
    cases r with
    | rot h1 h2 h3 =>
      obtain ⟨g1, g2⟩ := Reps.dp ds _ h3 (by simpa [D.plain] using p)
      exact ⟨.tup h2 g1, by simpa [D.py, PyData.canLay0] using g2⟩
  | .rol ds, v, r, p => by
    cases r with
    | rol h1 h2 h3 =>
      obtain ⟨g1, g2⟩ := Reps.dp ds _ h3 (by simpa [D.plain] using p)
      exact ⟨.lst h2.sq g1, by simpa [D.py, PyData.canLay0] using g2⟩
  | .ref k, v, r, p => by simp [D.plain] at p
  | .exo _ _ _, v, r, p => by simp [D.plain] at p
theorem Reps.dp {K : Fg} {H : Hp} {φ : List Addr} : ∀ (ds : List D) (vs : List V), Reps K H φ ds vs → D.plains ds = true → DpAll K H vs (D.pys ds) ∧ PyData.canLayAll0 (D.pys ds) = true
  | [], vs, r, _ => by cases r; exact ⟨.nil, by simp [D.pys, PyData.canLayAll0]⟩
  | d :: ds, vs, r, p => by
    cases r with
    | cons r1 r2 =>
      have p' : d.plain = true ∧ D.plains ds = true := by simpa [D.plains] using p
      obtain ⟨g1, g2⟩ := Rep.dp d _ r1 p'.1
      obtain ⟨g3, g4⟩ := Reps.dp ds _ r2 p'.2
      exact ⟨.cons g1 g3, by simp [D.pys, PyData.canLayAll0, g2, g4]⟩
end
/-- data that == reads: no cells, at most 64 deep -/
def D.flat (d : D) : Bool := d.plain && decide (d.py.depth ≤ 64)
theorem Rep.shaped {K : Fg} {H : Hp} {φ : List Addr} {d : D} {v : V} (r : Rep K H φ d v) (h : d.flat = true) : Dp K H v d.py ∧ SeqAt.shaped d.py = true := by
  obtain ⟨h1, h2⟩ := Bool.and_eq_true_iff.mp h
  obtain ⟨g1, g2⟩ := Rep.dp d v r h1
  exact ⟨g1, by unfold SeqAt.shaped; rw [g2, h2]; rfl⟩
def D.eqv (a b : D) : Bool := PyData.eqv a.py b.py
def gEqP (neg : Bool) : G2 := fun x y m => if (x.flat && y.flat) = true then .ok (.bl (if neg then !x.eqv y else x.eqv y)) m else .bad
theorem ad_eq {C : Ct} : Ad2 C (rEqD C.K) (gEqP false) := by
  intro W σ H φ m d1 d2 v1 v2 Q hs r1 r2 q
  have q' : Post C W (RD C) σ H φ (if (d1.flat && d2.flat) = true then .ok (.bl (d1.eqv d2)) m else .bad) Q := q
  split at q'
  · rename_i h
    obtain ⟨h1, h2⟩ := Bool.and_eq_true_iff.mp h
    obtain ⟨g1, g2⟩ := r1.shaped h1
    obtain ⟨g3, g4⟩ := r2.shaped h2
    exact ⟨_, _, g1, g3, g2, g4, q'.here hs (.bl _)⟩
  · exact q'.elim
theorem ad_ne {C : Ct} : Ad2 C (rNeD C.K) (gEqP true) := by
  intro W σ H φ m d1 d2 v1 v2 Q hs r1 r2 q
  have q' : Post C W (RD C) σ H φ (if (d1.flat && d2.flat) = true then .ok (.bl (!d1.eqv d2)) m else .bad) Q := q
  split at q'
  · rename_i h
    obtain ⟨h1, h2⟩ := Bool.and_eq_true_iff.mp h
    obtain ⟨g1, g2⟩ := r1.shaped h1
    obtain ⟨g3, g4⟩ := r2.shaped h2
    exact ⟨_, _, g1, g3, g2, g4, q'.here hs (.bl _)⟩
  · exact q'.elim
/-- the comparisons by their signs -/
structure CmpR (X : Cx) (op : CmpOp) (g : G2) : Prop where
  rule : ∃ r : R2, OpR X (compareOp op) r ∧ Ad2 (ct X) r g
abbrev gEq : G2 := gEqP false
abbrev gNe : G2 := gEqP true
def gLt : G2 := gI (fun _ _ => true) fun i j => .bl (decide (i < j))
def gLe : G2 := gI (fun _ _ => true) fun i j => .bl (decide (i ≤ j))
def gGt : G2 := gI (fun _ _ => true) fun i j => .bl (decide (j < i))
def gGe : G2 := gI (fun _ _ => true) fun i j => .bl (decide (j ≤ i))
theorem cEq {k : Nat} (hr : Room k X.A) : CmpR X .Eq gEq := ⟨_, op_eqD hr.units, ad_eq⟩
theorem cNe {k : Nat} (hr : Room k X.A) : CmpR X .NotEq gNe := ⟨_, op_neD hr.units, ad_ne⟩
theorem cLt : CmpR X .Lt gLt := ⟨_, op_lt, ad_I0 fun _ _ _ _ => .bl _⟩
theorem cLe : CmpR X .LtE gLe := ⟨_, op_le, ad_I0 fun _ _ _ _ => .bl _⟩
theorem cGt : CmpR X .Gt gGt := ⟨_, op_gt, ad_I0 fun _ _ _ _ => .bl _⟩
theorem cGe : CmpR X .GtE gGe := ⟨_, op_ge, ad_I0 fun _ _ _ _ => .bl _⟩
theorem D.non_iff {K : Fg} {H : Hp} {φ : List Addr} {d : D} {v : V} (r : Rep K H φ d v) : decide (v = .non) = (match d with | .non => true | _ => false) := by
  cases r <;> simp
def isNon : D → Bool | .non => true | _ => false
def gIs : G2 := fun x y m => match y with | .non => .ok (.bl (isNon x)) m | _ => .bad
def gIsNot : G2 := fun x y m => match y with | .non => .ok (.bl (!isNon x)) m | _ => .bad
theorem cIs : CmpR X .Is gIs := ⟨_, op_isN, by
  intro W σ H φ m d1 d2 v1 v2 Q hs r1 r2 q
  cases d2 <;> first | exact (show False from q).elim | skip
  cases r2
  refine ⟨rfl, ?_⟩
  rw [D.non_iff r1]
  exact Post.here (C := ct X) (W := W) (R := RD (ct X)) (σ := σ) (φ := φ) (d := .bl (isNon d1)) (m := m) q hs (by cases d1 <;> exact .bl _)⟩
theorem cIsNot : CmpR X .IsNot gIsNot := ⟨_, op_notN, by
  intro W σ H φ m d1 d2 v1 v2 Q hs r1 r2 q
  cases d2 <;> first | exact (show False from q).elim | skip
  cases r2
  refine ⟨rfl, ?_⟩
  rw [D.non_iff r1]
  exact Post.here (C := ct X) (W := W) (R := RD (ct X)) (σ := σ) (φ := φ) (d := .bl (!isNon d1)) (m := m) q hs (by cases d1 <;> exact .bl _)⟩
theorem ex_cmp {op : CmpOp} {g : G2} (r : CmpR X op g) (ha : EX X W a fa) (hb : EX X W b fb) (hm : behindInMarks op b = false := by first | exact nomark _ | rfl) : EX X W (.Compare a [op] [b] pos) (eBin g fa fb) := by
  obtain ⟨_, h1, h2⟩ := r.rule
  exact ex_cmpG h1 h2 ha hb hm
/-- a truth -/
def eTst (a : EFn) : TFn := fun ρ m => (a ρ m).bind fun x m1 => match x with | .bl k => .ok k m1 | _ => .bad
theorem Rep.bl_inv {K : Fg} {H : Hp} {φ : List Addr} {k : Bool} {v : V} (r : Rep K H φ (.bl k) v) : v = .bl k := by cases r; rfl
theorem tTest_of {C : Ct} {σ : L2.St} {H : Hp} {f : EFn} {Q : Bool → Hp → Prop} (h : tG C W RB (eTst f) σ H Q) : tTest (tG C W (RD C) f) σ H Q := by
  obtain ⟨ρ, φ, m, hρ, hs, q⟩ := h
  refine bindG hρ hs q fun d m1 v H1 φ1 e1 p1 hρ1 hs1 r1 q1 => ?_
  cases d <;> first | exact (show False from q1).elim | skip
  rename_i k
  cases r1
  exact ⟨k, rfl, Post.here (C := C) (W := W) (R := RB) (σ := σ) (φ := φ1) (d := k) (m := m1) q1 hs1 rfl⟩
theorem tx_cmp {op : CmpOp} {g : G2} (r : CmpR X op g) (ha : EX X W a fa) (hb : EX X W b fb) (hm : behindInMarks op b = false := by first | exact nomark _ | rfl) : TX X W (.Compare a [op] [b] pos) (eTst (eBin g fa fb)) := by
  obtain ⟨_, h1, h2⟩ := r.rule
  refine PT.imp (pt_cmpR h1 ha hb hm) fun σ H Q h => ?_
  have h' := tTest_of h
  show tOp _ _ _ σ H _
  exact tOp_of h2 h'
theorem tx_val {f : EFn} (h : EX X W e f) (he : ∀ whole, isTrue e X.env whole = (do let v ← whole; standAt e.pos; holding [v] (truthy v)) := by intro _; rfl) : TX X W e (eTst f) :=
  PT.imp (pt_val h he) fun _ _ _ h => tTest_of h
/-- a < b < c -/
def eChain (g g' : G2) (a b c : EFn) : EFn := fun ρ m => (a ρ m).bind fun x m1 => (b ρ m1).bind fun y m2 => (g x y m2).bind fun z m3 => match z with
  | .bl true => (c ρ m3).bind fun u m4 => g' y u m4
  | .bl false => .ok (.bl false) m3
  | _ => .bad
theorem tChain_of {C : Ct} {r r' : R2} {g g' : G2} (ad : Ad2 C r g) (ad' : Ad2 C r' g') {σ : L2.St} {H : Hp} {Q : VK} (h : tG C W (RD C) (eChain g g' fa fb fc) σ H Q) : tChain r r' (tG C W (RD C) fa) (tG C W (RD C) fb) (tG C W (RD C) fc) σ H Q := by
  obtain ⟨ρ, φ, m, hρ, hs, q⟩ := h
  refine bindG hρ hs q fun d m1 v H1 φ1 e1 p1 hρ1 hs1 r1 q1 => ?_
  refine bindG hρ1 hs1 q1 fun d2 m2 v2 H2 φ2 e2 p2 hρ2 hs2 r2 q2 => ?_
  refine ad W σ H2 φ2 m2 d d2 v v2 _ hs2 (r1.mono e2 p2) r2 ?_
  have key : ∀ (k : D → Mem → Out D), (∀ z m3 H3 φ3 vz, Ext C.K H2 H3 → φ2 <+: φ3 → Rep C.K H3 φ3 z vz → Sim C H3 φ3 m3 → Post C W (RD C) σ H3 φ3 (k z m3) Q → ∃ kk, vz = .bl kk ∧ (if kk = true then tG C W (RD C) fc σ H3 (fun w' H4 => r' v2 w' H4 Q) else Q (.bl false) H3)) →
      Post C W (RD C) σ H2 φ2 ((g d d2 m2).bind k) Q → Post C W (RD C) σ H2 φ2 (g d d2 m2) (fun z H3 => ∃ kk, z = .bl kk ∧ (if kk = true then tG C W (RD C) fc σ H3 (fun w' H4 => r' v2 w' H4 Q) else Q (.bl false) H3)) := by
    intro k hk hq
    cases hz : g d d2 m2 with
    | ok z m3 => rw [hz] at hq; exact fun vz H3 φ3 ex pr rz sz => hk z m3 H3 φ3 vz ex pr rz sz (Post.shift (R := RD C) hq ex pr)
    | exc x m3 => rw [hz] at hq; exact hq
    | bad => rw [hz] at hq; exact hq
  refine key _ (fun z m3 H3 φ3 vz ex pr rz sz hz => ?_) q2
  cases z <;> first | exact (show False from hz).elim | skip
  rename_i kk
  refine ⟨kk, rz.bl_inv, ?_⟩
  cases kk with
  | true =>
    rw [if_pos rfl]
    refine bindG (hρ2.mono ex pr) sz hz fun u m4 vu H4 φ4 e4 p4 hρ4 hs4 r4 q4 => ?_
    exact ad' W σ H4 φ4 m4 d2 u v2 vu Q hs4 (r2.mono (ex.trans e4) (pr.trans p4)) r4 q4
  | false =>
    rw [if_neg Bool.false_ne_true]
    exact Post.here (C := C) (W := W) (R := RD C) (σ := σ) (φ := φ3) (d := .bl false) (m := m3) hz sz (.bl _)
theorem ex_chain {op op' : CmpOp} {g g' : G2} (r : CmpR X op g) (r' : CmpR X op' g') (ha : EX X W a fa) (hb : EX X W b fb) (hc : EX X W c fc)
    (hm : lastMarks [op, op'] [b, c] = false := by with_unfolding_all rfl) : EX X W (.Compare a [op, op'] [b, c] pos) (eChain g g' fa fb fc) := by
  obtain ⟨_, h1, h2⟩ := r.rule
  obtain ⟨_, h3, h4⟩ := r'.rule
  exact PE.imp (pe_chain h1 h3 ha hb hc hm) fun _ _ _ h => tChain_of h2 h4 h
theorem tx_chain {op op' : CmpOp} {g g' : G2} (r : CmpR X op g) (r' : CmpR X op' g') (ha : EX X W a fa) (hb : EX X W b fb) (hc : EX X W c fc)
    (hm : lastMarks [op, op'] [b, c] = false := by with_unfolding_all rfl) : TX X W (.Compare a [op, op'] [b, c] pos) (eTst (eChain g g' fa fb fc)) := by
  obtain ⟨_, h1, h2⟩ := r.rule
  obtain ⟨_, h3, h4⟩ := r'.rule
  refine PT.imp (pt_chain h1 h3 ha hb hc hm) fun σ H Q h => ?_
  have h' := tTest_of h
  show tChain _ _ _ _ _ σ H _
  exact tChain_of h2 h4 h'

/-! ### truth -/
def truth (d : D) (m : Mem) : Out Bool := match d with
  | .non => .ok false m
  | .bl b => .ok b m
  | .int i => .ok (i != 0) m
  | .str x => .ok ((x.length : Int) != 0) m
  | .tup ds => .ok (!ds.isEmpty) m
  | .rot ds => .ok (!ds.isEmpty) m
  | .rol ds => .ok (!ds.isEmpty) m
  | .ref k => match m[k]? with
    | some (.lst ds) => .ok (!ds.isEmpty) m
    | some (.dK kvs) => .ok (!kvs.isEmpty) m
    | _ => .bad
  | .exo _ _ _ => .bad
def eTru (a : EFn) : TFn := fun ρ m => (a ρ m).bind truth
theorem Paired.emp {α β : Type} {F : α → β → Prop} {l : List α} {l' : List β} (h : Paired F l l') : l.isEmpty = l'.isEmpty := by cases h <;> rfl
theorem truth_of {C : Ct} {σ : L2.St} {H : Hp} {φ : List Addr} {m : Mem} {d : D} {v : V} {Q : Bool → Hp → Prop} (hs : Sim C H φ m) (r : Rep C.K H φ d v) (q : Post C W RB σ H φ (truth d m) Q) : ∃ k, TruV C.K v H k ∧ Q k H := by
  cases r with
  | non => exact ⟨false, rfl, Post.here (C := C) (W := W) (R := RB) (σ := σ) (φ := φ) q hs rfl⟩
  | exo _ => exact (show False from q).elim
  | bl b => exact ⟨b, rfl, Post.here (C := C) (W := W) (R := RB) (σ := σ) (φ := φ) q hs rfl⟩
  | int i => exact ⟨i != 0, rfl, Post.here (C := C) (W := W) (R := RB) (σ := σ) (φ := φ) q hs rfl⟩
  | @str x h1 h2 => exact ⟨_, ⟨h1, rfl⟩, Post.here (C := C) (W := W) (R := RB) (σ := σ) (φ := φ) q hs rfl⟩
  | @tup ds a vs h1 h2 h3 => exact ⟨_, .inr (.inl ⟨vs, SqT.of h2, rfl⟩), Post.here (C := C) (W := W) (R := RB) (σ := σ) (φ := φ) q hs (by show (!ds.isEmpty) = _; rw [Paired.emp h3])⟩
  | @rot ds a vs h1 h2 h3 => exact ⟨_, .inr (.inl ⟨vs, h2, rfl⟩), Post.here (C := C) (W := W) (R := RB) (σ := σ) (φ := φ) q hs (by show (!ds.isEmpty) = _; rw [Paired.emp h3])⟩
  | @rol ds a vs h1 h2 h3 => exact ⟨_, .inl ⟨vs, h2.sq, rfl⟩, Post.here (C := C) (W := W) (R := RB) (σ := σ) (φ := φ) q hs (by show (!ds.isEmpty) = _; rw [Paired.emp h3])⟩
  | @ref k a h =>
    have q' : Post C W RB σ H φ (match m[k]? with
      | some (.lst ds) => .ok (!ds.isEmpty) m
      | some (.dK kvs) => .ok (!kvs.isEmpty) m
      | _ => .bad) Q := q
    split at q'
    · rename_i ds e
      obtain ⟨vs, g1, g2, g3⟩ := hs.lst h e
      exact ⟨_, .inl ⟨vs, SqL.of g1, rfl⟩, q'.here hs (by show (!ds.isEmpty) = _; rw [Paired.emp g3])⟩
    · rename_i kvs e
      obtain ⟨vs, g1, g2, g3⟩ := hs.dk h e
      exact ⟨_, .inr (.inr ⟨vs, g1, rfl⟩), q'.here hs (by show (!kvs.isEmpty) = _; rw [Paired.emp g3])⟩
    · exact q'.elim
theorem tx_tru {f : EFn} (h : EX X W e f) (he : ∀ whole, isTrue e X.env whole = (do let v ← whole; standAt e.pos; holding [v] (truthy v)) := by intro _; rfl) : TX X W e (eTru f) :=
  PT.imp (pt_truth h he) fun σ H Q ⟨ρ, φ, m, hρ, hs, q⟩ => bindG hρ hs q fun d m1 v H1 φ1 e1 p1 hρ1 hs1 r1 q1 => truth_of hs1 r1 q1
/-! ### and, or, not -/
variable {ta tb : TFn} {rest : List Expr}
def tAndF (t u : TFn) : TFn := fun ρ m => (t ρ m).bind fun c m1 => if c = true then u ρ m1 else .ok false m1
def tOrF (t u : TFn) : TFn := fun ρ m => (t ρ m).bind fun c m1 => if c = true then .ok true m1 else u ρ m1
def tNotF (t : TFn) : TFn := fun ρ m => (t ρ m).bind fun c m1 => .ok (!c) m1
theorem PostB.here {C : Ct} {σ : L2.St} {H : Hp} {φ : List Addr} {m : Mem} {k : Bool} {Q : Bool → Hp → Prop} (h : Post C W RB σ H φ (.ok k m) Q) (s : Sim C H φ m) : Q k H := h.here s rfl
theorem wx_and1 (ha : TX X W a ta) : WXx X W (.BoolOp .And [a] pos) ta := pw_and1 ha
theorem wx_or1 (ha : TX X W a ta) : WXx X W (.BoolOp .Or [a] pos) ta := pw_or1 ha
theorem wx_and (ha : TX X W a ta) (hb : WXx X W (.BoolOp .And (b :: rest) pos) tb) : WXx X W (.BoolOp .And (a :: b :: rest) pos) (tAndF ta tb) :=
  PW.imp (pw_and ha hb) fun σ H Q ⟨ρ, φ, m, hρ, hs, q⟩ => bindG hρ hs q fun d m1 v H1 φ1 e1 p1 hρ1 hs1 r1 q1 => by
    have r1' : d = v := r1
    subst r1'
    cases d with
    | true => rw [if_pos rfl]; exact ⟨ρ, φ1, m1, hρ1, hs1, q1⟩
    | false => rw [if_neg Bool.false_ne_true]; exact PostB.here (C := ct X) (W := W) (σ := σ) (φ := φ1) (m := m1) q1 hs1
theorem wx_or (ha : TX X W a ta) (hb : WXx X W (.BoolOp .Or (b :: rest) pos) tb) : WXx X W (.BoolOp .Or (a :: b :: rest) pos) (tOrF ta tb) :=
  PW.imp (pw_or ha hb) fun σ H Q ⟨ρ, φ, m, hρ, hs, q⟩ => bindG hρ hs q fun d m1 v H1 φ1 e1 p1 hρ1 hs1 r1 q1 => by
    have r1' : d = v := r1
    subst r1'
    cases d with
    | false => rw [if_neg Bool.false_ne_true]; exact ⟨ρ, φ1, m1, hρ1, hs1, q1⟩
    | true => rw [if_pos rfl]; exact PostB.here (C := ct X) (W := W) (σ := σ) (φ := φ1) (m := m1) q1 hs1
theorem wx_t {f : TFn} (h : WXx X W e f) : TX X W e f := PW.pt h
theorem tx_not (ha : TX X W a ta) : TX X W (.UnaryOp .Not a pos) (tNotF ta) :=
  PT.imp (pt_not ha) fun σ H Q ⟨ρ, φ, m, hρ, hs, q⟩ => bindG hρ hs q fun d m1 v H1 φ1 e1 p1 hρ1 hs1 r1 q1 => by
    have r1' : d = v := r1
    subst r1'
    exact PostB.here (C := ct X) (W := W) (σ := σ) (φ := φ1) (m := m1) q1 hs1
/-- .. as values, of truths -/
def eAnd (f g : EFn) : EFn := fun ρ m => (f ρ m).bind fun x m1 => match x with | .bl true => g ρ m1 | .bl false => .ok (.bl false) m1 | _ => .bad
def eOr (f g : EFn) : EFn := fun ρ m => (f ρ m).bind fun x m1 => match x with | .bl false => g ρ m1 | .bl true => .ok (.bl true) m1 | _ => .bad
def eNot (f : EFn) : EFn := fun ρ m => (f ρ m).bind fun x m1 => match x with | .bl k => .ok (.bl (!k)) m1 | _ => .bad
theorem ex_one {op} {f : EFn} (h : EX X W a f) : EX X W (.BoolOp op [a] pos) f := pe_one h
theorem ex_and (ha : EX X W a fa) (hb : EX X W (.BoolOp .And (b :: rest) pos) fb) : EX X W (.BoolOp .And (a :: b :: rest) pos) (eAnd fa fb) :=
  PE.imp (pe_and ha hb) fun σ H Q ⟨ρ, φ, m, hρ, hs, q⟩ => bindG hρ hs q fun d m1 v H1 φ1 e1 p1 hρ1 hs1 r1 q1 => by
    cases d <;> first | exact (show False from q1).elim | skip
    rename_i k
    refine ⟨k, r1.bl_inv, ?_⟩
    cases k with
    | true => rw [if_pos rfl]; exact ⟨ρ, φ1, m1, hρ1, hs1, q1⟩
    | false => rw [if_neg Bool.false_ne_true]; exact Post.here (C := ct X) (W := W) (R := RD (ct X)) (σ := σ) (φ := φ1) (m := m1) (d := .bl false) q1 hs1 (.bl _)
theorem ex_or (ha : EX X W a fa) (hb : EX X W (.BoolOp .Or (b :: rest) pos) fb) : EX X W (.BoolOp .Or (a :: b :: rest) pos) (eOr fa fb) :=
  PE.imp (pe_or ha hb) fun σ H Q ⟨ρ, φ, m, hρ, hs, q⟩ => bindG hρ hs q fun d m1 v H1 φ1 e1 p1 hρ1 hs1 r1 q1 => by
    cases d <;> first | exact (show False from q1).elim | skip
    rename_i k
    refine ⟨k, r1.bl_inv, ?_⟩
    cases k with
    | false => rw [if_neg Bool.false_ne_true]; exact ⟨ρ, φ1, m1, hρ1, hs1, q1⟩
    | true => rw [if_pos rfl]; exact Post.here (C := ct X) (W := W) (R := RD (ct X)) (σ := σ) (φ := φ1) (m := m1) (d := .bl true) q1 hs1 (.bl _)
theorem ex_not (ha : EX X W a fa) : EX X W (.UnaryOp .Not a pos) (eNot fa) :=
  PE.imp (pe_not ha) fun σ H Q ⟨ρ, φ, m, hρ, hs, q⟩ => bindG hρ hs q fun d m1 v H1 φ1 e1 p1 hρ1 hs1 r1 q1 => by
    cases d <;> first | exact (show False from q1).elim | skip
    rename_i k
    exact ⟨k, r1.bl_inv, Post.here (C := ct X) (W := W) (R := RD (ct X)) (σ := σ) (φ := φ1) (m := m1) (d := .bl (!k)) q1 hs1 (.bl _)⟩
def eIf (t : TFn) (f g : EFn) : EFn := fun ρ m => (t ρ m).bind fun k m1 => if k = true then f ρ m1 else g ρ m1
theorem ex_if {t : TFn} (hc : TX X W c t) (ha : EX X W a fa) (hb : EX X W b fb) : EX X W (.IfExp c a b pos) (eIf t fa fb) :=
  PE.imp (pe_ifExp hc ha hb) fun σ H Q ⟨ρ, φ, m, hρ, hs, q⟩ => bindG hρ hs q fun d m1 v H1 φ1 e1 p1 hρ1 hs1 r1 q1 => by
    have r1' : d = v := r1
    subst r1'
    cases d with
    | true => rw [if_pos rfl]; exact ⟨ρ, φ1, m1, hρ1, hs1, q1⟩
    | false => rw [if_neg Bool.false_ne_true]; exact ⟨ρ, φ1, m1, hρ1, hs1, q1⟩
end
end DL
set_option Elab.async false
set_option linter.all false
set_option maxRecDepth 100000
set_option maxHeartbeats 4000000
/-! DLData: arguments, displays, places, slices, dicts, built-ins, methods, calls. -/
namespace DL
open PySem L2

section
variable {X : Cx} {W : WX} {e a b c : Expr} {es : List Expr} {fa fb fc : EFn} {pos : Pos}

/-! ### arguments and displays -/
def aNil : AFn := fun _ m => .ok [] m
def aCons (f : EFn) (g : AFn) : AFn := fun ρ m => (f ρ m).bind fun x m1 => (g ρ m1).bind fun xs m2 => .ok (x :: xs) m2
theorem ax_nil : AX X W [] aNil := PA.imp pa_nil fun σ H Q ⟨ρ, φ, m, hρ, hs, q⟩ => Post.here (C := ct X) (W := W) (R := RL (ct X)) (σ := σ) (φ := φ) (d := []) (m := m) q hs .nil
theorem ax_cons {f : EFn} {g : AFn} (ha : EX X W e f) (hr : AX X W es g) (hs : starEach (e :: es) X.env = (false, eval e X.env) :: starEach es X.env := by rfl) : AX X W (e :: es) (aCons f g) :=
  PA.imp (pa_cons ha hr hs) fun σ H Q ⟨ρ, φ, m, hρ, hs, q⟩ => bindG hρ hs q fun d m1 v H1 φ1 e1 p1 hρ1 hs1 r1 q1 => bindG hρ1 hs1 q1 fun ds m2 vs H2 φ2 e2 p2 hρ2 hs2 r2 q2 =>
    Post.here (C := ct X) (W := W) (R := RL (ct X)) (σ := σ) (φ := φ2) (d := d :: ds) (m := m2) q2 hs2 (.cons (r1.mono e2 p2) r2)
def mkTup (ds : List D) (m : Mem) : Out D := if ds.length ≤ 1000 then .ok (.tup ds) m else .bad
def mkLst (ds : List D) (m : Mem) : Out D := if ds.length ≤ 1000 then .ok (.ref m.length) (m ++ [.lst ds]) else .bad
def eArgs (g : List D → Mem → Out D) (a : AFn) : EFn := fun ρ m => (a ρ m).bind g
theorem le1000 {n : Nat} (h : n ≤ 1000) : n ≤ sizeLine := Nat.le_of_lt (small1000 h)
theorem ex_tup {f : AFn} {k : Nat} (h : AX X W es f) : EX X W (.Tuple es k pos) (eArgs mkTup f) :=
  PE.imp (pe_tup h) fun σ H Q ⟨ρ, φ, m, hρ, hs, q⟩ => bindG hρ hs q fun ds m1 vs H1 φ1 e1 p1 hρ1 hs1 r1 q1 => by
    have q' : Post (ct X) W (RD (ct X)) σ H1 φ1 (if ds.length ≤ 1000 then .ok (.tup ds) m1 else .bad) Q := q1
    split at q'
    · rename_i h
      have hl := le1000 h
      exact ⟨by rw [← Paired.len r1]; exact hl, q'.newTup hs1 hl r1⟩
    · exact q'.elim
theorem ex_lst {f : AFn} (h : AX X W es f) : EX X W (.List es pos) (eArgs mkLst f) :=
  PE.imp (pe_lst h) fun σ H Q ⟨ρ, φ, m, hρ, hs, q⟩ => bindG hρ hs q fun ds m1 vs H1 φ1 e1 p1 hρ1 hs1 r1 q1 => by
    have q' : Post (ct X) W (RD (ct X)) σ H1 φ1 (if ds.length ≤ 1000 then .ok (.ref m1.length) (m1 ++ [.lst ds]) else .bad) Q := q1
    split at q'
    · rename_i h
      have hl := le1000 h
      exact ⟨by rw [← Paired.len r1]; exact hl, q'.newLst hs1 hl r1⟩
    · exact q'.elim

/-! ### dicts: keys -/
def keyOf : D → Option Key
  | .int i => some (.inl i)
  | .str x => some (.inr x)
  | _ => none
def keysOf : List D → Option (List Key)
  | [] => some []
  | d :: ds => match keyOf d, keysOf ds with
    | some k, some ks => some (k :: ks)
    | _, _ => none
def kD : Key → D
  | .inl i => .int i
  | .inr x => .str x
theorem keyOf_rep {K : Fg} {H : Hp} {φ : List Addr} {d : D} {v : V} {k : Key} (r : Rep K H φ d v) (h : keyOf d = some k) : v = kV k ∧ KFit k ∧ d = kD k := by
  cases r <;> simp [keyOf] at h <;> subst h
  · exact ⟨rfl, trivial, rfl⟩
  · rename_i h1 h2; exact ⟨rfl, ⟨h1, h2⟩, rfl⟩
theorem keysOf_rep {K : Fg} {H : Hp} {φ : List Addr} : ∀ {ds : List D} {vs : List V} {ks : List Key}, Reps K H φ ds vs → keysOf ds = some ks → vs = ks.map kV ∧ (∀ k ∈ ks, KFit k) ∧ ds = ks.map kD
  | [], vs, ks, r, h => by
    cases r
    simp [keysOf] at h
    subst h
    exact ⟨rfl, (fun _ z => nomatch z), rfl⟩
  | d :: ds, vs, ks, r, h => by
    cases r with
    | cons r1 r2 =>
      unfold keysOf at h
      split at h
      · rename_i k ks' h1 h2
        cases h
        obtain ⟨g1, g2, g3⟩ := keyOf_rep r1 h1
        obtain ⟨g4, g5, g6⟩ := keysOf_rep r2 h2
        exact ⟨by rw [g1, g4]; rfl, fun z hz => by rcases List.mem_cons.mp hz with e | e; exact e ▸ g2; exact g5 z e, by rw [g3, g6]; rfl⟩
      · cases h
theorem kD_rep {K : Fg} {H : Hp} {φ : List Addr} {k : Key} (h : KFit k) : Rep K H φ (kD k) (kV k) := by
  cases k with
  | inl i => exact .int i
  | inr x => exact .str h.1 h.2
theorem kDs_rep {K : Fg} {H : Hp} {φ : List Addr} : ∀ {ks : List Key}, (∀ k ∈ ks, KFit k) → Reps K H φ (ks.map kD) (ks.map kV)
  | [], _ => .nil
  | k :: ks, h => .cons (kD_rep (h k List.mem_cons_self)) (kDs_rep fun z hz => h z (List.mem_cons_of_mem _ hz))

section
variable {κ : Type} [DecidableEq κ]
def getK (kvs : List (κ × D)) (k : κ) : Option D := (kvs.find? fun kv => decide (kv.1 = k)).map (·.2)
def putD (kvs : List (κ × D)) (k : κ) (v : D) : List (κ × D) :=
  if (kvs.any fun kv => decide (kv.1 = k)) = true then kvs.map (fun kv => if kv.1 = k then (kv.1, v) else kv) else kvs ++ [(k, v)]
theorem getK_rep {K : Fg} {H : Hp} {φ : List Addr} {k : κ} : ∀ {kvs : List (κ × D)} {kvs' : List (κ × V)}, RepK K H φ kvs kvs' → (getK kvs k = none ∧ valV kvs' k = none) ∨ ∃ d v, getK kvs k = some d ∧ valV kvs' k = some v ∧ Rep K H φ d v
  | [], _, .nil => .inl ⟨rfl, rfl⟩
  | p :: r, q :: r', .cons h t => by
    by_cases e : p.1 = k
    · have e' : q.1 = k := h.1 ▸ e
      exact .inr ⟨p.2, q.2, by simp [getK, List.find?_cons, e], by simp [valV, List.find?_cons, e'], h.2⟩
    · have e' : ¬ q.1 = k := h.1 ▸ e
      rcases getK_rep (k := k) t with ⟨h1, h2⟩ | ⟨d, v, h1, h2, h3⟩
      · exact .inl ⟨by rw [← h1]; simp [getK, List.find?_cons, e], by rw [← h2]; simp [valV, List.find?_cons, e']⟩
      · exact .inr ⟨d, v, by rw [← h1]; simp [getK, List.find?_cons, e], by rw [← h2]; simp [valV, List.find?_cons, e'], h3⟩
theorem any_rep {K : Fg} {H : Hp} {φ : List Addr} {k : κ} : ∀ {kvs : List (κ × D)} {kvs' : List (κ × V)}, RepK K H φ kvs kvs' → (kvs.any fun kv => decide (kv.1 = k)) = (kvs'.any fun kv => decide (kv.1 = k))
  | [], _, .nil => rfl
  | p :: r, q :: r', .cons h t => by rw [List.any_cons, List.any_cons, any_rep t, h.1]
theorem map_rep {K : Fg} {H : Hp} {φ : List Addr} {k : κ} {d : D} {v : V} (hr : Rep K H φ d v) : ∀ {kvs : List (κ × D)} {kvs' : List (κ × V)}, RepK K H φ kvs kvs' → RepK K H φ (kvs.map fun kv => if kv.1 = k then (kv.1, d) else kv) (kvs'.map fun kv => if kv.1 = k then (kv.1, v) else kv)
  | [], _, .nil => .nil
  | p :: r, q :: r', .cons h t => by
    rw [List.map_cons, List.map_cons]
    refine .cons ?_ (map_rep hr t)
    by_cases e : p.1 = k
    · rw [if_pos e, if_pos (h.1 ▸ e)]; exact ⟨h.1, hr⟩
    · rw [if_neg e, if_neg (h.1 ▸ e)]; exact h
theorem putD_rep {K : Fg} {H : Hp} {φ : List Addr} {k : κ} {d : D} {v : V} (hr : Rep K H φ d v) {kvs : List (κ × D)} {kvs' : List (κ × V)} (h : RepK K H φ kvs kvs') : RepK K H φ (putD kvs k d) (putK kvs' k v) := by
  unfold putD putK
  rw [any_rep h]
  split
  · exact map_rep hr h
  · exact Paired.app h (.cons ⟨rfl, hr⟩ .nil)
theorem putD_len (kvs : List (κ × D)) (k : κ) (d : D) : (putD kvs k d).length ≤ kvs.length + 1 := by
  unfold putD
  split <;> simp
theorem putD_mem {kvs : List (κ × D)} {k : κ} {d : D} {p : κ × D} (h : p ∈ putD kvs k d) : p.1 = k ∨ ∃ q ∈ kvs, q.1 = p.1 := by
  unfold putD at h
  split at h
  · obtain ⟨q, hq, e⟩ := List.mem_map.mp h
    refine .inr ⟨q, hq, ?_⟩
    rw [← e]
    split <;> rfl
  · rcases List.mem_append.mp h with h | h
    · exact .inr ⟨p, h, rfl⟩
    · have : p = (k, d) := by simpa using h
      exact .inl (by rw [this])
end

/-! ### a place -/
def ofO (o : Option D) (m : Mem) : Out D := match o with | some d => .ok d m | none => .bad
def sqIx (ds : List D) (y : D) (m : Mem) : Out D := match y with | .int i => ofO (atI ds i) m | _ => .bad
def stIx (z : Str) (y : D) (m : Mem) : Out D := match y with | .int i => ofO ((atI z.cps.toList i).map fun c => .str ⟨#[c]⟩) m | _ => .bad
def dkIx (kvs : List (Key × D)) (y : D) (m : Mem) : Out D := ofO ((keyOf y).bind fun k => getK kvs k) m
def tupKey (y : D) : Option (List Key) := match y with | .tup ds => keysOf ds | _ => none
def dtIx (kvs : List (List Key × D)) (y : D) (m : Mem) : Out D := ofO ((tupKey y).bind fun k => getK kvs k) m
def gIx : G2 := fun x y m => match x with
  | .tup ds => sqIx ds y m
  | .rot ds => sqIx ds y m
  | .rol ds => sqIx ds y m
  | .str z => stIx z y m
  | .ref k => match m[k]? with
    | some (.lst ds) => sqIx ds y m
    | some (.dK kvs) => dkIx kvs y m
    | some (.dT kvs) => dtIx kvs y m
    | _ => .bad
  | _ => .bad
theorem atI_rep {α β : Type} {F : α → β → Prop} {xs : List α} {ys : List β} {i : Int} {x : α} (h : Paired F xs ys) (e : atI xs i = some x) : ∃ y, atI ys i = some y ∧ F x y := by
  unfold atI at e ⊢
  rw [← Paired.len h]
  cases q : ixN xs.length i with
  | none => rw [q] at e; cases e
  | some j =>
    rw [q] at e
    exact Paired.get h e
abbrev rIxD : R2 := fun x y H Q => ∃ a v, x = V.ref a ∧ DGet H a y (some v) ∧ Q v H
theorem ix_dict (hu : X.A.units + 1 < cLine) : IxR X rIxD := by
  intro value slice pins s σ H x y v u Q I rx ry h hs
  obtain ⟨p, z, rfl, g, q⟩ := h
  obtain rfl : v = Value.ref p := rx
  exact PyProof.Rows.tail_any (dict_typeIs I g) PySem.F.slot_dict_getitem.lookup (d_getItem hu I g ry fun w' s3 I3 rw' => ⟨z, H, I3, rw', q⟩) (by exact hs)
abbrev rIxA (K : Fg) : R2 := fun x y H Q => rIx K x y H Q ∨ rIxD x y H Q
theorem strOk_get {x : Str} {i : Int} {c : Nat} (h : PySem.PyData.strOk x = true) (e : atI x.cps.toList i = some c) : PySem.PyData.strOk ⟨#[c]⟩ = true := by
  obtain ⟨j, _, h2, _⟩ := atI_get e
  unfold PySem.PyData.strOk at h ⊢
  rw [← Array.all_toList, List.all_eq_true] at h
  have := h c (List.mem_of_getElem? h2)
  simpa using this
theorem ofO_some {C : Ct} {W : WX} {σ : L2.St} {H : Hp} {φ : List Addr} {m : Mem} {o : Option D} {Q : VK} (q : Post C W (RD C) σ H φ (ofO o m) Q) : ∃ d, o = some d ∧ Post C W (RD C) σ H φ (.ok d m) Q := by
  cases o with
  | none => exact (show False from q).elim
  | some d => exact ⟨d, rfl, q⟩
theorem sqIx_inv {C : Ct} {W : WX} {σ : L2.St} {H : Hp} {φ : List Addr} {m : Mem} {ds : List D} {y : D} {vs : List V} {v2 : V} {Q : VK} (hs : Sim C H φ m) (r : Reps C.K H φ ds vs) (r2 : Rep C.K H φ y v2) (q : Post C W (RD C) σ H φ (sqIx ds y m) Q) :
    ∃ i v, v2 = .int i ∧ atI vs i = some v ∧ Q v H := by
  cases y <;> first | exact (show False from q).elim | skip
  rename_i i
  cases r2
  obtain ⟨d, he, q⟩ := ofO_some q
  obtain ⟨v, g1, g2⟩ := atI_rep r he
  exact ⟨i, v, rfl, g1, q.here hs g2⟩
theorem tupKey_inv {K : Fg} {H : Hp} {φ : List Addr} {y : D} {v : V} {k : List Key} (r : Rep K H φ y v) (h : tupKey y = some k) : ∃ b, v = .ref b ∧ H b = some (.tup (k.map kV)) ∧ (∀ z ∈ k, KFit z) ∧ y = .tup (k.map kD) := by
  cases r with
  | tup h1 h2 h3 =>
    obtain ⟨f1, f2, f3⟩ := keysOf_rep h3 h
    subst f1
    exact ⟨_, rfl, h2, f2, by rw [f3]⟩
  | non => cases h
  | exo _ => cases h
  | bl _ => cases h
  | int _ => cases h
  | str _ _ => cases h
  | rot _ _ _ => cases h
  | rol _ _ _ => cases h
  | ref _ => cases h
theorem DGet.dk {C : Ct} {H : Hp} {φ : List Addr} {a : Addr} {kvs : List (Key × D)} {kvs' : List (Key × V)} {y : D} {v2 : V} {k : Key} (h : H a = some (.dK kvs')) (r : RepK C.K H φ kvs kvs') (r2 : Rep C.K H φ y v2) (hk : keyOf y = some k) :
    (getK kvs k = none ∧ DGet H a v2 none) ∨ ∃ d v, getK kvs k = some d ∧ DGet H a v2 (some v) ∧ Rep C.K H φ d v := by
  obtain ⟨f1, f2, f3⟩ := keyOf_rep r2 hk
  subst f1
  have g := DGet.k (k := k) h
  rcases getK_rep (k := k) r with ⟨z1, z2⟩ | ⟨d', v', z1, z2, z3⟩
  · rw [z2] at g; exact .inl ⟨z1, g⟩
  · rw [z2] at g; exact .inr ⟨d', v', z1, g, z3⟩
theorem DGet.dt {C : Ct} {H : Hp} {φ : List Addr} {a : Addr} {kvs : List (List Key × D)} {kvs' : List (List Key × V)} {y : D} {v2 : V} {k : List Key} (h : H a = some (.dT kvs')) (r : RepK C.K H φ kvs kvs') (r2 : Rep C.K H φ y v2) (hk : tupKey y = some k) :
    (getK kvs k = none ∧ DGet H a v2 none) ∨ ∃ d v, getK kvs k = some d ∧ DGet H a v2 (some v) ∧ Rep C.K H φ d v := by
  obtain ⟨b, rfl, f2, _⟩ := tupKey_inv r2 hk
  have g := DGet.t (k := k) h f2
  rcases getK_rep (k := k) r with ⟨z1, z2⟩ | ⟨d', v', z1, z2, z3⟩
  · rw [z2] at g; exact .inl ⟨z1, g⟩
  · rw [z2] at g; exact .inr ⟨d', v', z1, g, z3⟩
theorem ad_ix : Ad2 (ct X) (rIxA X.K) gIx := by
  intro W σ H φ m d1 d2 v1 v2 Q hs r1 r2 q
  cases r1 with
  | non => exact (show False from q).elim
  | exo _ => exact (show False from q).elim
  | bl _ => exact (show False from q).elim
  | int _ => exact (show False from q).elim
  | tup h1 h2 h3 =>
    obtain ⟨i, v, e, g1, g2⟩ := sqIx_inv hs h3 r2 q
    exact .inl (.inr (.inl ⟨_, _, i, v, rfl, e, SqT.of h2, g1, g2⟩))
  | rot h1 h2 h3 =>
    obtain ⟨i, v, e, g1, g2⟩ := sqIx_inv hs h3 r2 q
    exact .inl (.inr (.inl ⟨_, _, i, v, rfl, e, h2, g1, g2⟩))
  | rol h1 h2 h3 =>
    obtain ⟨i, v, e, g1, g2⟩ := sqIx_inv hs h3 r2 q
    exact .inl (.inl ⟨_, _, i, v, rfl, e, h2.sq, g1, g2⟩)
  | @str z h1 h2 =>
    cases d2 <;> first | exact (show False from q).elim | skip
    rename_i i
    cases r2
    obtain ⟨d, he, q⟩ := ofO_some (show Post (ct X) W (RD (ct X)) σ H φ (ofO ((atI z.cps.toList i).map fun c => .str ⟨#[c]⟩) m) Q from q)
    cases hc : atI z.cps.toList i with
    | none => rw [hc] at he; cases he
    | some c =>
      rw [hc] at he
      cases he
      exact .inl (.inr (.inr ⟨z, i, c, rfl, rfl, h1, hc, q.here hs (.str (by show 1 ≤ sizeLine; rw [sizeLine_eq]; decide) (strOk_get h2 hc))⟩))
  | @ref k a hk =>
    have q' : Post (ct X) W (RD (ct X)) σ H φ (match m[k]? with
      | some (.lst ds) => sqIx ds d2 m
      | some (.dK kvs) => dkIx kvs d2 m
      | some (.dT kvs) => dtIx kvs d2 m
      | _ => .bad) Q := q
    split at q'
    · rename_i ds hm
      obtain ⟨vs, g1, g2, g3⟩ := hs.lst hk hm
      obtain ⟨i, v, e, f1, f2⟩ := sqIx_inv hs g3 r2 q'
      exact .inl (.inl ⟨_, _, i, v, rfl, e, SqL.of g1, f1, f2⟩)
    · rename_i kvs hm
      obtain ⟨vs, g1, g2, g3⟩ := hs.dk hk hm
      obtain ⟨d, he, q⟩ := ofO_some q'
      cases hk' : keyOf d2 with
      | none => rw [hk'] at he; cases he
      | some k' =>
        rw [hk'] at he
        have he' : getK kvs k' = some d := he
        rcases DGet.dk (C := ct X) g1 g3 r2 hk' with ⟨z1, _⟩ | ⟨d', v', z1, z2, z3⟩
        · rw [z1] at he'; cases he'
        · rw [z1] at he'; cases he'
          exact .inr ⟨_, v', rfl, z2, q.here hs z3⟩
    · rename_i kvs hm
      obtain ⟨vs, g1, g2, g3⟩ := hs.dt hk hm
      obtain ⟨d, he, q⟩ := ofO_some q'
      cases hk' : tupKey d2 with
      | none => rw [hk'] at he; cases he
      | some k' =>
        rw [hk'] at he
        have he' : getK kvs k' = some d := he
        rcases DGet.dt (C := ct X) g1 g3 r2 hk' with ⟨z1, _⟩ | ⟨d', v', z1, z2, z3⟩
        · rw [z1] at he'; cases he'
        · rw [z1] at he'; cases he'
          exact .inr ⟨_, v', rfl, z2, q.here hs z3⟩
    · exact q'.elim
theorem ex_ix {k : Nat} (hr : Room k X.A) (ha : EX X W a fa) (hb : EX X W b fb) (hs : PlainIx b := by exact fun _ _ => rfl) : EX X W (.Subscript a b pos) (eBin gIx fa fb) :=
  PE.imp (pe_ix (ix_seq.or (ix_dict (hu_of hr))) ha hb hs) fun _ _ _ h => tOp_of ad_ix h

/-! ### in -/
def negB (neg b : Bool) : Bool := if neg then !b else b
def D.sc : D → Bool
  | .non => true
  | .bl _ => true
  | .int _ => true
  | .str _ => true
  | _ => false
def sqIn (neg : Bool) (x : D) (ds : List D) (m : Mem) : Out D := if (x.flat && (D.tup ds).flat) = true then .ok (.bl (negB neg (ds.any fun z => z.eqv x))) m else .bad
def lsIn (neg : Bool) (x : D) (ds : List D) (m : Mem) : Out D := if (x.flat && (D.rol ds).flat) = true then .ok (.bl (negB neg (ds.any fun z => z.eqv x))) m else .bad
def stIn (neg : Bool) (x : D) (z : Str) (m : Mem) : Out D := match x with | .str t => .ok (.bl (negB neg (!(Builtin.Str.occurrences z t 0 z.length 1).isEmpty))) m | _ => .bad
def gIn (neg : Bool) : G2 := fun x y m => match y with
  | .str z => stIn neg x z m
  | .tup ds => sqIn neg x ds m
  | .rot ds => sqIn neg x ds m
  | .rol ds => lsIn neg x ds m
  | .ref k => match m[k]? with
    | some (.lst ds) => lsIn neg x ds m
    | some (.dK kvs) => match keyOf x with
      | some k => .ok (.bl (negB neg (getK kvs k).isSome)) m
      | none => .bad
    | some (.dT kvs) => match tupKey x with
      | some k => .ok (.bl (negB neg (getK kvs k).isSome)) m
      | none => .bad
    | _ => .bad
  | _ => .bad
theorem flat_sc {K : Fg} {H : Hp} {φ : List Addr} {d : D} {v : V} (r : Rep K H φ d v) (h : d.sc = true) : flatV v = true := by
  cases r <;> first | rfl | (simp [D.sc] at h)
theorem flat_scs {K : Fg} {H : Hp} {φ : List Addr} : ∀ {ds : List D} {vs : List V}, Reps K H φ ds vs → ds.all D.sc = true → vs.all flatV = true
  | [], _, .nil, _ => rfl
  | d :: ds, v :: vs, .cons r t, h => by
    have h' : d.sc = true ∧ ds.all D.sc = true := by simpa using h
    rw [List.all_cons, flat_sc r h'.1, flat_scs t h'.2]; rfl
theorem eqv_sc {K : Fg} {H : Hp} {φ : List Addr} {d e : D} {v w : V} (r : Rep K H φ d v) (s : Rep K H φ e w) (h : d.sc = true) (h' : e.sc = true) : eqV v w = d.eqv e := by
  unfold D.eqv
  cases r <;> cases s <;> first | (exfalso; simp [D.sc] at h; done) | (exfalso; simp [D.sc] at h'; done) | (simp [eqV, D.py, PyData.eqv]; done) | skip
theorem any_sc {K : Fg} {H : Hp} {φ : List Addr} {e : D} {w : V} (s : Rep K H φ e w) (h' : e.sc = true) : ∀ {ds : List D} {vs : List V}, Reps K H φ ds vs → ds.all D.sc = true → inV w vs = ds.any fun z => z.eqv e
  | [], _, .nil, _ => rfl
  | d :: ds, v :: vs, .cons r t, h => by
    have g : d.sc = true ∧ ds.all D.sc = true := by simpa using h
    show inV w (v :: vs) = _
    unfold inV
    rw [List.any_cons, List.any_cons, eqv_sc r s g.1 h']
    have ih := any_sc s h' t g.2
    unfold inV at ih
    rw [ih]
def rInT (K : Fg) (neg : Bool) : R2 := fun x y H Q => ∃ d ds, Dp K H x d ∧ Dp K H y (.tuple ds) ∧ SeqAt.shaped d = true ∧ SeqAt.shaped (.tuple ds) = true ∧ Q (.bl (negB neg (ds.any fun z => PyData.eqv z d))) H
abbrev rInA (K : Fg) (neg : Bool) : R2 := fun x y H Q => rInT K neg x y H Q ∨ (fun x y H Q => (if neg = true then rNotInD K x y H Q else rInD K x y H Q) ∨
  (fun x y H Q => (∃ a o, y = V.ref a ∧ DGet H a x o ∧ Q (.bl (negB neg o.isSome)) H) ∨ (∃ i j, x = V.str i ∧ y = V.str j ∧ Q (.bl (negB neg (!(Builtin.Str.occurrences j i 0 j.length 1).isEmpty))) H)) x y H Q) x y H Q
theorem op_dIn (hu : X.A.units + 1 < cLine) : OpR X (compareOp .In) (fun x y H Q => ∃ a o, y = V.ref a ∧ DGet H a x o ∧ Q (.bl (negB false o.isSome)) H) := by
  intro pins s σ H x y v u Q I rx ry h
  obtain ⟨a, o, rfl, g, q⟩ := h
  obtain rfl : u = Value.ref a := ry
  exact d_in hu I g rx fun s' I' => ⟨.bl _, H, I', rfl, q⟩
theorem op_dNotIn (hu : X.A.units + 1 < cLine) : OpR X (compareOp .NotIn) (fun x y H Q => ∃ a o, y = V.ref a ∧ DGet H a x o ∧ Q (.bl (negB true o.isSome)) H) := by
  intro pins s σ H x y v u Q I rx ry h
  obtain ⟨a, o, rfl, g, q⟩ := h
  obtain rfl : u = Value.ref a := ry
  exact d_notIn hu I g rx fun s' I' => ⟨.bl _, H, I', rfl, q⟩
theorem any_py (x : D) : ∀ ds : List D, ((D.pys ds).any fun z => PyData.eqv z x.py) = ds.any fun z => z.eqv x
  | [] => rfl
  | d :: ds => by
    show ((d.py :: D.pys ds).any _) = _
    rw [List.any_cons, List.any_cons, any_py x ds]; rfl
theorem op_inT (hu : X.A.units + 65 < cLine) : OpR X (compareOp .In) (rInT X.K false) := by
  intro pins s σ H x y v u Q I rx ry h
  obtain ⟨d, ds, hd, he, sd, se, q⟩ := h
  obtain ⟨as, r1⟩ := Dp.reads I d x v hd rx
  obtain ⟨bs, r2⟩ := Dp.reads I (.tuple ds) y u he ry
  exact SeqAt.in_tuple_reads r2 r1 (SeqAt.canLay_of_shaped se) (SeqAt.canLay_of_shaped sd) (PyProof.Rows.room_in_shaped sd hu) ⟨.bl _, H, I, rfl, q⟩
theorem op_notInT (hu : X.A.units + 65 < cLine) : OpR X (compareOp .NotIn) (rInT X.K true) := by
  intro pins s σ H x y v u Q I rx ry h
  obtain ⟨d, ds, hd, he, sd, se, q⟩ := h
  obtain ⟨as, r1⟩ := Dp.reads I d x v hd rx
  obtain ⟨bs, r2⟩ := Dp.reads I (.tuple ds) y u he ry
  exact SeqAt.notIn_tuple_reads r2 r1 (SeqAt.canLay_of_shaped se) (SeqAt.canLay_of_shaped sd) (PyProof.Rows.room_in_shaped sd hu) ⟨.bl _, H, I, rfl, q⟩
theorem ad_in (neg : Bool) : Ad2 (ct X) (rInA X.K neg) (gIn neg) := by
  intro W σ H φ m d1 d2 v1 v2 Q hs r1 r2 q
  have flat : ∀ {ds : List D} {vs : List V} {a : Addr}, Reps X.K H φ ds vs → SqT X.K H a vs → Post (ct X) W (RD (ct X)) σ H φ (sqIn neg d1 ds m) Q → rInT X.K neg v1 (.ref a) H Q := by
    intro ds vs a g3 hq q
    have q' : Post (ct X) W (RD (ct X)) σ H φ (if (d1.flat && (D.tup ds).flat) = true then .ok (.bl (negB neg (ds.any fun z => z.eqv d1))) m else .bad) Q := q
    split at q'
    · rename_i h
      obtain ⟨h1, h2⟩ := Bool.and_eq_true_iff.mp h
      obtain ⟨f1, f2⟩ := r1.shaped h1
      obtain ⟨h3, h4⟩ := Bool.and_eq_true_iff.mp h2
      obtain ⟨f3, f4⟩ := Reps.dp ds vs g3 (by simpa [D.plain] using h3)
      have f5 : SeqAt.shaped (.tuple (D.pys ds)) = true := by
        unfold SeqAt.shaped
        have : (D.tup ds).py = .tuple (D.pys ds) := by simp [D.py]
        rw [← this, h4, Bool.and_true]
        simpa [D.py, PyData.canLay0] using f4
      refine ⟨_, D.pys ds, f1, .tup hq f3, f2, f5, ?_⟩
      rw [any_py]
      exact q'.here hs (.bl _)
    · exact q'.elim
  have deep : ∀ {ds : List D} {vs : List V} {a : Addr}, ds.length ≤ sizeLine → Reps X.K H φ ds vs → SqL X.K H a vs → Post (ct X) W (RD (ct X)) σ H φ (lsIn neg d1 ds m) Q → (if neg = true then rNotInD X.K v1 (.ref a) H Q else rInD X.K v1 (.ref a) H Q) := by
    intro ds vs a hl g3 hq q
    have q' : Post (ct X) W (RD (ct X)) σ H φ (if (d1.flat && (D.rol ds).flat) = true then .ok (.bl (negB neg (ds.any fun z => z.eqv d1))) m else .bad) Q := q
    split at q'
    · rename_i h
      obtain ⟨h1, h2⟩ := Bool.and_eq_true_iff.mp h
      obtain ⟨f1, f2⟩ := r1.shaped h1
      obtain ⟨h3, h4⟩ := Bool.and_eq_true_iff.mp h2
      obtain ⟨f3, f4⟩ := Reps.dp ds vs g3 (by simpa [D.plain] using h3)
      have f5 : SeqAt.shaped (.list (D.pys ds)) = true := by
        unfold SeqAt.shaped
        have : (D.rol ds).py = .list (D.pys ds) := by simp [D.py]
        rw [← this, h4, Bool.and_true]
        simpa [D.py, PyData.canLay0] using f4
      cases neg with
      | true =>
        rw [if_pos rfl]
        refine ⟨_, D.pys ds, f1, .lst hq f3, f2, f5, ?_⟩
        rw [any_py]
        exact q'.here hs (.bl _)
      | false =>
        rw [if_neg Bool.false_ne_true]
        refine ⟨_, D.pys ds, f1, .lst hq f3, f2, f5, ?_⟩
        rw [any_py]
        exact q'.here hs (.bl _)
    · exact q'.elim
  cases r2 with
  | non => exact (show False from q).elim
  | exo _ => exact (show False from q).elim
  | bl _ => exact (show False from q).elim
  | int _ => exact (show False from q).elim
  | @str z h1 h2 =>
    cases d1 <;> first | exact (show False from q).elim | skip
    rename_i t
    cases r1
    exact .inr (.inr (.inr ⟨t, z, rfl, rfl, Post.here (C := ct X) (W := W) (R := RD (ct X)) (σ := σ) (φ := φ) (m := m) q hs (.bl _)⟩))
  | tup h1 h2 h3 => exact .inl (flat h3 (SqT.of h2) q)
  | rot h1 h2 h3 => exact .inl (flat h3 h2 q)
  | rol h1 h2 h3 => exact .inr (.inl (deep h1 h3 h2.sq q))
  | @ref k a hk =>
    have q' : Post (ct X) W (RD (ct X)) σ H φ (match m[k]? with
      | some (.lst ds) => lsIn neg d1 ds m
      | some (.dK kvs) => match keyOf d1 with
        | some k => .ok (.bl (negB neg (getK kvs k).isSome)) m
        | none => .bad
      | some (.dT kvs) => match tupKey d1 with
        | some k => .ok (.bl (negB neg (getK kvs k).isSome)) m
        | none => .bad
      | _ => .bad) Q := q
    split at q'
    · rename_i ds hm
      obtain ⟨vs, g1, g2, g3⟩ := hs.lst hk hm
      exact .inr (.inl (deep g2 g3 (SqL.of g1) q'))
    · rename_i kvs hm
      obtain ⟨vs, g1, g2, g3⟩ := hs.dk hk hm
      split at q'
      · rename_i k' hk'
        rcases DGet.dk (C := ct X) g1 g3 r1 hk' with ⟨z1, z2⟩ | ⟨d', v', z1, z2, z3⟩
        · rw [z1] at q'
          exact .inr (.inr (.inl ⟨_, _, rfl, z2, q'.here hs (.bl _)⟩))
        · rw [z1] at q'
          exact .inr (.inr (.inl ⟨_, _, rfl, z2, q'.here hs (.bl _)⟩))
      · exact q'.elim
    · rename_i kvs hm
      obtain ⟨vs, g1, g2, g3⟩ := hs.dt hk hm
      split at q'
      · rename_i k' hk'
        rcases DGet.dt (C := ct X) g1 g3 r1 hk' with ⟨z1, z2⟩ | ⟨d', v', z1, z2, z3⟩
        · rw [z1] at q'
          exact .inr (.inr (.inl ⟨_, _, rfl, z2, q'.here hs (.bl _)⟩))
        · rw [z1] at q'
          exact .inr (.inr (.inl ⟨_, _, rfl, z2, q'.here hs (.bl _)⟩))
      · exact q'.elim
    · exact q'.elim
theorem Room.u65 {k : Nat} (hr : Room k X.A) : X.A.units + 65 < cLine := by have := hr.un; omega
theorem cIn {k : Nat} (hr : Room k X.A) : CmpR X .In (gIn false) := ⟨rInA X.K false, (op_inT (Room.u65 hr)).or (OpR.or (r := fun x y H Q => if false = true then rNotInD X.K x y H Q else rInD X.K x y H Q) (op_inD (Room.u65 hr)) ((op_dIn (hu_of hr)).or op_in_str)), ad_in false⟩
theorem cNotIn {k : Nat} (hr : Room k X.A) : CmpR X .NotIn (gIn true) := ⟨rInA X.K true, (op_notInT (Room.u65 hr)).or (OpR.or (r := fun x y H Q => if true = true then rNotInD X.K x y H Q else rInD X.K x y H Q) (op_notInD (Room.u65 hr)) ((op_dNotIn (hu_of hr)).or op_notin_str)), ad_in true⟩
end
end DL
set_option Elab.async false
set_option linter.all false
set_option maxRecDepth 100000
set_option maxHeartbeats 4000000
/-! DLCall: slices, built-ins, methods of lists, calls of the program's own defs. -/
namespace DL
open PySem L2

section
variable {X : Cx} {W : WX} {e a b c : Expr} {es : List Expr} {fa fb fc : EFn} {pos p2 : Pos} {oe lo hi : Option Expr}

/-! ### slices -/
abbrev OFn := Rho → Mem → Out (Option Int)
abbrev RO : Hp → List Addr → Option Int → Option Int → Prop := fun _ _ a b => a = b
def OX (X : Cx) (W : WX) (oe : Option Expr) (f : OFn) : Prop := PO X oe (tG (ct X) W RO f)
theorem PO.imp {t t' : TO} (h : PO X oe t) (i : ∀ σ H Q, t' σ H Q → t σ H Q) : PO X oe t' := ⟨fun pins s σ H Q I q => h.run pins s σ H Q I (i σ H Q q)⟩
def oNone : OFn := fun _ m => .ok none m
def oSome (f : EFn) : OFn := fun ρ m => (f ρ m).bind fun x m1 => match x with | .int i => .ok (some i) m1 | _ => .bad
theorem ox_none : OX X W none oNone := PO.imp po_none fun σ H Q ⟨ρ, φ, m, hρ, hs, q⟩ => Post.here (C := ct X) (W := W) (R := RO) (σ := σ) (φ := φ) (d := none) (m := m) q hs rfl
theorem ox_some {f : EFn} (h : EX X W e f) : OX X W (some e) (oSome f) := PO.imp (po_some h) fun σ H Q ⟨ρ, φ, m, hρ, hs, q⟩ => bindG hρ hs q fun d m1 v H1 φ1 e1 p1 hρ1 hs1 r1 q1 => by
  cases d <;> first | exact (show False from q1).elim | skip
  rename_i i
  cases r1
  exact ⟨i, rfl, Post.here (C := ct X) (W := W) (R := RO) (σ := σ) (φ := φ1) (d := some i) (m := m1) q1 hs1 rfl⟩
def cut {α : Type} (xs : List α) (lo hi : Option Int) : List α := (xs.drop (HT.sIx xs.length 0 lo)).take (HT.sIx xs.length xs.length hi - HT.sIx xs.length 0 lo)
theorem cut_len {α : Type} (xs : List α) (lo hi : Option Int) : (cut xs lo hi).length ≤ xs.length := by
  unfold cut; rw [List.length_take, List.length_drop]; omega
theorem cut_rep {K : Fg} {H : Hp} {φ : List Addr} {ds : List D} {vs : List V} {lo hi : Option Int} (h : Reps K H φ ds vs) : Reps K H φ (cut ds lo hi) (cutV vs lo hi) := by
  unfold cut cutV; rw [← Paired.len h]; exact Paired.tk _ (Paired.dp _ h)
theorem cut_all {α : Type} {ds : List α} {lo hi : Option Int} (h : HT.sIx ds.length 0 lo = 0 ∧ HT.sIx ds.length ds.length hi = ds.length) : cut ds lo hi = ds := by
  unfold cut; rw [h.1, h.2]; simp
def gSl (x : D) (lo hi : Option Int) (m : Mem) : Out D := match x with
  | .tup ds => .ok (.tup (cut ds lo hi)) m
  | .rol ds => .ok (.ref m.length) (m ++ [.lst (cut ds lo hi)])
  | .str z => .ok (.str (cutS z lo hi)) m
  | .ref k => match m[k]? with
    | some (.lst ds) => .ok (.ref m.length) (m ++ [.lst (cut ds lo hi)])
    | _ => .bad
  | _ => .bad
def eSl (f : EFn) (l u : OFn) : EFn := fun ρ m => (f ρ m).bind fun x m1 => (l ρ m1).bind fun lo m2 => (u ρ m2).bind fun hi m3 => gSl x lo hi m3
theorem cutS_len (z : Str) (lo hi : Option Int) : (cutS z lo hi).length ≤ z.length := by
  show ((z.cps.toList.drop _).take _).toArray.size ≤ z.cps.size
  rw [List.size_toArray, List.length_take, List.length_drop, Array.length_toList]; omega
theorem cutS_ok {z : Str} {lo hi : Option Int} (h : PySem.PyData.strOk z = true) : PySem.PyData.strOk (cutS z lo hi) = true := by
  unfold PySem.PyData.strOk at h ⊢
  rw [← Array.all_toList, List.all_eq_true] at h ⊢
  intro c hc
  have hc' : c ∈ (z.cps.toList.drop (HT.sIx z.length 0 lo)).take (HT.sIx z.length z.length hi - HT.sIx z.length 0 lo) := by simpa [cutS] using hc
  exact h c (List.mem_of_mem_drop (List.mem_of_mem_take hc'))
theorem ex_sl {f : EFn} {l u : OFn} (ha : EX X W e f) (hl : OX X W lo l) (hu : OX X W hi u) : EX X W (.Subscript e (.Slice lo hi none p2) pos) (eSl f l u) :=
  PE.imp (pe_slice (sl_tupA.or (sl_list.or sl_str)) ha hl hu) fun σ H Q ⟨ρ, φ, m, hρ, hs, q⟩ => by
    refine bindG hρ hs q fun d m1 v H1 φ1 e1 p1 hρ1 hs1 r1 q1 => ?_
    refine bindG hρ1 hs1 q1 fun i m2 i' H2 φ2 e2 p2 hρ2 hs2 r2 q2 => ?_
    refine bindG hρ2 hs2 q2 fun j m3 j' H3 φ3 e3 p3 hρ3 hs3 r3 q3 => ?_
    have r2' : i = i' := r2
    have r3' : j = j' := r3
    subst r2' r3'
    have r := (r1.mono e2 p2).mono e3 p3
    cases r with
    | non => exact (show False from q3).elim
    | exo _ => exact (show False from q3).elim
    | bl _ => exact (show False from q3).elim
    | int _ => exact (show False from q3).elim
    | @str z h1 h2 => exact .inr (.inr ⟨z, rfl, h1, Post.here (C := ct X) (W := W) (R := RD (ct X)) (σ := σ) (φ := φ3) (m := m3) q3 hs3 (.str (Nat.le_trans (cutS_len z i j) h1) (cutS_ok h2))⟩)
    | @tup ds a vs h1 h2 h3 =>
      have q3' : Post (ct X) W (RD (ct X)) σ H3 φ3 (.ok (.tup (cut ds i j)) m3) Q := q3
      refine .inl ⟨a, vs, rfl, SqT.of h2, fun z => ?_, fun _ => q3'.newTup hs3 (Nat.le_trans (cut_len ds i j) h1) (cut_rep h3)⟩
      rw [← Paired.len h3] at z
      rw [cut_all z] at q3'
      exact q3'.here hs3 (.tup h1 h2 h3)
    | rot _ _ _ => exact (show False from q3).elim
    | @rol ds a vs h1 h2 h3 =>
      exact .inr (.inl ⟨a, vs, rfl, h2.sq, Post.newLst (C := ct X) (W := W) (σ := σ) (φ := φ3) (m := m3) q3 hs3 (Nat.le_trans (cut_len ds i j) h1) (cut_rep h3)⟩)
    | @ref k a hk =>
      have q3' : Post (ct X) W (RD (ct X)) σ H3 φ3 (match m3[k]? with
        | some (.lst ds) => .ok (.ref m3.length) (m3 ++ [.lst (cut ds i j)])
        | _ => .bad) Q := q3
      split at q3'
      · rename_i ds hm
        obtain ⟨vs, g1, g2, g3⟩ := hs3.lst hk hm
        exact .inr (.inl ⟨a, vs, rfl, SqL.of g1, q3'.newLst hs3 (Nat.le_trans (cut_len ds i j) g2) (cut_rep g3)⟩)
      · exact q3'.elim

/-! ### built-ins by values -/
abbrev GN := List D → Mem → Out D
def AdC (C : Ct) (r : List V → Hp → VK → Prop) (g : GN) : Prop := ∀ (W : WX) (σ : L2.St) (H : Hp) (φ : List Addr) (m : Mem) (ds : List D) (vs : List V) (Q : VK), Sim C H φ m → Reps C.K H φ ds vs → Post C W (RD C) σ H φ (g ds m) Q → r vs H Q
theorem tCB_of {C : Ct} {r : List V → Hp → VK → Prop} {g : GN} (ad : AdC C r g) {f : AFn} {σ : L2.St} {H : Hp} {Q : VK} (h : tG C W (RD C) (eArgs g f) σ H Q) : tCB r (tG C W (RL C) f) σ H Q := by
  obtain ⟨ρ, φ, m, hρ, hs, q⟩ := h
  exact bindG hρ hs q fun ds m1 vs H1 φ1 e1 p1 hρ1 hs1 r1 q1 => ad W σ H1 φ1 m1 ds vs Q hs1 r1 q1
/-- a built-in by its name, as the module leaves it -/
structure Bn (X : Cx) (x : Str) (u : Value) (g : GN) : Prop where
  rule : ∃ r, CallR X u r ∧ AdC (ct X) r g
theorem ex_bn {x : Str} {id : String} {g : GN} {f : AFn} {p : Pos} (B : Bn X x (.builtin id) g) (hg : Gl X x) (hm : X.mg x = none) (hv : bootBuiltins x = some (.builtin id)) (ha : AX X W (e :: es) f) (hn : x ≠ "__name__" := by decide) (hdb : (x == ("__debug__" : Str)) = false := by decide)
    (he : starEach (e :: es) X.env = (false, eval e X.env) :: starEach es X.env := by rfl) (hpl : (backTo pos (starEach es X.env)).any (·.1) = false := by rfl) : EX X W (.Call (.Name x p) (e :: es) [] pos) (eArgs g f) := by
  obtain ⟨r, h1, h2⟩ := B.rule
  exact PE.imp (pe_callB h1 hg hm hv ha hn hdb he hpl) fun _ _ _ h => tCB_of h2 h
theorem ex_ty {x : Str} {T : String} {g : GN} {f : AFn} {p : Pos} (B : Bn X x (.type T) g) (hg : Gl X x) (hm : X.mg x = none) (hv : bootBuiltins x = some (.type T)) (ha : AX X W (e :: es) f) (hn : x ≠ "__name__" := by decide) (hdb : (x == ("__debug__" : Str)) = false := by decide)
    (he : starEach (e :: es) X.env = (false, eval e X.env) :: starEach es X.env := by rfl) (hpl : (backTo pos (starEach es X.env)).any (·.1) = false := by rfl) : EX X W (.Call (.Name x p) (e :: es) [] pos) (eArgs g f) := by
  obtain ⟨r, h1, h2⟩ := B.rule
  exact PE.imp (pe_callTy h1 hg hm hv ha hn hdb he hpl) fun _ _ _ h => tCB_of h2 h
/-- len -/
def gLen1 (d : D) (m : Mem) : Out D := match d with
  | .str x => .ok (.int x.length) m
  | .tup ds => .ok (.int ds.length) m
  | .rot ds => .ok (.int ds.length) m
  | .rol ds => .ok (.int ds.length) m
  | .ref k => match m[k]? with
    | some (.lst ds) => .ok (.int ds.length) m
    | some (.dK kvs) => .ok (.int kvs.length) m
    | _ => .bad
  | _ => .bad
def on1 (g : D → Mem → Out D) : GN := fun ds m => match ds with | [d] => g d m | _ => .bad
abbrev rLenA (K : Fg) : List V → Hp → VK → Prop := fun xs H Q => (∃ x n, xs = [x] ∧ LenV K x H n ∧ Q (.int n) H) ∨ (∃ a kvs, xs = [V.ref a] ∧ H a = some (.dK kvs) ∧ Q (.int kvs.length) H)
theorem bLen : Bn X "len" (.builtin "len") (on1 gLen1) := ⟨rLenA X.K, call_len.or call_lenD, by
  intro W σ H φ m ds vs Q hs r q
  match ds, vs, r, q with
  | [d], [v], .cons r .nil, q =>
    have q' : Post (ct X) W (RD (ct X)) σ H φ (gLen1 d m) Q := q
    cases r with
    | non => exact (show False from q').elim
    | exo _ => exact (show False from q').elim
    | bl _ => exact (show False from q').elim
    | int _ => exact (show False from q').elim
    | @str x h1 h2 => exact .inl ⟨_, _, rfl, ⟨h1, rfl⟩, Post.here (C := ct X) (W := W) (R := RD (ct X)) (σ := σ) (φ := φ) (m := m) q' hs (.int _)⟩
    | @tup ds a vs h1 h2 h3 => exact .inl ⟨_, _, rfl, .inr ⟨vs, SqT.of h2, rfl⟩, by rw [← Paired.len h3]; exact Post.here (C := ct X) (W := W) (R := RD (ct X)) (σ := σ) (φ := φ) (m := m) q' hs (.int _)⟩
    | @rot ds a vs h1 h2 h3 => exact .inl ⟨_, _, rfl, .inr ⟨vs, h2, rfl⟩, by rw [← Paired.len h3]; exact Post.here (C := ct X) (W := W) (R := RD (ct X)) (σ := σ) (φ := φ) (m := m) q' hs (.int _)⟩
    | @rol ds a vs h1 h2 h3 => exact .inl ⟨_, _, rfl, .inl ⟨vs, h2.sq, rfl⟩, by rw [← Paired.len h3]; exact Post.here (C := ct X) (W := W) (R := RD (ct X)) (σ := σ) (φ := φ) (m := m) q' hs (.int _)⟩
    | @ref k a hk =>
      have q'' : Post (ct X) W (RD (ct X)) σ H φ (match m[k]? with
        | some (.lst ds) => .ok (.int ds.length) m
        | some (.dK kvs) => .ok (.int kvs.length) m
        | _ => .bad) Q := q'
      split at q''
      · rename_i ds hm
        obtain ⟨vs, g1, g2, g3⟩ := hs.lst hk hm
        exact .inl ⟨_, _, rfl, .inl ⟨vs, SqL.of g1, rfl⟩, by rw [← Paired.len g3]; exact q''.here hs (.int _)⟩
      · rename_i kvs hm
        obtain ⟨vs, g1, g2, g3⟩ := hs.dk hk hm
        exact .inr ⟨_, vs, rfl, g1, by rw [← Paired.len g3]; exact q''.here hs (.int _)⟩
      · exact q''.elim
  | [], _, _, q => exact (show False from q).elim
  | _ :: _ :: _, _, _, q => exact (show False from q).elim⟩
def gAbs (d : D) (m : Mem) : Out D := match d with | .int i => .ok (.int (if i < 0 then -i else i)) m | _ => .bad
theorem one_of {C : Ct} {W : WX} {σ : L2.St} {H : Hp} {φ : List Addr} {m : Mem} {ds : List D} {vs : List V} {Q : VK} {g : D → Mem → Out D} (r : Reps C.K H φ ds vs) (q : Post C W (RD C) σ H φ (on1 g ds m) Q) : ∃ d v, ds = [d] ∧ vs = [v] ∧ Rep C.K H φ d v ∧ Post C W (RD C) σ H φ (g d m) Q := by
  match ds, vs, r, q with
  | [d], [v], .cons r .nil, q => exact ⟨d, v, rfl, rfl, r, q⟩
  | [], _, _, q => exact (show False from q).elim
  | _ :: _ :: _, _, _, q => exact (show False from q).elim
theorem bAbs : Bn X "abs" (.builtin "abs") (on1 gAbs) := ⟨_, call_abs, by
  intro W σ H φ m ds vs Q hs r q
  obtain ⟨d, v, rfl, rfl, r, q⟩ := one_of r q
  cases d <;> first | exact (show False from q).elim | skip
  cases r
  exact ⟨_, rfl, Post.here (C := ct X) (W := W) (R := RD (ct X)) (σ := σ) (φ := φ) (m := m) q hs (.int _)⟩⟩
/-- int(..) of an int, a truth, a written number -/
def gInt (d : D) (m : Mem) : Out D := match d with
  | .int i => .ok (.int i) m
  | .bl k => .ok (.int (if k then 1 else 0)) m
  | .str x => if x.length ≤ 640 then match PySem.intText? x with | some n => .ok (.int n) m | none => .bad else .bad
  | _ => .bad
theorem bInt : Bn X "int" (.type "int") (on1 gInt) := ⟨fun xs H Q => ((∃ i, xs = [.int i] ∧ Q (.int i) H) ∨ ∃ k, xs = [.bl k] ∧ Q (.int (if k then 1 else 0)) H) ∨ (∃ a n, xs = [.str a] ∧ PySem.intText? a = some n ∧ a.length ≤ 640 ∧ Q (.int n) H), call_int1.or call_int_str, by
  intro W σ H φ m ds vs Q hs r q
  obtain ⟨d, v, rfl, rfl, r, q⟩ := one_of r q
  cases r with
  | int i => exact .inl (.inl ⟨_, rfl, Post.here (C := ct X) (W := W) (R := RD (ct X)) (σ := σ) (φ := φ) (m := m) q hs (.int _)⟩)
  | bl k => exact .inl (.inr ⟨_, rfl, Post.here (C := ct X) (W := W) (R := RD (ct X)) (σ := σ) (φ := φ) (m := m) q hs (.int _)⟩)
  | @str x h1 h2 =>
    have q' : Post (ct X) W (RD (ct X)) σ H φ (if x.length ≤ 640 then match PySem.intText? x with | some n => .ok (.int n) m | none => .bad else .bad) Q := q
    split at q'
    · rename_i h
      split at q'
      · rename_i n hn
        exact .inr ⟨x, n, rfl, hn, h, q'.here hs (.int _)⟩
      · exact q'.elim
    · exact q'.elim
  | non => exact (show False from q).elim
  | exo _ => exact (show False from q).elim
  | tup _ _ _ => exact (show False from q).elim
  | rot _ _ _ => exact (show False from q).elim
  | rol _ _ _ => exact (show False from q).elim
  | ref _ => exact (show False from q).elim⟩
/-- tuple(..) of a tuple, a list -/
def gTuple (d : D) (m : Mem) : Out D := match d with
  | .tup ds => .ok (.tup ds) m
  | .rot ds => .ok (.rot ds) m
  | .rol ds => .ok (.tup ds) m
  | .ref k => match m[k]? with
    | some (.lst ds) => .ok (.tup ds) m
    | _ => .bad
  | _ => .bad
theorem bTuple : Bn X "tuple" (.type "tuple") (on1 gTuple) := ⟨_, call_tuple_of, by
  intro W σ H φ m ds vs Q hs r q
  obtain ⟨d, v, rfl, rfl, r, q⟩ := one_of r q
  cases r with
  | non => exact (show False from q).elim
  | exo _ => exact (show False from q).elim
  | bl _ => exact (show False from q).elim
  | int _ => exact (show False from q).elim
  | str _ _ => exact (show False from q).elim
  | @tup ds a vs h1 h2 h3 => exact ⟨_, vs, rfl, .inr ⟨SqT.of h2, Post.here (C := ct X) (W := W) (R := RD (ct X)) (σ := σ) (φ := φ) (m := m) q hs (.tup h1 h2 h3)⟩⟩
  | @rot ds a vs h1 h2 h3 => exact ⟨_, vs, rfl, .inr ⟨h2, Post.here (C := ct X) (W := W) (R := RD (ct X)) (σ := σ) (φ := φ) (m := m) q hs (.rot h1 h2 h3)⟩⟩
  | @rol ds a vs h1 h2 h3 => exact ⟨_, vs, rfl, .inl ⟨h2.sq, Post.newTup (C := ct X) (W := W) (σ := σ) (φ := φ) (m := m) q hs h1 h3⟩⟩
  | @ref k a hk =>
    have q' : Post (ct X) W (RD (ct X)) σ H φ (match m[k]? with
      | some (.lst ds) => .ok (.tup ds) m
      | _ => .bad) Q := q
    split at q'
    · rename_i ds hm
      obtain ⟨vs, g1, g2, g3⟩ := hs.lst hk hm
      exact ⟨_, vs, rfl, .inl ⟨SqL.of g1, q'.newTup hs g2 g3⟩⟩
    · exact q'.elim⟩
/-- list(..) of a tuple, a list -/
def gList (d : D) (m : Mem) : Out D := match d with
  | .tup ds => .ok (.ref m.length) (m ++ [.lst ds])
  | .rot ds => .ok (.ref m.length) (m ++ [.lst ds])
  | .rol ds => .ok (.ref m.length) (m ++ [.lst ds])
  | .ref k => match m[k]? with
    | some (.lst ds) => .ok (.ref m.length) (m ++ [.lst ds])
    | _ => .bad
  | _ => .bad
theorem bList : Bn X "list" (.type "list") (on1 gList) := ⟨_, call_list_of, by
  intro W σ H φ m ds vs Q hs r q
  obtain ⟨d, v, rfl, rfl, r, q⟩ := one_of r q
  cases r with
  | non => exact (show False from q).elim
  | exo _ => exact (show False from q).elim
  | bl _ => exact (show False from q).elim
  | int _ => exact (show False from q).elim
  | str _ _ => exact (show False from q).elim
  | @tup ds a vs h1 h2 h3 => exact ⟨_, vs, rfl, .inr (SqT.of h2), Post.newLst (C := ct X) (W := W) (σ := σ) (φ := φ) (m := m) q hs h1 h3⟩
  | @rot ds a vs h1 h2 h3 => exact ⟨_, vs, rfl, .inr h2, Post.newLst (C := ct X) (W := W) (σ := σ) (φ := φ) (m := m) q hs h1 h3⟩
  | @rol ds a vs h1 h2 h3 => exact ⟨_, vs, rfl, .inl h2.sq, Post.newLst (C := ct X) (W := W) (σ := σ) (φ := φ) (m := m) q hs h1 h3⟩
  | @ref k a hk =>
    have q' : Post (ct X) W (RD (ct X)) σ H φ (match m[k]? with
      | some (.lst ds) => .ok (.ref m.length) (m ++ [.lst ds])
      | _ => .bad) Q := q
    split at q'
    · rename_i ds hm
      obtain ⟨vs, g1, g2, g3⟩ := hs.lst hk hm
      exact ⟨_, vs, rfl, .inl (SqL.of g1), q'.newLst hs g2 g3⟩
    · exact q'.elim⟩

/-! ### isinstance -/
inductive Kd where | non | bl | int | str | tup | lst | dict
def Kd.name : Kd → String | .non => "NoneType" | .bl => "bool" | .int => "int" | .str => "str" | .tup => "tuple" | .lst => "list" | .dict => "dict"
def Kd.is : Kd → Kd → Bool
  | .non, .non => true | .bl, .bl => true | .bl, .int => true | .int, .int => true | .str, .str => true | .tup, .tup => true | .lst, .lst => true | .dict, .dict => true
  | _, _ => false
theorem kd_all : ∀ a b : Kd, kitB a.name b.name = some (a.is b) := by
  intro a b
  cases a <;> cases b <;> decide +kernel
def kdOf (d : D) (m : Mem) : Option Kd := match d with
  | .non => some .non | .bl _ => some .bl | .int _ => some .int | .str _ => some .str | .tup _ => some .tup | .rot _ => some .tup | .rol _ => some .lst
  | .ref k => match m[k]? with
    | some (.lst _) => some .lst
    | some (.dK _) => some .dict
    | some (.dT _) => some .dict
    | _ => none
  | .exo _ _ _ => none
theorem kdOf_rep {C : Ct} {H : Hp} {φ : List Addr} {m : Mem} {d : D} {v : V} {k : Kd} (hs : Sim C H φ m) (r : Rep C.K H φ d v) (h : kdOf d m = some k) : TyX C.K H v (.type k.name) := by
  cases r with
  | non => cases h; exact .base .non
  | exo _ => cases h
  | bl b => cases h; exact .base (.bl b)
  | int i => cases h; exact .base (.int i)
  | str _ _ => cases h; exact .base (.str _)
  | tup h1 h2 h3 => cases h; exact .base (.tup h2)
  | rot h1 h2 h3 =>
    cases h
    rcases h2 with (h2 | ⟨o, h2⟩) | ⟨o, its, n, h2, h4, _⟩
    · exact .base (.tup h2)
    · exact .fTuple h2
    · exact .kTuple h2 h4
  | rol h1 h2 h3 =>
    cases h
    rcases h2 with ⟨o, h2⟩ | ⟨o, its, n, h2, h4, _⟩
    · exact .base (.frz h2)
    · exact .kList h2 h4
  | ref hk =>
    unfold kdOf at h
    split at h <;> first | (cases h; done) | skip
    all_goals (try (simp at *; done))
    rename_i k' heq
    cases heq
    split at h
    · rename_i ds hm
      cases h
      obtain ⟨vs, g1, _⟩ := hs.lst hk hm
      exact .base (.lst g1)
    · rename_i kvs hm
      cases h
      obtain ⟨vs, g1, _⟩ := hs.dk hk hm
      exact .base (.dK g1)
    · rename_i kvs hm
      cases h
      obtain ⟨vs, g1, _⟩ := hs.dt hk hm
      exact .base (.dT g1)
    · cases h
def gIsi (k : Kd) : G1 := fun d m => match kdOf d m with | some k' => .ok (.bl (k'.is k)) m | none => .bad
theorem ex_isi {k : Kd} {T : Expr} {p : Pos} (hg : Gl X "isinstance") (hm : X.mg "isinstance" = none) (ha : EX X W e fa) (hT : PE X T (tC (.ty k.name)))
    (he : starEach (e :: [T]) X.env = (false, eval e X.env) :: starEach [T] X.env := by rfl) (he2 : starEach [T] X.env = (false, eval T X.env) :: starEach [] X.env := by rfl) (hpl : (backTo pos (starEach [T] X.env)).any (·.1) = false := by rfl) :
    EX X W (.Call (.Name "isinstance" p) [e, T] [] pos) (eUn (gIsi k) fa) :=
  PE.imp (pe_callB call_isi hg hm (by decide +kernel) (pa_cons ha (pa_cons hT pa_nil he2) he) (by decide) (by decide) he hpl) fun σ H Q ⟨ρ, φ, m, hρ, hs, q⟩ => bindG hρ hs q fun d m1 v H1 φ1 e1 p1 hρ1 hs1 r1 q1 => by
    have q' : Post (ct X) W (RD (ct X)) σ H1 φ1 (match kdOf d m1 with | some k' => .ok (.bl (k'.is k)) m1 | none => .bad) Q := q1
    split at q'
    · rename_i k' hk
      exact ⟨v, .ty k.name, .type k'.name, .type k.name, _, rfl, .ty _, kdOf_rep hs1 r1 hk, kit_ty (kd_all k' k), q'.here hs1 (.bl _)⟩
    · exact q'.elim
end
end DL
set_option Elab.async false
set_option linter.all false
set_option maxRecDepth 100000
set_option maxHeartbeats 4000000
/-! DLLoop: what a loop or a comprehension walks; targets; statements. -/
namespace DL
open PySem L2

/-! ### what is walked: its items, and the list's cell that must stay (if it is one) -/
structure Wk where
  ds : List D
  at_ : Option (Nat × List D)
def Wk.ok (w : Wk) (m : Mem) : Prop := match w.at_ with
  | none => True
  | some p => m[p.1]? = some (.lst p.2)
/-- J walks the items w.ds while w's cell stays -/
structure JOk (C : Ct) (w : Wk) (H0 : Hp) (φ0 : List Addr) (J : It) : Prop where
  go : ∀ i H φ m, Ext C.K H0 H → φ0 <+: φ → Sim C H φ m → w.ok m → i < w.ds.length → J.go i H
  yld : ∀ i H φ m v H', Ext C.K H0 H → φ0 <+: φ → Sim C H φ m → w.ok m → i < w.ds.length → J.yld i H v H' → Ext C.K H H' ∧ (∀ a ∈ φ, H' a = H a) ∧ ∃ d, w.ds[i]? = some d ∧ Rep C.K H' φ d v
  stop : ∀ H φ m, Ext C.K H0 H → φ0 <+: φ → Sim C H φ m → w.ok m → J.stop w.ds.length H
abbrev IFn := Rho → Mem → Out Wk
def PostI (C : Ct) (W : WX) (σ : L2.St) (H0 : Hp) (φ0 : List Addr) (o : Out Wk) (R : It → Hp → Prop) : Prop := match o with
  | .ok w m => ∀ J H φ, Ext C.K H0 H → φ0 <+: φ → Sim C H φ m → JOk C w H φ J → R J H
  | .exc x m => ∀ cls dx H φ, Ext C.K H0 H → φ0 <+: φ → RepX C H φ x cls dx → Sim C H φ m → W cls dx σ H
  | .bad => False
def tI (C : Ct) (W : WX) (f : IFn) : TI := fun σ H R => ∃ ρ φ m, RepE C.K H φ ρ σ ∧ Sim C H φ m ∧ PostI C W σ H φ (f ρ m) R
def IX (X : Cx) (W : WX) (tg iter : Expr) (f : IFn) : Prop := PI X tg iter (tI (ct X) W f)
theorem PI.imp {X : Cx} {tg e : Expr} {t t' : TI} (h : PI X tg e t) (i : ∀ σ H Q, t' σ H Q → t σ H Q) : PI X tg e t' := ⟨fun pins s σ H Q I q => h.run pins s σ H Q I (i σ H Q q)⟩
section
variable {C : Ct} {W : WX} {α β : Type} {R : Hp → List Addr → α → β → Prop} {σ : L2.St} {H H1 : Hp} {φ φ1 : List Addr} {ρ : Rho} {m : Mem}
theorem PostI.shift {o : Out Wk} {Q : It → Hp → Prop} (h : PostI C W σ H φ o Q) (e : Ext C.K H H1) (p : φ <+: φ1) : PostI C W σ H1 φ1 o Q := by
  cases o with
  | ok d m => exact fun v H2 φ2 e2 p2 s r => h v H2 φ2 (e.trans e2) (p.trans p2) s r
  | exc x m => exact fun cls dx H2 φ2 e2 p2 r s => h cls dx H2 φ2 (e.trans e2) (p.trans p2) r s
  | bad => exact h
theorem bindI {f : Rho → Mem → Out α} {k : α → Mem → Out Wk} {Q : It → Hp → Prop} {T : β → Hp → Prop} (hρ : RepE C.K H φ ρ σ) (hs : Sim C H φ m) (h : PostI C W σ H φ ((f ρ m).bind k) Q)
    (hT : ∀ d m1 v H1 φ1, Ext C.K H H1 → φ <+: φ1 → RepE C.K H1 φ1 ρ σ → Sim C H1 φ1 m1 → R H1 φ1 d v → PostI C W σ H1 φ1 (k d m1) Q → T v H1) : tG C W R f σ H T := by
  refine ⟨ρ, φ, m, hρ, hs, ?_⟩
  cases e : f ρ m with
  | ok d m1 => rw [e] at h; exact fun v H1 φ1 ex p r s => hT d m1 v H1 φ1 ex p (hρ.mono ex p) s r (h.shift ex p)
  | exc x m1 => rw [e] at h; exact h
  | bad => rw [e] at h; exact h
end

/-! ### a tuple, a list, a text, walked -/
section
variable {X : Cx} {pins : List (Addr × Obj)} {σ : L2.St} {H : Hp} {s : Shared} {a : Addr} {xs : List V} {tg : Expr} {R : It → Hp → Prop} {E : Value → Shared → Prop}
theorem it_list (I : Inv X pins σ H s) (hq : SqL X.K H a xs) (h : R (Itl X.K a) H) : wpAny (model X.prog X.w) X.A (pyIter (.ref a)) (PIE X pins σ tg R) E s := by
  obtain ⟨its, rv, p, hz⟩ := I.list hq
  refine wpAny_pyIter_list p.isList ⟨_, [s.heap.objs.size], _, _, H, rfl, I.kept (t' := s.toks) fun b o q => Heap.get?_push_of_some _ q, turn_list a _, ⟨_, Heap.get?_push_size _ rfl, rfl, rfl⟩, fun b hb => ?_, h⟩
  obtain rfl : b = s.heap.objs.size := by simpa using hb
  exact I.fpOk (Nat.le_refl _) (I.hok.fresh (Nat.le_refl _))
theorem it_tup (I : Inv X pins σ H s) (hq : SqT X.K H a xs) (h : R (Itt X.K a) H) : wpAny (model X.prog X.w) X.A (pyIter (.ref a)) (PIE X pins σ tg R) E s := by
  obtain ⟨its, rv, p, hz⟩ := I.tuple hq
  refine wpAny_pyIter_tuple (show s.heap.IsTuple a its.toArray from p) ⟨_, [s.heap.objs.size], _, _, H, rfl, I.kept (t' := s.toks) fun b o q => Heap.get?_push_of_some _ q, turn_tuple a _, ⟨_, Heap.get?_push_size _ rfl, rfl, rfl⟩, fun b hb => ?_, h⟩
  obtain rfl : b = s.heap.objs.size := by simpa using hb
  exact I.fpOk (Nat.le_refl _) (I.hok.fresh (Nat.le_refl _))
/-- a list or a tuple -/
def iSq (K : Fg) (tl : TE) : TI := fun σ H R => tl σ H fun x H1 => ∃ a, x = .ref a ∧ ((∃ xs, SqL K H1 a xs ∧ R (Itl K a) H1) ∨ ∃ xs, SqT K H1 a xs ∧ R (Itt K a) H1)
theorem pi_sq {l : Expr} {tl : TE} (hl : PE X l tl) : PI X tg l (iSq X.K tl) := by
  refine ⟨fun pins s σ H R I h => thn (hl.run pins s σ H _ I h) fun v s1 ⟨x, H1, I1, r1, q1⟩ => ?_⟩
  obtain ⟨a, e, q⟩ := q1
  subst e
  obtain rfl : v = Value.ref a := r1
  rcases q with ⟨xs, hq, q⟩ | ⟨xs, hq, q⟩
  · exact it_list I1 hq q
  · exact it_tup I1 hq q
end
section
variable {C : Ct} {H : Hp} {φ : List Addr} {a : Addr} {ds : List D} {vs : List V}
theorem get_lt {α : Type} {l : List α} {i : Nat} (h : i < l.length) : ∃ x, l[i]? = some x := ⟨l[i], List.getElem?_eq_getElem h⟩
theorem j_tup (hq : SqT C.K H a vs) (r : Reps C.K H φ ds vs) : JOk C ⟨ds, none⟩ H φ (Itt C.K a) where
  go := fun i H' φ' m e p s k hi => by
    obtain ⟨d, hd⟩ := get_lt hi
    obtain ⟨v, hv, _⟩ := Paired.get r hd
    exact ⟨vs, v, e.t _ _ hq, hv⟩
  yld := fun i H' φ' m v H2 e p s k hi ⟨y1, y2⟩ => by
    subst y1
    refine ⟨Ext.refl, fun _ _ => rfl, ?_⟩
    obtain ⟨d, hd, hr⟩ := Paired.get' r (y2 vs (e.t _ _ hq))
    exact ⟨d, hd, hr.mono e p⟩
  stop := fun H' φ' m e p s k => ⟨vs, e.t _ _ hq, by rw [← Paired.len r]; exact Nat.le_refl _⟩
theorem j_rol (hq : SqF C.K H a vs) (r : Reps C.K H φ ds vs) : JOk C ⟨ds, none⟩ H φ (Itl C.K a) where
  go := fun i H' φ' m e p s k hi => by
    obtain ⟨d, hd⟩ := get_lt hi
    obtain ⟨v, hv, _⟩ := Paired.get r hd
    exact ⟨vs, v, (e.f _ _ hq).sq, hv⟩
  yld := fun i H' φ' m v H2 e p s k hi ⟨y1, y2⟩ => by
    subst y1
    refine ⟨Ext.refl, fun _ _ => rfl, ?_⟩
    obtain ⟨d, hd, hr⟩ := Paired.get' r (y2 vs (e.f _ _ hq).sq)
    exact ⟨d, hd, hr.mono e p⟩
  stop := fun H' φ' m e p s k => ⟨vs, (e.f _ _ hq).sq, by rw [← Paired.len r]; exact Nat.le_refl _⟩
theorem j_lst {k : Nat} (hk : φ[k]? = some a) : JOk C ⟨ds, some (k, ds)⟩ H φ (Itl C.K a) where
  go := fun i H' φ' m e p s w hi => by
    obtain ⟨vs, g1, g2, g3⟩ := s.lst (pre_get p hk) w
    obtain ⟨d, hd⟩ := get_lt hi
    obtain ⟨v, hv, _⟩ := Paired.get g3 hd
    exact ⟨vs, v, SqL.of g1, hv⟩
  yld := fun i H' φ' m v H2 e p s w hi ⟨y1, y2⟩ => by
    subst y1
    refine ⟨Ext.refl, fun _ _ => rfl, ?_⟩
    obtain ⟨vs, g1, g2, g3⟩ := s.lst (pre_get p hk) w
    exact Paired.get' g3 (y2 vs (SqL.of g1))
  stop := fun H' φ' m e p s w => by
    obtain ⟨vs, g1, g2, g3⟩ := s.lst (pre_get p hk) w
    exact ⟨vs, SqL.of g1, by rw [← Paired.len g3]; exact Nat.le_refl _⟩
end
def wkOf (d : D) (m : Mem) : Out Wk := match d with
  | .tup ds => .ok ⟨ds, none⟩ m
  | .rot ds => .ok ⟨ds, none⟩ m
  | .rol ds => .ok ⟨ds, none⟩ m
  | .ref k => match m[k]? with
    | some (.lst ds) => .ok ⟨ds, some (k, ds)⟩ m
    | _ => .bad
  | _ => .bad
def iOf (f : EFn) : IFn := fun ρ m => (f ρ m).bind wkOf
section
variable {X : Cx} {W : WX} {tg e : Expr} {pos p : Pos}
theorem PostI.here {C : Ct} {σ : L2.St} {H : Hp} {φ : List Addr} {m : Mem} {w : Wk} {Q : It → Hp → Prop} {J : It} (h : PostI C W σ H φ (.ok w m) Q) (s : Sim C H φ m) (j : JOk C w H φ J) : Q J H := h J H φ Ext.refl (List.prefix_refl _) s j
theorem ix_of {f : EFn} (h : EX X W e f) : IX X W tg e (iOf f) := PI.imp (pi_sq h) fun σ H R ⟨ρ, φ, m, hρ, hs, q⟩ => bindI hρ hs q fun d m1 v H1 φ1 e1 p1 hρ1 hs1 r1 q1 => by
  cases r1 with
  | non => exact (show False from q1).elim
  | exo _ => exact (show False from q1).elim
  | bl _ => exact (show False from q1).elim
  | int _ => exact (show False from q1).elim
  | str _ _ => exact (show False from q1).elim
  | tup h1 h2 h3 => exact ⟨_, rfl, .inr ⟨_, SqT.of h2, PostI.here (C := ct X) (W := W) (σ := σ) (φ := φ1) (m := m1) q1 hs1 (j_tup (C := ct X) (SqT.of h2) h3)⟩⟩
  | rot h1 h2 h3 => exact ⟨_, rfl, .inr ⟨_, h2, PostI.here (C := ct X) (W := W) (σ := σ) (φ := φ1) (m := m1) q1 hs1 (j_tup (C := ct X) h2 h3)⟩⟩
  | rol h1 h2 h3 => exact ⟨_, rfl, .inl ⟨_, h2.sq, PostI.here (C := ct X) (W := W) (σ := σ) (φ := φ1) (m := m1) q1 hs1 (j_rol (C := ct X) h2 h3)⟩⟩
  | @ref k a hk =>
    have q' : PostI (ct X) W σ H1 φ1 (match m1[k]? with
      | some (.lst ds) => .ok ⟨ds, some (k, ds)⟩ m1
      | _ => .bad) R := q1
    split at q'
    · rename_i ds hm
      obtain ⟨vs, g1, g2, g3⟩ := hs1.lst hk hm
      exact ⟨_, rfl, .inl ⟨vs, SqL.of g1, q'.here hs1 (j_lst hk)⟩⟩
    · exact q'.elim
/-- range(n), range(a, b) -/
def rgD (lo : Int) (n : Nat) : List D := (List.range n).map fun i => .int (lo + (i : Nat))
theorem rgD_get {lo : Int} {n i : Nat} (h : i < n) : (rgD lo n)[i]? = some (.int (lo + (i : Nat))) := by unfold rgD; simp [h]
theorem rgD_len {lo : Int} {n : Nat} : (rgD lo n).length = n := by unfold rgD; simp
theorem j_rng {C : Ct} {H : Hp} {φ : List Addr} {lo : Int} {n : Nat} : JOk C ⟨rgD lo n, none⟩ H φ (Itr lo n) where
  go := fun i H' φ' m e p s w hi => by rw [rgD_len] at hi; exact hi
  yld := fun i H' φ' m v H2 e p s w hi ⟨y1, y2⟩ => by
    subst y1 y2
    rw [rgD_len] at hi
    exact ⟨Ext.refl, fun _ _ => rfl, _, rgD_get hi, .int _⟩
  stop := fun H' φ' m e p s w => by rw [rgD_len]; exact Nat.le_refl n
def in62 (i : Int) : Bool := Nat.ble i.natAbs 4611686018427387903
theorem in62_iff {i : Int} (h : in62 i = true) : -(2 ^ 62) ≤ i ∧ i < 2 ^ 62 := by
  have := Nat.le_of_ble_eq_true h
  omega
def wkRng1 (d : D) (m : Mem) : Out Wk := match d with
  | .int j => if in62 j = true then .ok ⟨rgD 0 j.toNat, none⟩ m else .bad
  | _ => .bad
def wkRng2 (c d : D) (m : Mem) : Out Wk := match c, d with
  | .int i, .int j => if (in62 i && in62 j) = true then .ok ⟨rgD i (j - i).toNat, none⟩ m else .bad
  | _, _ => .bad
def iRng1 (f : EFn) : IFn := fun ρ m => (f ρ m).bind wkRng1
def iRng2 (f g : EFn) : IFn := fun ρ m => (f ρ m).bind fun x m1 => (g ρ m1).bind fun y m2 => wkRng2 x y m2
theorem ix_rng1 {a : Expr} {f : EFn} (hg : Gl X "range") (hm : X.mg "range" = none) (ha : EX X W a f) (hs : starEach [a] X.env = [(false, eval a X.env)] := by rfl) (he : starEach [a] X.env = (false, eval a X.env) :: starEach [] X.env := by rfl) :
    IX X W tg (.Call (.Name "range" p) [a] [] pos) (iRng1 f) :=
  PI.imp (pi_range1 hg hm (pa_cons ha pa_nil he) hs) fun σ H R ⟨ρ, φ, m, hρ, hs, q⟩ => bindI hρ hs q fun d m1 v H1 φ1 e1 p1 hρ1 hs1 r1 q1 => by
    cases d <;> first | exact (show False from q1).elim | skip
    rename_i j
    cases r1
    have q' : PostI (ct X) W σ H1 φ1 (if in62 j = true then .ok ⟨rgD 0 j.toNat, none⟩ m1 else .bad) R := q1
    split at q'
    · rename_i h
      have h' := in62_iff h
      exact ⟨j, rfl, h'.1, h'.2, q'.here hs1 j_rng⟩
    · exact q'.elim
theorem ix_rng2 {a b : Expr} {f g : EFn} (hg : Gl X "range") (hm : X.mg "range" = none) (ha : EX X W a f) (hb : EX X W b g) (he : starEach [a, b] X.env = (false, eval a X.env) :: starEach [b] X.env := by rfl) (he2 : starEach [b] X.env = (false, eval b X.env) :: starEach [] X.env := by rfl)
    (hs : starEach [a, b] X.env = [(false, eval a X.env), (false, eval b X.env)] := by rfl) (hs2 : starEach [b] X.env = [(false, eval b X.env)] := by rfl) : IX X W tg (.Call (.Name "range" p) [a, b] [] pos) (iRng2 f g) :=
  PI.imp (pi_range2 hg hm (pa_cons ha (pa_cons hb pa_nil he2) he) hs hs2) fun σ H R ⟨ρ, φ, m, hρ, hs, q⟩ => bindI hρ hs q fun c m1 u H1 φ1 e1 p1 hρ1 hs1 r1 q1 => bindI hρ1 hs1 q1 fun d m2 v H2 φ2 e2 p2 hρ2 hs2 r2 q2 => by
    cases c <;> cases d <;> first | exact (show False from q2).elim | skip
    rename_i i j
    cases r1; cases r2
    have q' : PostI (ct X) W σ H2 φ2 (if (in62 i && in62 j) = true then .ok ⟨rgD i (j - i).toNat, none⟩ m2 else .bad) R := q2
    split at q'
    · rename_i h
      obtain ⟨h1, h2⟩ := Bool.and_eq_true_iff.mp h
      have h1' := in62_iff h1
      have h2' := in62_iff h2
      exact ⟨i, j, rfl, ⟨h1'.1, h1'.2, h2'.1, h2'.2⟩, q'.here hs2 j_rng⟩
    · exact q'.elim
end

/-! ### targets -/
abbrev TgFn := D → Rho → Option Rho
abbrev TgsFn := List D → Rho → Option Rho
/-- the slots that a target may change -/
def gG (C : Ct) (sl : List Nat) (f : TgFn) : TG := fun v σ H Q => ∃ d ρ φ ρ', Rep C.K H φ d v ∧ RepE C.K H φ ρ σ ∧ f d ρ = some ρ' ∧ ∀ σ', RepE C.K H φ ρ' σ' → σ'.length = σ.length → (∀ j, j ∉ sl → σ'[j]? = σ[j]?) → Q σ' H
def gsG (C : Ct) (sl : List Nat) (f : TgsFn) : TGs := fun vs σ H Q => ∃ ds ρ φ ρ', Reps C.K H φ ds vs ∧ RepE C.K H φ ρ σ ∧ f ds ρ = some ρ' ∧ ∀ σ', RepE C.K H φ ρ' σ' → σ'.length = σ.length → (∀ j, j ∉ sl → σ'[j]? = σ[j]?) → Q σ' H
def GX (X : Cx) (tg : Expr) (sl : List Nat) (f : TgFn) : Prop := PG X tg (gG (ct X) sl f)
def GsX (X : Cx) (tgs : List Expr) (sl : List Nat) (f : TgsFn) : Prop := PGs X tgs (gsG (ct X) sl f)
def tgN (i : Nat) : TgFn := fun d ρ => some (ρ.set i (some d))
def tgNil : TgsFn := fun ds ρ => match ds with | [] => some ρ | _ => none
def tgCons (f : TgFn) (g : TgsFn) : TgsFn := fun ds ρ => match ds with | d :: r => (f d ρ).bind (g r) | [] => none
def tgTup (g : TgsFn) : TgFn := fun d ρ => match d with | .tup ds => g ds ρ | .rot ds => g ds ρ | _ => none
section
variable {X : Cx} {pos : Pos}
theorem PG.imp {tg : Expr} {t t' : TG} (h : PG X tg t) (i : ∀ v σ H Q, t' v σ H Q → t v σ H Q) : PG X tg t' := ⟨fun pins s σ H v u Q I r q => h.run pins s σ H v u Q I r (i v σ H Q q)⟩
theorem PGs.imp {tg : List Expr} {t t' : TGs} (h : PGs X tg t) (i : ∀ v σ H Q, t' v σ H Q → t v σ H Q) : PGs X tg t' := ⟨fun pins s σ H v u Q I r q => h.run pins s σ H v u Q I r (i v σ H Q q)⟩
theorem gx_n (i : Nat) {x : Str} (hN : X.N.Nodup) (hi : X.N[i]? = some x := by rfl) (hx : Loc X.env.scope x := by first | exact Or.inl rfl | exact Or.inr rfl) (hf : X.fn x = true ∨ X.env.scope.names.lookup x = some .local := by first | exact .inl rfl | exact .inr rfl | assumption) :
    GX X (.Name x pos) [i] (tgN i) := PG.imp (pg_name hN hi hx hf) fun v σ H Q ⟨d, ρ, φ, ρ', r, hρ, e, q⟩ => by
  cases e
  refine q _ (hρ.set r) (by simp) fun j hj => ?_
  rw [List.getElem?_set_ne]
  intro z; subst z; exact hj (by simp)
theorem gsx_nil : GsX X [] [] tgNil := PGs.imp pgs_nil fun vs σ H Q ⟨ds, ρ, φ, ρ', r, hρ, e, q⟩ => by
  cases r with
  | nil => cases e; exact ⟨rfl, q σ hρ rfl fun _ _ => rfl⟩
  | cons _ _ => cases e
theorem gsx_cons {e : Expr} {es : List Expr} {s1 s2 : List Nat} {f : TgFn} {g : TgsFn} (h1 : GX X e s1 f) (h2 : GsX X es s2 g) (hs : (assignEach (e :: es) X.env).map (·.2) = assign e X.env :: (assignEach es X.env).map (·.2) := by rfl) : GsX X (e :: es) (s1 ++ s2) (tgCons f g) :=
  PGs.imp (pgs_cons h1 h2 hs) fun vs σ H Q ⟨ds, ρ, φ, ρ', r, hρ, e, q⟩ => by
    cases r with
    | nil => cases e
    | @cons d v ds vs r rr =>
      have e' : (f d ρ).bind (g ds) = some ρ' := e
      cases hf : f d ρ with
      | none => rw [hf] at e'; cases e'
      | some ρ1 =>
        rw [hf] at e'
        refine ⟨v, vs, rfl, d, ρ, φ, ρ1, r, hρ, hf, fun σ1 hρ1 l1 k1 => ⟨ds, ρ1, φ, ρ', rr, hρ1, e', fun σ2 hρ2 l2 k2 => q σ2 hρ2 (l2.trans l1) fun j hj => ?_⟩⟩
        rw [k2 j fun z => hj (List.mem_append_right _ z), k1 j fun z => hj (List.mem_append_left _ z)]
theorem tgs_len {g : TgsFn} {ds : List D} {ρ ρ' : Rho} {n : Nat} (hn : ∀ ds ρ ρ', g ds ρ = some ρ' → ds.length = n) (e : g ds ρ = some ρ') : ds.length = n := hn ds ρ ρ' e
/-- how many parts it takes -/
structure TgL (g : TgsFn) (n : Nat) : Prop where
  len : ∀ ds ρ ρ', g ds ρ = some ρ' → ds.length = n
theorem tgl_nil : TgL tgNil 0 := ⟨fun ds ρ ρ' e => by cases ds with
  | nil => rfl
  | cons _ _ => cases e⟩
theorem tgl_cons {f : TgFn} {g : TgsFn} {n : Nat} (h : TgL g n) : TgL (tgCons f g) (n + 1) := ⟨fun ds ρ ρ' e => by cases ds with
  | nil => cases e
  | cons d r =>
    have e' : (f d ρ).bind (g r) = some ρ' := e
    cases hf : f d ρ with
    | none => rw [hf] at e'; cases e'
    | some ρ1 => rw [hf] at e'; rw [List.length_cons, h.len r ρ1 ρ' e']⟩
theorem gx_tup {es : List Expr} {k : Nat} {sl : List Nat} {g : TgsFn} {n : Nat} (hc : X.calm = true) (h : GsX X es sl g) (hl : TgL g n)
    (hn : (assignEach es X.env).length = n := by rfl) (hst : (assignEach es X.env).findIdx? (·.1) = none := by rfl) : GX X (.Tuple es k pos) sl (tgTup g) :=
  PG.imp (pg_tup hc h hn hst) fun v σ H Q ⟨d, ρ, φ, ρ', r, hρ, e, q⟩ => by
    cases r with
    | @tup ds a vs h1 h2 h3 =>
      have e' : g ds ρ = some ρ' := e
      exact ⟨a, vs, rfl, SqT.of h2, by rw [← Paired.len h3]; exact hl.len ds ρ ρ' e', ds, ρ, φ, ρ', h3, hρ, e', q⟩
    | @rot ds a vs h1 h2 h3 =>
      have e' : g ds ρ = some ρ' := e
      exact ⟨a, vs, rfl, h2, by rw [← Paired.len h3]; exact hl.len ds ρ ρ' e', ds, ρ, φ, ρ', h3, hρ, e', q⟩
    | non => cases e
    | exo _ => cases e
    | bl _ => cases e
    | int _ => cases e
    | str _ _ => cases e
    | rol _ _ _ => cases e
    | ref _ => cases e
end

/-! ### statements -/
def SO.seq (o : SO) (k : Rho → Mem → SO) : SO := match o with
  | .next ρ m => k ρ m
  | .brk ρ m => .brk ρ m
  | .cont ρ m => .cont ρ m
  | .ret d m => .ret d m
  | .exc x ρ m => .exc x ρ m
  | .bad => .bad
@[simp] theorem SO.seq_next {ρ : Rho} {m : Mem} {k : Rho → Mem → SO} : (SO.next ρ m).seq k = k ρ m := rfl
@[simp] theorem SO.seq_brk {ρ : Rho} {m : Mem} {k : Rho → Mem → SO} : (SO.brk ρ m).seq k = .brk ρ m := rfl
@[simp] theorem SO.seq_cont {ρ : Rho} {m : Mem} {k : Rho → Mem → SO} : (SO.cont ρ m).seq k = .cont ρ m := rfl
@[simp] theorem SO.seq_ret {d : D} {m : Mem} {k : Rho → Mem → SO} : (SO.ret d m).seq k = .ret d m := rfl
@[simp] theorem SO.seq_exc {x : Exn} {ρ : Rho} {m : Mem} {k : Rho → Mem → SO} : (SO.exc x ρ m).seq k = .exc x ρ m := rfl
@[simp] theorem SO.seq_bad {k : Rho → Mem → SO} : (SO.bad).seq k = .bad := rfl
def sSkip : SFn := fun ρ m => .next ρ m
def sBrk : SFn := fun ρ m => .brk ρ m
def sCont : SFn := fun ρ m => .cont ρ m
def sSeq (f g : SFn) : SFn := fun ρ m => (f ρ m).seq g
def sIf (t : TFn) (f g : SFn) : SFn := fun ρ m => (t ρ m).so ρ fun k m1 => if k = true then f ρ m1 else g ρ m1
def sRet (f : EFn) : SFn := fun ρ m => (f ρ m).so ρ fun d m1 => .ret d m1
def sRetN : SFn := fun ρ m => .ret .non m
def sExpr (f : EFn) : SFn := fun ρ m => (f ρ m).so ρ fun _ m1 => .next ρ m1
def sSet (i : Nat) (f : EFn) : SFn := fun ρ m => (f ρ m).so ρ fun d m1 => .next (ρ.set i (some d)) m1
def sAsg (g : TgFn) (f : EFn) : SFn := fun ρ m => (f ρ m).so ρ fun d m1 => match g d ρ with | some ρ' => .next ρ' m1 | none => .bad
section
variable {X : Cx} {W : WX} {st : Stmt} {sts rest : List Stmt} {f g : SFn} {e : Expr} {fe : EFn} {pos : Pos}
theorem PostS.nx {C : Ct} {H : Hp} {φ : List Addr} {ρ : Rho} {m : Mem} {D : Ends} {σ : L2.St} (h : PostS C W H φ (.next ρ m) D) (hρ : RepE C.K H φ ρ σ) (s : Sim C H φ m) : D.nx σ H := h σ H φ Ext.refl (List.prefix_refl _) hρ s
theorem PostS.rt {C : Ct} {H : Hp} {φ : List Addr} {d : D} {m : Mem} {D : Ends} {v : V} (h : PostS C W H φ (.ret d m) D) (r : Rep C.K H φ d v) (s : Sim C H φ m) : D.rt v H := h v H φ Ext.refl (List.prefix_refl _) r s
theorem sxs_nil : SXs X W [] sSkip := PSs.imp pss_nil fun D σ H ⟨ρ, φ, m, hρ, hs, q⟩ => PostS.nx (C := ct X) (W := W) (φ := φ) (m := m) q hρ hs
theorem sx_pass : SX X W (.Pass pos) sSkip := PS.imp ps_pass fun D σ H ⟨ρ, φ, m, hρ, hs, q⟩ => PostS.nx (C := ct X) (W := W) (φ := φ) (m := m) q hρ hs
theorem sx_brk : SX X W (.Break pos) sBrk := PS.imp ps_break fun D σ H ⟨ρ, φ, m, hρ, hs, q⟩ => (show PostS (ct X) W H φ (.brk ρ m) D from q) σ H φ Ext.refl (List.prefix_refl _) hρ hs
theorem sx_cont : SX X W (.Continue pos) sCont := PS.imp ps_continue fun D σ H ⟨ρ, φ, m, hρ, hs, q⟩ => (show PostS (ct X) W H φ (.cont ρ m) D from q) σ H φ Ext.refl (List.prefix_refl _) hρ hs
/-- the first statement's ends, then the rest -/
theorem PostS.seq {C : Ct} {H : Hp} {φ : List Addr} {o : SO} {g : SFn} {D : Ends} (q : PostS C W H φ (o.seq g) D) : PostS C W H φ o { D with nx := tS C W g D } := by
  cases o with
  | next ρ m => exact fun σ H1 φ1 e p r s => ⟨ρ, φ1, m, r, s, PostS.shift (show PostS C W H φ (g ρ m) D from q) e p⟩
  | brk ρ m => exact q
  | cont ρ m => exact q
  | ret d m => exact q
  | exc x ρ m => exact q
  | bad => exact q
theorem sxs_cons (h1 : SX X W st f) (h2 : SXs X W rest g) : SXs X W (st :: rest) (sSeq f g) := PSs.imp (pss_cons h1 h2) fun D σ H ⟨ρ, φ, m, hρ, hs, q⟩ => ⟨ρ, φ, m, hρ, hs, q.seq⟩
theorem sxs_one (h1 : SX X W st f) : SXs X W [st] f := pss_one h1
theorem bindB {C : Ct} {W : WX} {σ : L2.St} {H : Hp} {φ : List Addr} {ρ : Rho} {m : Mem} {t : TFn} {k : Bool → Mem → SO} {Dn : Ends} {T : Bool → Hp → Prop} (hρ : RepE C.K H φ ρ σ) (hs : Sim C H φ m) (h : PostS C W H φ ((t ρ m).so ρ k) Dn)
    (hT : ∀ b m1 H1 φ1, Ext C.K H H1 → φ <+: φ1 → RepE C.K H1 φ1 ρ σ → Sim C H1 φ1 m1 → PostS C W H1 φ1 (k b m1) Dn → T b H1) : tG C W RB t σ H T :=
  bindS hρ hs h fun d m1 v H1 φ1 e p r1 s1 r q => by
    have r' : d = v := r
    subst r'
    exact hT d m1 H1 φ1 e p r1 s1 q
theorem sx_if {c : Expr} {t : TFn} {sa sb : List Stmt} (hc : TX X W c t) (ha : SXs X W sa f) (hb : SXs X W sb g) : SX X W (.If c sa sb pos) (sIf t f g) :=
  PS.imp (ps_if hc ha hb) fun D σ H ⟨ρ, φ, m, hρ, hs, q⟩ => bindB hρ hs q fun b m1 H1 φ1 e p hρ1 hs1 q1 => by
    cases b with
    | true => rw [if_pos rfl]; exact ⟨ρ, φ1, m1, hρ1, hs1, q1⟩
    | false => rw [if_neg Bool.false_ne_true]; exact ⟨ρ, φ1, m1, hρ1, hs1, q1⟩
theorem sx_ret (he : EX X W e fe) : SX X W (.Return (some e) pos) (sRet fe) :=
  PS.imp (ps_ret he) fun D σ H ⟨ρ, φ, m, hρ, hs, q⟩ => bindS hρ hs q fun d m1 v H1 φ1 e p hρ1 hs1 r1 q1 => PostS.rt (C := ct X) (W := W) (φ := φ1) (m := m1) q1 r1 hs1
theorem sx_retN : SX X W (.Return none pos) sRetN :=
  PS.imp ps_retN fun D σ H ⟨ρ, φ, m, hρ, hs, q⟩ => PostS.rt (C := ct X) (W := W) (φ := φ) (m := m) (d := .non) q .non hs
theorem sx_expr (he : EX X W e fe) (hs : swapsWith e none pos.line X.env = pure false := by rfl) : SX X W (.Expr e pos) (sExpr fe) :=
  PS.imp (ps_expr he hs) fun D σ H ⟨ρ, φ, m, hρ, hs, q⟩ => bindS hρ hs q fun d m1 v H1 φ1 e p hρ1 hs1 r1 q1 => PostS.nx (C := ct X) (W := W) (φ := φ1) (m := m1) q1 hρ1 hs1
theorem sx_doc {x j pos pos'} : SX X W (.Expr (.Constant (.str x) j pos) pos') sSkip := PS.imp ps_doc fun D σ H ⟨ρ, φ, m, hρ, hs, q⟩ => PostS.nx (C := ct X) (W := W) (φ := φ) (m := m) q hρ hs
theorem sx_set (i : Nat) {x : Str} {pos' : Pos} (hN : X.N.Nodup) (he : EX X W e fe) (hi : X.N[i]? = some x := by rfl) (hx : Loc X.env.scope x := by first | exact Or.inl rfl | exact Or.inr rfl) (hs : swapsWith e (some (.Name x pos')) pos.line X.env = pure false := by rfl)
    (hf : X.fn x = true ∨ X.env.scope.names.lookup x = some .local := by first | exact .inl rfl | exact .inr rfl | assumption) : SX X W (.Assign [.Name x pos'] e pos) (sSet i fe) :=
  PS.imp (ps_set hN hi hx he hs hf) fun D σ H ⟨ρ, φ, m, hρ, hs, q⟩ => bindS hρ hs q fun d m1 v H1 φ1 e p hρ1 hs1 r1 q1 => PostS.nx (C := ct X) (W := W) (φ := φ1) (m := m1) q1 (hρ1.set r1) hs1
theorem sx_asg {tg : Expr} {sl : List Nat} {gt : TgFn} (he : EX X W e fe) (hg : GX X tg sl gt) (hs : swapsWithSole [tg] e pos.line X.env = pure false := by rfl) (hw : swappedStores [tg] e X.env = pure none := by rfl)
    (h1 : (assignEach [tg] X.env).map (·.2) = [assign tg X.env] := by rfl) : SX X W (.Assign [tg] e pos) (sAsg gt fe) :=
  PS.imp (ps_asg he hg hs hw h1) fun D σ H ⟨ρ, φ, m, hρ, hs, q⟩ => bindS hρ hs q fun d m1 v H1 φ1 e p hρ1 hs1 r1 q1 => by
    have q' : PostS (ct X) W H1 φ1 (match gt d ρ with | some ρ' => .next ρ' m1 | none => .bad) D := q1
    split at q'
    · rename_i ρ' hg'
      exact ⟨d, ρ, φ1, ρ', r1, hρ1, hg', fun σ' h' _ _ => q'.nx h' hs1⟩
    · exact q'.elim

/-! ### for -/
open Classical in
noncomputable def forGo (w : Wk) (tg : TgFn) (body : SFn) : List D → Rho → Mem → SO
  | [], ρ, m => if w.ok m then .next ρ m else .bad
  | d :: ds, ρ, m => if w.ok m then match tg d ρ with
      | none => .bad
      | some ρ1 => match body ρ1 m with
        | .next ρ2 m2 => forGo w tg body ds ρ2 m2
        | .cont ρ2 m2 => forGo w tg body ds ρ2 m2
        | .brk ρ2 m2 => .next ρ2 m2
        | .ret v m2 => .ret v m2
        | .exc x ρ2 m2 => .exc x ρ2 m2
        | .bad => .bad
    else .bad
noncomputable def sFor (it : IFn) (tg : TgFn) (body : SFn) : SFn := fun ρ m => (it ρ m).so ρ fun w m1 => forGo w tg body w.ds ρ m1
theorem bindIS {C : Ct} {W : WX} {σ : L2.St} {H : Hp} {φ : List Addr} {ρ : Rho} {m : Mem} {it : IFn} {k : Wk → Mem → SO} {Dn : Ends} {R : It → Hp → Prop} (hρ : RepE C.K H φ ρ σ) (hs : Sim C H φ m) (h : PostS C W H φ ((it ρ m).so ρ k) Dn)
    (hT : ∀ w m1 J H1 φ1, RepE C.K H1 φ1 ρ σ → Sim C H1 φ1 m1 → JOk C w H1 φ1 J → PostS C W H1 φ1 (k w m1) Dn → R J H1) : tI C W it σ H R := by
  refine ⟨ρ, φ, m, hρ, hs, ?_⟩
  cases e : it ρ m with
  | ok d m1 => rw [e] at h; exact fun J H1 φ1 ex p s j => hT d m1 J H1 φ1 (hρ.mono ex p) s j (h.shift ex p)
  | exc x m1 => rw [e] at h; exact fun cls dx H2 φ2 e2 p2 r s => h cls dx σ H2 φ2 e2 p2 r (hρ.mono e2 p2) s
  | bad => rw [e] at h; exact h
theorem sx_for {tg iter : Expr} {body : List Stmt} {it : IFn} {sl : List Nat} {gt : TgFn} (hp : PassesOwn (model X.prog X.w) X.A X.env X.xe) (hc : X.calm = true) (hi : IX X W tg iter it) (hg : GX X tg sl gt) (hb : SXs X W body f)
    (hs : ∀ x, foldedSetIterable iter X.env x = pure x := by intro _; rfl) : SX X W (.For tg iter body [] pos) (sFor it gt f) :=
  PS.imp (ps_for hp hc hi hg hb hs) fun D σ H ⟨ρ, φ, m, hρ, hs, q⟩ => bindIS hρ hs q fun w m1 J H1 φ1 hρ1 hs1 j q1 => by
    refine ⟨fun i n σ H => n = w.ds.length - i ∧ i ≤ w.ds.length ∧ ∃ ρ φ m, Ext (ct X).K H1 H ∧ φ1 <+: φ ∧ RepE (ct X).K H φ ρ σ ∧ Sim (ct X) H φ m ∧ PostS (ct X) W H φ (forGo w gt f (w.ds.drop i) ρ m) D,
      ⟨_, rfl, Nat.zero_le _, ρ, φ1, m1, Ext.refl, List.prefix_refl _, hρ1, hs1, q1⟩, ?_⟩
    rintro i n σ2 H2 ⟨rfl, hi, ρ2, φ2, m2, ex, pr, hρ2, hs2, q2⟩
    by_cases hlt : i < w.ds.length
    · obtain ⟨d, hd⟩ := get_lt hlt
      have hdrop : w.ds.drop i = d :: w.ds.drop (i + 1) := by
        rw [List.drop_eq_getElem_cons hlt]
        rw [List.getElem?_eq_getElem hlt] at hd
        rw [Option.some.inj hd]
      rw [hdrop] at q2
      unfold forGo at q2
      split at q2
      · rename_i hw
        split at q2
        · exact q2.elim
        · rename_i ρ3 hg3
          refine .inr ⟨j.go i H2 φ2 m2 ex pr hs2 hw hlt, fun σ' H' => ∃ ρ φ m, Ext (ct X).K H1 H' ∧ φ1 <+: φ ∧ RepE (ct X).K H' φ ρ σ' ∧ Sim (ct X) H' φ m ∧ PostS (ct X) W H' φ (forGo w gt f (w.ds.drop (i + 1)) ρ m) D,
            fun σ' H' hh => ⟨w.ds.length - (i + 1), by omega, rfl, hlt, hh⟩, fun v H3 hy => ?_⟩
          obtain ⟨ex3, same3, d', hd', rd⟩ := j.yld i H2 φ2 m2 v H3 ex pr hs2 hw hlt hy
          rw [hd] at hd'
          cases hd'
          have hs3 := hs2.keep ex3 same3
          refine ⟨d, ρ2, φ2, ρ3, rd, hρ2.mono ex3 (List.prefix_refl _), hg3, fun σ4 hρ4 _ _ => ⟨ρ3, φ2, m2, hρ4, hs3, ?_⟩⟩
          have q3 := PostS.shift q2 ex3 (List.prefix_refl _)
          revert q3
          cases f ρ3 m2 with
          | next ρ5 m5 => exact fun q3 σ5 H5 φ5 e5 p5 r5 s5 => ⟨ρ5, φ5, m5, (ex.trans ex3).trans e5, pr.trans p5, r5, s5, PostS.shift q3 e5 p5⟩
          | cont ρ5 m5 => exact fun q3 σ5 H5 φ5 e5 p5 r5 s5 => ⟨ρ5, φ5, m5, (ex.trans ex3).trans e5, pr.trans p5, r5, s5, PostS.shift q3 e5 p5⟩
          | brk ρ5 m5 => exact fun q3 => q3
          | ret v5 m5 => exact fun q3 => q3
          | exc x ρ5 m5 => exact fun q3 => q3
          | bad => exact fun q3 => q3
      · exact q2.elim
    · have he : i = w.ds.length := by omega
      subst he
      rw [List.drop_length] at q2
      unfold forGo at q2
      split at q2
      · rename_i hw
        exact .inl ⟨j.stop H2 φ2 m2 ex pr hs2 hw, q2.nx hρ2 hs2⟩
      · exact q2.elim
end
end DL
set_option Elab.async false
set_option linter.all false
set_option maxRecDepth 100000
set_option maxHeartbeats 4000000
/-! DLFun: defs: what they are worth as functions on data and memory; calls; what a call leaves behind is dropped; comprehensions; methods of lists; dicts. -/
namespace DL
open PySem L2

/-! ### cells that nothing tells of any more -/
mutual
def D.bel (n : Nat) : D → Bool
  | .tup ds => D.bels n ds
  | .rot ds => D.bels n ds
  | .rol ds => D.bels n ds
  | .ref k => decide (k < n)
  | .exo _ _ k => decide (k < n)
  | .non => true
  | .bl _ => true
  | .int _ => true
  | .str _ => true
def D.bels (n : Nat) : List D → Bool
  | [] => true
  | d :: ds => d.bel n && D.bels n ds
end
def Cell.bel (n : Nat) : Cell → Bool
  | .lst ds => D.bels n ds
  | .dK kvs => kvs.all fun p => p.2.bel n
  | .dT kvs => kvs.all fun p => p.2.bel n
  | .ins _ fs => fs.all fun p => p.2.bel n
  | .exn _ fs => fs.all fun p => p.2.bel n
mutual
theorem Rep.cutφ {K : Fg} {H : Hp} {φ : List Addr} {n : Nat} : ∀ (d : D) (v : V), Rep K H φ d v → d.bel n = true → Rep K H (φ.take n) d v
  | .non, v, r, _ => by cases r; exact .non
  | .bl b, v, r, _ => by cases r; exact .bl b
  | .int i, v, r, _ => by cases r; exact .int i
  | .str x, v, r, _ => by
    cases r with
    | str h1 h2 => exact .str h1 h2
  | .tup ds, v, r, p => by
    cases r with
    | tup h1 h2 h3 => exact .tup h1 h2 (Reps.cutφ ds _ h3 (by simpa [D.bel] using p))
  | .rot ds, v, r, p => by
    cases r with
    | rot h1 h2 h3 => exact .rot h1 h2 (Reps.cutφ ds _ h3 (by simpa [D.bel] using p))
  | .rol ds, v, r, p => by
    cases r with
    | rol h1 h2 h3 => exact .rol h1 h2 (Reps.cutφ ds _ h3 (by simpa [D.bel] using p))
  | .ref k, v, r, p => by
    cases r with
    | ref h => exact .ref (by rw [List.getElem?_take_of_lt (by simpa [D.bel] using p)]; exact h)
  | .exo _ _ k, v, r, p => by
    cases r with
    | exo h => exact .exo (by rw [List.getElem?_take_of_lt (by simpa [D.bel] using p)]; exact h)
theorem Reps.cutφ {K : Fg} {H : Hp} {φ : List Addr} {n : Nat} : ∀ (ds : List D) (vs : List V), Reps K H φ ds vs → D.bels n ds = true → Reps K H (φ.take n) ds vs
  | [], vs, r, _ => by cases r; exact .nil
  | d :: ds, vs, r, p => by
    cases r with
    | cons r1 r2 =>
      have p' : d.bel n = true ∧ D.bels n ds = true := by simpa [D.bels] using p
      exact .cons (Rep.cutφ d _ r1 p'.1) (Reps.cutφ ds _ r2 p'.2)
end
mutual
theorem Rep.bel {K : Fg} {H : Hp} {φ : List Addr} : ∀ (d : D) (v : V), Rep K H φ d v → d.bel φ.length = true
  | .non, v, r => by simp [D.bel]
  | .bl b, v, r => by simp [D.bel]
  | .int i, v, r => by simp [D.bel]
  | .str x, v, r => by simp [D.bel]
  | .tup ds, v, r => by
    cases r with
    | tup h1 h2 h3 => simp only [D.bel]; exact Reps.bel ds _ h3
  | .rot ds, v, r => by
    cases r with
    | rot h1 h2 h3 => simp only [D.bel]; exact Reps.bel ds _ h3
  | .rol ds, v, r => by
    cases r with
    | rol h1 h2 h3 => simp only [D.bel]; exact Reps.bel ds _ h3
  | .ref k, v, r => by
    cases r with
    | ref h =>
      simp only [D.bel, decide_eq_true_eq]
      rcases Nat.lt_or_ge k φ.length with z | z
      · exact z
      · rw [List.getElem?_eq_none z] at h; cases h
  | .exo _ _ k, v, r => by
    cases r with
    | exo h =>
      simp only [D.bel, decide_eq_true_eq]
      rcases Nat.lt_or_ge k φ.length with z | z
      · exact z
      · rw [List.getElem?_eq_none z] at h; cases h
theorem Reps.bel {K : Fg} {H : Hp} {φ : List Addr} : ∀ (ds : List D) (vs : List V), Reps K H φ ds vs → D.bels φ.length ds = true
  | [], vs, r => by simp [D.bels]
  | d :: ds, vs, r => by
    cases r with
    | cons r1 r2 => simp only [D.bels, Rep.bel d _ r1, Reps.bel ds _ r2, Bool.and_self]
end
theorem RepK.bel {κ : Type} {K : Fg} {H : Hp} {φ : List Addr} : ∀ {l : List (κ × D)} {l' : List (κ × V)}, RepK K H φ l l' → (l.all fun p => p.2.bel φ.length) = true
  | _, _, .nil => rfl
  | _, _, .cons r t => by rw [List.all_cons, Rep.bel _ _ r.2, RepK.bel t]; rfl
theorem RepK.cutφ {κ : Type} {K : Fg} {H : Hp} {φ : List Addr} {n : Nat} : ∀ {l : List (κ × D)} {l' : List (κ × V)}, RepK K H φ l l' → (l.all fun p => p.2.bel n) = true → RepK K H (φ.take n) l l'
  | _, _, .nil, _ => .nil
  | _, _, .cons r t, h => by
    rw [List.all_cons, Bool.and_eq_true_iff] at h
    exact .cons ⟨r.1, Rep.cutφ _ _ r.2 h.1⟩ (RepK.cutφ t h.2)
theorem RepC.bel {C : Ct} {H : Hp} {φ : List Addr} {c : Cell} {o : HO} (h : RepC C H φ c o) : c.bel φ.length = true := by
  cases c <;> cases o <;> first | exact h.elim | skip
  · exact Reps.bel _ _ h.2
  · exact RepK.bel h.2
  · exact RepK.bel h.2
  · exact RepK.bel h.2
  · exact RepK.bel h.2
theorem RepC.cutφ {C : Ct} {H : Hp} {φ : List Addr} {n : Nat} {c : Cell} {o : HO} (h : RepC C H φ c o) (b : c.bel n = true) : RepC C H (φ.take n) c o := by
  cases c <;> cases o <;> first | exact h.elim | skip
  · exact ⟨h.1, Reps.cutφ _ _ h.2 b⟩
  · exact ⟨h.1, RepK.cutφ h.2 b⟩
  · exact ⟨h.1, RepK.cutφ h.2 b⟩
  · exact ⟨h.1, RepK.cutφ h.2 b⟩
  · exact ⟨h.1, RepK.cutφ h.2 b⟩
/-- what a result may forget: the cells from n on -/
def GcOk (n : Nat) (m m' : Mem) : Prop := n ≤ m'.length ∧ ∀ (k : Nat) (c : Cell), k < n → m'[k]? = some c → m[k]? = some c ∨ c.bel n = true
theorem Sim.gc {C : Ct} {H H' : Hp} {φ φ' : List Addr} {m m' : Mem} (s : Sim C H φ m) (p : φ <+: φ') (s' : Sim C H' φ' m') (g : GcOk m.length m m') : Sim C H' φ (m'.take m.length) := by
  have hφ : φ'.take m.length = φ := by
    obtain ⟨t, rfl⟩ := p
    rw [← s.len]; simp
  refine ⟨by rw [s.len, List.length_take]; exact (Nat.min_eq_left g.1).symm, s.nd, fun k c q => ?_⟩
  have hk : k < m.length := by
    rcases Nat.lt_or_ge k m.length with z | z
    · exact z
    · rw [List.getElem?_eq_none (by rw [List.length_take]; omega)] at q; cases q
  rw [List.getElem?_take_of_lt hk] at q
  obtain ⟨a, o, h1, h2, h3⟩ := s'.at_ k c q
  have ha : φ[k]? = some a := by rw [← hφ, List.getElem?_take_of_lt hk]; exact h1
  refine ⟨a, o, ha, h2, ?_⟩
  have hb : c.bel m.length = true := by
    rcases g.2 k c hk q with z | z
    · obtain ⟨a2, o2, g1, g2, g3⟩ := s.at_ k c z
      rw [← s.len]; exact g3.bel
    · exact z
  have := h3.cutφ hb
  rw [hφ] at this
  exact this
open Classical in
/-- a result, with the cells forgotten that neither it nor the older cells tell of -/
noncomputable def gcD (m : Mem) (d : D) (m' : Mem) : Out D := if d.bel m.length = true ∧ GcOk m.length m m' then .ok d (m'.take m.length) else .ok d m'
theorem gcD_pure {m j : Mem} {d : D} (h : d.bel m.length = true) : gcD m d (m ++ j) = .ok d m := by
  unfold gcD
  rw [if_pos]
  · rw [List.take_left]
  · exact ⟨h, by simp, fun k c hk e => .inl (by rw [List.getElem?_append_left hk] at e; exact e)⟩
theorem gcD_same {m : Mem} {d : D} (h : d.bel m.length = true) : gcD m d m = .ok d m := by
  have := gcD_pure (j := []) h
  rwa [List.append_nil] at this
mutual
theorem D.bel_plain {n : Nat} : ∀ d : D, d.plain = true → d.bel n = true
  | .non, _ => by simp [D.bel]
  | .bl _, _ => by simp [D.bel]
  | .int _, _ => by simp [D.bel]
  | .str _, _ => by simp [D.bel]
  | .tup ds, h => by simp only [D.bel]; exact D.bels_plain ds (by simpa [D.plain] using h)
  | .rot ds, h => by simp only [D.bel]; exact D.bels_plain ds (by simpa [D.plain] using h)
  | .rol ds, h => by simp only [D.bel]; exact D.bels_plain ds (by simpa [D.plain] using h)
  | .ref _, h => by simp [D.plain] at h
  | .exo _ _ _, h => by simp [D.plain] at h
theorem D.bels_plain {n : Nat} : ∀ ds : List D, D.plains ds = true → D.bels n ds = true
  | [], _ => by simp [D.bels]
  | d :: ds, h => by
    have h' : d.plain = true ∧ D.plains ds = true := by simpa [D.plains] using h
    simp only [D.bels, D.bel_plain d h'.1, D.bels_plain ds h'.2, Bool.and_self]
end
/-- an expression whose leavings are dropped -/
noncomputable def eGc (f : EFn) : EFn := fun ρ m => match f ρ m with
  | .ok d m' => gcD m d m'
  | .exc x m' => .exc x m'
  | .bad => .bad
theorem Post.gc {C : Ct} {W : WX} {σ : L2.St} {H : Hp} {φ : List Addr} {m : Mem} {d : D} {m' : Mem} {Q : VK} (s : Sim C H φ m) (q : Post C W (RD C) σ H φ (gcD m d m') Q) : Post C W (RD C) σ H φ (.ok d m') Q := by
  unfold gcD at q
  split at q
  · rename_i g
    intro v H1 φ1 e p r s1
    have s2 := s.gc p s1 g.2
    have hφ : φ1.take m.length = φ := by
      obtain ⟨t, rfl⟩ := p
      rw [← s.len]; simp
    have r2 := Rep.cutφ d v r g.1
    rw [hφ] at r2
    exact q v H1 φ e (List.prefix_refl _) r2 s2
  · exact q
theorem ex_gc {X : Cx} {W : WX} {e : Expr} {f : EFn} (h : EX X W e f) : EX X W e (eGc f) := PE.imp h fun σ H Q ⟨ρ, φ, m, hρ, hs, q⟩ => by
  refine ⟨ρ, φ, m, hρ, hs, ?_⟩
  have q' : Post (ct X) W (RD (ct X)) σ H φ (match f ρ m with | .ok d m' => gcD m d m' | .exc x m' => .exc x m' | .bad => .bad) Q := q
  cases hf : f ρ m with
  | ok d m' => rw [hf] at q'; exact Post.gc hs q'
  | exc x m' => rw [hf] at q'; exact q'
  | bad => rw [hf] at q'; exact q'

/-! ### a def -/
abbrev Fn := List D → Mem → Out D
def envOf (N : List Str) (ds : List D) : Rho := ds.map some ++ List.replicate (N.length - ds.length) none
noncomputable def runF (N : List Str) (n : Nat) (g : SFn) : Fn := fun ds m => if ds.length = n then match g (envOf N ds) m with
    | .next _ m' => gcD m .non m'
    | .ret d m' => gcD m d m'
    | .exc x _ m' => .exc x m'
    | _ => .bad
  else .bad
/-- a def's promise: what F says -/
def spD (C : Ct) (n : Nat) (F : Fn) : Sp := fun vs H Q E => vs.length = n ∧ ∃ φ m ds, Reps C.K H φ ds vs ∧ Sim C H φ m ∧ Post C (fun cls dx _ H => E cls dx H) (RD C) [] H φ (F ds m) Q
theorem fn_def {P : Program} {w : World} {K : Fg} {mg : Str → Option Value} {base : Heap} {x qual : Str} {st : Stmt} {f : Addr} {fd : FuncData} {N ps : List Str} {k n : Nat} {g : SFn} (F : Fun K x qual st f fd) (S : FnScope N ps (defScope st)) (hn : ps.length = n)
    (hb : ∀ X : Cx, ∀ W : WX, X.K = K → X.mg = mg → X.prog = P → X.w = w → X.base = base → X.N = N → X.env.scope = defScope st → X.calm = true → X.fn = (fun _ => true) → Room k X.A → Takes X W → PassesOwn (model X.prog X.w) X.A X.env X.xe →
      X.env.scope.kind = .function → SXs X W (defBody st) g) :
    FnOk P w K mg base (L2.CX P w) (k + 1) f fd ps (spD ⟨K, mg⟩ n (runF N n g)) := by
  refine F.okX S (fun vs H Q E h => by rw [hn]; exact h.1) fun cdv A outer s H vs Q E hr h => ?_
  obtain ⟨hl, φ, m, ds, r, hs, q⟩ := h
  refine ⟨_, hb (cxOf (L2.CX P w) P w K mg base N qual (defScope st) f cdv A outer s H E) (fun cls dx _ H => E cls dx H) rfl rfl rfl rfl rfl rfl rfl rfl rfl hr (takes_of rfl rfl rfl rfl) (passes_of rfl) S.kind, ?_⟩
  have hd : ds.length = n := by rw [Paired.len r]; exact hl
  refine ⟨envOf N ds, φ, m, RepE.start r, hs, ?_⟩
  unfold runF at q
  rw [if_pos hd] at q
  revert q
  show Post ⟨K, mg⟩ _ _ _ H φ _ Q → PostS ⟨K, mg⟩ _ H φ (g (envOf N ds) m) _
  cases g (envOf N ds) m with
  | next ρ m' => exact fun q σ1 H1 φ1 e p _ s1 => Post.gc hs q .non H1 φ1 e p .non s1
  | ret d m' => exact fun q v H1 φ1 e p r1 s1 => Post.gc hs q v H1 φ1 e p r1 s1
  | exc x ρ m' => exact fun q cls dx σ1 H1 φ1 e p r1 _ s1 => q cls dx H1 φ1 e p r1 s1
  | brk ρ m' => exact fun q => q.elim
  | cont ρ m' => exact fun q => q.elim
  | bad => exact fun q => q
/-- the number of its arguments is told by the function itself -/
def Ar (n : Nat) (F : Fn) : Prop := ∀ ds m, ds.length ≠ n → F ds m = .bad
theorem ar_run {N : List Str} {n : Nat} {g : SFn} : Ar n (runF N n g) := fun ds m h => by unfold runF; rw [if_neg h]
theorem ex_fn {X : Cx} {W : WX} {e : Expr} {es : List Expr} {x : Str} {p pos : Pos} {k n : Nat} {f : Addr} {fd : FuncData} {ps : List Str} {F : Fn} {fa : AFn} (G : FnOk X.prog X.w X.K X.mg X.base (L2.CX X.prog X.w) k f fd ps (spD (ct X) n F)) (ar : Ar n F) (hr : Room k X.A) (hg : Gl X x) (hm : X.mg x = some (.ref f))
    (hk : PySem.W.keepIn X.K (.ref f) = true) (hb : Binds X.K fd ps []) (tk : Takes X W) (ha : AX X W (e :: es) fa) (hdb : (x == ("__debug__" : Str)) = false := by decide)
    (he : starEach (e :: es) X.env = (false, eval e X.env) :: starEach es X.env := by rfl) (hpl : (backTo pos (starEach es X.env)).any (·.1) = false := by rfl) : EX X W (.Call (.Name x p) (e :: es) [] pos) (eArgs F fa) :=
  PE.imp (pe_callS G hr hg hm hk hb (fun σ => passAt tk σ) ha hdb he hpl) fun σ H Q ⟨ρ, φ, m, hρ, hs, q⟩ => bindG hρ hs q fun ds m1 vs H1 φ1 e1 p1 hρ1 hs1 r1 q1 => by
    have hl : ds.length = n := by
      refine Classical.byContradiction fun z => ?_
      rw [ar ds m1 z] at q1
      exact q1
    refine ⟨by rw [← Paired.len r1]; exact hl, φ1, m1, ds, r1, hs1, ?_⟩
    revert q1
    cases F ds m1 with
    | ok d m2 => exact fun q1 => q1
    | exc x m2 => exact fun q1 => q1
    | bad => exact fun q1 => q1
/-- without arguments; it must not raise -/
def noExc (o : Out D) : Out D := match o with | .exc _ _ => .bad | o => o
theorem ex_fn0 {X : Cx} {W : WX} {x : Str} {p pos : Pos} {k : Nat} {f : Addr} {fd : FuncData} {ps : List Str} {F : Fn} (G : FnOk X.prog X.w X.K X.mg X.base (L2.CX X.prog X.w) k f fd ps (spD (ct X) 0 F)) (hr : Room k X.A) (hg : Gl X x) (hm : X.mg x = some (.ref f))
    (hk : PySem.W.keepIn X.K (.ref f) = true) (hb : Binds X.K fd ps []) (hdb : (x == ("__debug__" : Str)) = false := by decide) : EX X W (.Call (.Name x p) [] [] pos) (fun _ m => noExc (F [] m)) :=
  PE.imp (pe_call0 G hr hg hm hk hb .nil passL hdb) fun σ H Q ⟨ρ, φ, m, hρ, hs, q⟩ => by
    refine ⟨rfl, φ, m, [], .nil, hs, ?_⟩
    have q' : Post (ct X) W (RD (ct X)) σ H φ (noExc (F [] m)) Q := q
    revert q'
    cases F [] m with
    | ok d m2 => exact fun q1 => q1
    | exc x m2 => exact fun q1 => q1.elim
    | bad => exact fun q1 => q1
end DL
set_option Elab.async false
set_option linter.all false
set_option maxRecDepth 100000
set_option maxHeartbeats 4000000
/-! DLMore: methods of lists, stores to places, x op= e, dicts, comprehensions. -/
namespace DL
open PySem L2

/-! ### methods of lists -/
abbrev GM := D → List D → Mem → Out D
def AdM (C : Ct) (r : V → List V → Hp → VK → Prop) (g : GM) : Prop := ∀ (W : WX) (σ : L2.St) (H : Hp) (φ : List Addr) (m : Mem) (d : D) (ds : List D) (v : V) (vs : List V) (Q : VK), Sim C H φ m → Rep C.K H φ d v → Reps C.K H φ ds vs → Post C W (RD C) σ H φ (g d ds m) Q → r v vs H Q
def lstAt (d : D) (m : Mem) : Option (Nat × List D) := match d with
  | .ref k => match m[k]? with
    | some (.lst ds) => some (k, ds)
    | _ => none
  | _ => none
theorem lstAt_inv {C : Ct} {H : Hp} {φ : List Addr} {m : Mem} {d : D} {v : V} {k : Nat} {ds : List D} (hs : Sim C H φ m) (r : Rep C.K H φ d v) (h : lstAt d m = some (k, ds)) :
    d = .ref k ∧ ∃ a vs, v = .ref a ∧ φ[k]? = some a ∧ H a = some (.lst vs) ∧ ds.length ≤ sizeLine ∧ Reps C.K H φ ds vs ∧ m[k]? = some (.lst ds) := by
  cases r with
  | ref hk =>
    rename_i k' a
    have h' : (match m[k']? with | some (.lst ds) => some (k', ds) | _ => none) = some (k, ds) := h
    split at h'
    · rename_i ds' hm
      cases h'
      obtain ⟨vs, g1, g2, g3⟩ := hs.lst hk hm
      exact ⟨rfl, _, vs, rfl, hk, g1, g2, g3, hm⟩
    · cases h'
  | non => cases h
  | exo _ => cases h
  | bl _ => cases h
  | int _ => cases h
  | str _ _ => cases h
  | tup _ _ _ => cases h
  | rot _ _ _ => cases h
  | rol _ _ _ => cases h
def eMeth (g : GM) (f : EFn) (a : AFn) : EFn := fun ρ m => (f ρ m).bind fun x m1 => match lstAt x m1 with
  | some _ => (a ρ m1).bind fun xs m2 => g x xs m2
  | none => .bad
section
variable {X : Cx} {W : WX} {o e : Expr} {es : List Expr} {name : Str} {apos cpos : Pos} {id : String} {r : V → List V → Hp → VK → Prop} {g : GM} {fo : EFn} {fa : AFn}
theorem ex_meth (slot : Slot "list" name id) (hty : typeOf (.builtin id) = pure (.type "method_descriptor")) (hm : MtR X id r) (ad : AdM (ct X) r g) (ho : EX X W o fo) (ha : AX X W (e :: es) fa)
    (hbase : attributeBase o name X.env (eval o X.env) = eval o X.env := by rfl)
    (hfew : ((backTo cpos (starEach (e :: es) X.env)).all (fun x => !x.1) && (backToKw cpos (keywordEach [] X.env)).all (fun x => x.1.isSome) && decide ((e :: es).length + ([] : List Keyword).length + (if ([] : List Keyword).isEmpty then 0 else 1) < 30)) = true := by rfl)
    (hline : (apos.endLine == cpos.line) = true := by rfl) (hs : starEach (e :: es) X.env = (false, eval e X.env) :: starEach es X.env := by rfl) (hplain : (backTo cpos (starEach es X.env)).any (·.1) = false := by rfl) :
    EX X W (.Call (.Attribute o name apos) (e :: es) [] cpos) (eMeth g fo fa) :=
  PE.imp (pe_bm PySem.F.plainAttrs_list slot hty hm ho ha hbase hfew hline hs hplain) fun σ H Q ⟨ρ, φ, m, hρ, hs, q⟩ => bindG hρ hs q fun d m1 v H1 φ1 e1 p1 hρ1 hs1 r1 q1 => by
    have q' : Post (ct X) W (RD (ct X)) σ H1 φ1 (match lstAt d m1 with | some _ => (fa ρ m1).bind fun xs m2 => g d xs m2 | none => .bad) Q := q1
    split at q'
    · rename_i kd he
      obtain ⟨h0, a, vs, h1, h2, h3, h4, h5, h6⟩ := lstAt_inv hs1 r1 (show lstAt d m1 = some (kd.1, kd.2) from he)
      subst h1
      refine ⟨.inl ⟨rfl, vs, SqL.of h3⟩, ?_⟩
      exact bindG hρ1 hs1 q' fun xs m2 ws H2 φ2 e2 p2 hρ2 hs2 r2 q2 => ad W σ H2 φ2 m2 d xs _ ws Q hs2 (r1.mono e2 p2) r2 q2
    · exact q'.elim
theorem ex_meth0 (slot : Slot "list" name id) (hty : typeOf (.builtin id) = pure (.type "method_descriptor")) (hm : MtR X id r) (ad : AdM (ct X) r g) (ho : EX X W o fo)
    (hbase : attributeBase o name X.env (eval o X.env) = eval o X.env := by rfl) (hline : (apos.endLine == cpos.line) = true := by rfl) :
    EX X W (.Call (.Attribute o name apos) [] [] cpos) (eMeth g fo aNil) :=
  PE.imp (pe_bm0 PySem.F.plainAttrs_list slot hty hm ho hbase hline) fun σ H Q ⟨ρ, φ, m, hρ, hs, q⟩ => bindG hρ hs q fun d m1 v H1 φ1 e1 p1 hρ1 hs1 r1 q1 => by
    have q' : Post (ct X) W (RD (ct X)) σ H1 φ1 (match lstAt d m1 with | some _ => (aNil ρ m1).bind fun xs m2 => g d xs m2 | none => .bad) Q := q1
    split at q'
    · rename_i kd he
      obtain ⟨h0, a, vs, h1, h2, h3, h4, h5, h6⟩ := lstAt_inv hs1 r1 (show lstAt d m1 = some (kd.1, kd.2) from he)
      subst h1
      exact ⟨.inl ⟨rfl, vs, SqL.of h3⟩, ad W σ H1 φ1 m1 d [] _ [] Q hs1 r1 .nil q'⟩
    · exact q'.elim
end
/-- the list at k becomes ds -/
theorem Post.setL {C : Ct} {W : WX} {σ : L2.St} {H : Hp} {φ : List Addr} {m : Mem} {k : Nat} {a : Addr} {d : D} {v : V} {ds : List D} {vs : List V} {Q : VK} (q : Post C W (RD C) σ H φ (.ok d (m.set k (.lst ds))) Q) (hs : Sim C H φ m) (hk : φ[k]? = some a)
    (hl : ds.length ≤ sizeLine) (r : Reps C.K H φ ds vs) (rd : Rep C.K H φ d v) : Q v (upd H a (.lst vs)) := by
  obtain ⟨s, e⟩ := hs.set (o := .lst vs) (c := .lst ds) hk ⟨hl, r⟩
  exact q.at e (List.prefix_refl _) s (rd.mono e (List.prefix_refl _))
def gApp : GM := fun x xs m => match lstAt x m, xs with
  | some (k, ds), [y] => if ds.length < sizeLine then .ok .non (m.set k (.lst (ds ++ [y]))) else .bad
  | _, _ => .bad
theorem ad_app {C : Ct} : AdM C rAppend gApp := by
  intro W σ H φ m d xs v vs Q hs r rs q
  unfold gApp at q
  split at q
  · rename_i k ds y he
    obtain ⟨rfl, a, ws, rfl, h2, h3, h4, h5, h6⟩ := lstAt_inv hs r he
    obtain ⟨u, rfl, ru⟩ := Paired.one_l rs
    split at q
    · rename_i hl
      exact ⟨a, ws, u, rfl, rfl, h3, by rw [← Paired.len h5]; exact hl, q.setL hs h2 (by rw [List.length_append]; exact hl) (Paired.app h5 (.cons ru .nil)) .non⟩
    · exact q.elim
  · exact q.elim
def gExt : GM := fun x xs m => match lstAt x m, xs with
  | some (k, ds), [y] => match lstAt y m with
    | some (_, es) => if ds.length + es.length ≤ sizeLine then .ok .non (m.set k (.lst (ds ++ es))) else .bad
    | none => .bad
  | _, _ => .bad
theorem ad_ext {C : Ct} : AdM C rExtend gExt := by
  intro W σ H φ m d xs v vs Q hs r rs q
  unfold gExt at q
  split at q
  · rename_i k ds y he
    obtain ⟨rfl, a, ws, rfl, h2, h3, h4, h5, h6⟩ := lstAt_inv hs r he
    obtain ⟨u, rfl, ru⟩ := Paired.one_l rs
    split at q
    · rename_i k2 es he2
      obtain ⟨rfl, b, us, rfl, g2, g3, g4, g5, g6⟩ := lstAt_inv hs ru he2
      split at q
      · rename_i hl
        exact ⟨a, b, ws, us, rfl, rfl, h3, g3, by rw [← Paired.len h5, ← Paired.len g5]; exact hl, q.setL hs h2 (by simpa using hl) (Paired.app h5 g5) .non⟩
      · exact q.elim
    · exact q.elim
  · exact q.elim
def gPop : GM := fun x xs m => match lstAt x m, xs with
  | some (k, ds), [] => match ds[ds.length - 1]? with
    | some y => .ok y (m.set k (.lst ds.dropLast))
    | none => .bad
  | _, _ => .bad
theorem ad_pop {C : Ct} : AdM C rPop gPop := by
  intro W σ H φ m d xs v vs Q hs r rs q
  unfold gPop at q
  split at q
  · rename_i k ds he
    obtain ⟨rfl, a, ws, rfl, h2, h3, h4, h5, h6⟩ := lstAt_inv hs r he
    cases rs
    split at q
    · rename_i y hy
      obtain ⟨u, hu, ru⟩ := Paired.get h5 hy
      exact ⟨a, ws, u, rfl, rfl, h3, by rw [← Paired.len h5]; exact hu, q.setL hs h2 (by rw [List.length_dropLast]; omega) (Paired.dl h5) ru⟩
    · exact q.elim
  · exact q.elim
def gPopAt : GM := fun x xs m => match lstAt x m, xs with
  | some (k, ds), [.int i] => match ixN ds.length i with
    | some j => match ds[j]? with
      | some y => .ok y (m.set k (.lst (ds.eraseIdx j)))
      | none => .bad
    | none => .bad
  | _, _ => .bad
theorem ad_popAt {C : Ct} : AdM C rPopAt gPopAt := by
  intro W σ H φ m d xs v vs Q hs r rs q
  unfold gPopAt at q
  split at q
  · rename_i k ds i he
    obtain ⟨rfl, a, ws, rfl, h2, h3, h4, h5, h6⟩ := lstAt_inv hs r he
    obtain ⟨u, rfl, ru⟩ := Paired.one_l rs
    cases ru
    split at q
    · rename_i j hj
      split at q
      · rename_i y hy
        obtain ⟨u, hu, ru⟩ := Paired.get h5 hy
        obtain ⟨z1, z2, z3, z4⟩ := ixN_seq hj
        have hz := line63
        exact ⟨a, ws, i, j, u, rfl, rfl, h3, by omega, by omega, by rw [← Paired.len h5]; exact z1, hu, q.setL hs h2 (Nat.le_trans (len_erase _ _) h4) (Paired.er j h5) ru⟩
      · exact q.elim
    · exact q.elim
  · exact q.elim
section
variable {X : Cx} {W : WX} {o e : Expr} {apos cpos : Pos} {fo fe : EFn}
theorem ex_append (ho : EX X W o fo) (he : EX X W e fe) (hbase : attributeBase o "append" X.env (eval o X.env) = eval o X.env := by rfl)
    (hfew : ((backTo cpos (starEach [e] X.env)).all (fun x => !x.1) && (backToKw cpos (keywordEach [] X.env)).all (fun x => x.1.isSome) && decide ([e].length + ([] : List Keyword).length + (if ([] : List Keyword).isEmpty then 0 else 1) < 30)) = true := by rfl)
    (hline : (apos.endLine == cpos.line) = true := by rfl) (hs : starEach [e] X.env = (false, eval e X.env) :: starEach [] X.env := by rfl) (hplain : (backTo cpos (starEach [] X.env)).any (·.1) = false := by rfl) :
    EX X W (.Call (.Attribute o "append" apos) [e] [] cpos) (eMeth gApp fo (aCons fe aNil)) := ex_meth PySem.F.slot_list_append PySem.F.type_list_append mt_append ad_app ho (ax_cons he ax_nil hs) hbase hfew hline hs hplain
theorem ex_extend (ho : EX X W o fo) (he : EX X W e fe) (hbase : attributeBase o "extend" X.env (eval o X.env) = eval o X.env := by rfl)
    (hfew : ((backTo cpos (starEach [e] X.env)).all (fun x => !x.1) && (backToKw cpos (keywordEach [] X.env)).all (fun x => x.1.isSome) && decide ([e].length + ([] : List Keyword).length + (if ([] : List Keyword).isEmpty then 0 else 1) < 30)) = true := by rfl)
    (hline : (apos.endLine == cpos.line) = true := by rfl) (hs : starEach [e] X.env = (false, eval e X.env) :: starEach [] X.env := by rfl) (hplain : (backTo cpos (starEach [] X.env)).any (·.1) = false := by rfl) :
    EX X W (.Call (.Attribute o "extend" apos) [e] [] cpos) (eMeth gExt fo (aCons fe aNil)) := ex_meth PySem.F.slot_list_extend PySem.F.type_list_extend mt_extend ad_ext ho (ax_cons he ax_nil hs) hbase hfew hline hs hplain
theorem ex_pop (ho : EX X W o fo) (hbase : attributeBase o "pop" X.env (eval o X.env) = eval o X.env := by rfl) (hline : (apos.endLine == cpos.line) = true := by rfl) :
    EX X W (.Call (.Attribute o "pop" apos) [] [] cpos) (eMeth gPop fo aNil) := ex_meth0 PySem.F.slot_list_pop PySem.F.type_list_pop mt_pop ad_pop ho hbase hline
theorem ex_popAt (ho : EX X W o fo) (he : EX X W e fe) (hbase : attributeBase o "pop" X.env (eval o X.env) = eval o X.env := by rfl)
    (hfew : ((backTo cpos (starEach [e] X.env)).all (fun x => !x.1) && (backToKw cpos (keywordEach [] X.env)).all (fun x => x.1.isSome) && decide ([e].length + ([] : List Keyword).length + (if ([] : List Keyword).isEmpty then 0 else 1) < 30)) = true := by rfl)
    (hline : (apos.endLine == cpos.line) = true := by rfl) (hs : starEach [e] X.env = (false, eval e X.env) :: starEach [] X.env := by rfl) (hplain : (backTo cpos (starEach [] X.env)).any (·.1) = false := by rfl) :
    EX X W (.Call (.Attribute o "pop" apos) [e] [] cpos) (eMeth gPopAt fo (aCons fe aNil)) := ex_meth PySem.F.slot_list_pop PySem.F.type_list_pop mt_popAt ad_popAt ho (ax_cons he ax_nil hs) hbase hfew hline hs hplain
end

/-! ### o[i] = e -/
def putSq (k : Nat) (ds : List D) (y d : D) (m : Mem) : Option Mem := match y with
  | .int i => (ixN ds.length i).map fun j => m.set k (.lst (ds.set j d))
  | _ => none
def putI (x y d : D) (m : Mem) : Option Mem := match x with
  | .ref k => match m[k]? with
    | some (.lst ds) => putSq k ds y d m
    | some (.dK kvs) => if kvs.length < sizeLine then (keyOf y).map fun z => m.set k (.dK (putD kvs z d)) else none
    | some (.dT kvs) => if kvs.length < sizeLine then (tupKey y).map fun z => m.set k (.dT (putD kvs z d)) else none
    | _ => none
  | _ => none
def PSetOr {X : Cx} {t u : TSet} (h : PSet X t) (h' : PSet X u) : PSet X (fun o i v H Q => t o i v H Q ∨ u o i v H Q) := by
  intro pins s σ H o i v ov iv w Q I r1 r2 r3 q
  rcases q with q | q
  · exact h pins s σ H o i v ov iv w Q I r1 r2 r3 q
  · exact h' pins s σ H o i v ov iv w Q I r1 r2 r3 q
theorem putI_ok {C : Ct} {H : Hp} {φ : List Addr} {m m' : Mem} {x y d : D} {o i v : V} {Q : Hp → Prop} (hs : Sim C H φ m) (r1 : Rep C.K H φ x o) (r2 : Rep C.K H φ y i) (r3 : Rep C.K H φ d v) (e : putI x y d m = some m') (q : ∀ H', Ext C.K H H' → Sim C H' φ m' → Q H') :
    rSetL o i v H Q ∨ rSetD o i v H Q := by
  cases r1 with
  | ref hk =>
    rename_i k a
    have e' : (match m[k]? with
      | some (.lst ds) => putSq k ds y d m
      | some (.dK kvs) => if kvs.length < sizeLine then (keyOf y).map fun z => m.set k (.dK (putD kvs z d)) else none
      | some (.dT kvs) => if kvs.length < sizeLine then (tupKey y).map fun z => m.set k (.dT (putD kvs z d)) else none
      | _ => none) = some m' := e
    split at e'
    · rename_i ds hm
      obtain ⟨vs, g1, g2, g3⟩ := hs.lst hk hm
      cases r2 with
      | int i =>
        have e2 : (ixN ds.length i).map (fun j => m.set k (.lst (ds.set j d))) = some m' := e'
        cases hj : ixN ds.length i with
        | none => rw [hj] at e2; cases e2
        | some j =>
          rw [hj] at e2
          cases e2
          obtain ⟨s, ex⟩ := hs.set (o := .lst (vs.set j v)) (c := .lst (ds.set j d)) hk ⟨by simpa using g2, Paired.st r3 j g3⟩
          exact .inl ⟨a, vs, i, j, rfl, rfl, g1, by rw [← Paired.len g3]; exact hj, q _ ex s⟩
      | _ => cases e'
    · rename_i kvs hm
      obtain ⟨vs, g1, g2, g3⟩ := hs.dk hk hm
      split at e'
      · rename_i hl
        cases hz : keyOf y with
        | none => rw [hz] at e'; cases e'
        | some z =>
          rw [hz] at e'
          cases e'
          obtain ⟨f1, f2, f3⟩ := keyOf_rep r2 hz
          subst f1
          obtain ⟨s, ex⟩ := hs.set (o := .dK (putK vs z v)) (c := .dK (putD kvs z d)) hk ⟨⟨by have := putD_len kvs z d; omega, fun p hp => by
            rcases putD_mem hp with h | ⟨q, hq, h⟩
            · rw [h]; exact f2
            · rw [← h]; exact g2.2 q hq⟩, putD_rep r3 g3⟩
          exact .inr ⟨a, _, rfl, DPut.k g1 (by rw [← Paired.len g3]; exact hl), q _ ex s⟩
      · cases e'
    · rename_i kvs hm
      obtain ⟨vs, g1, g2, g3⟩ := hs.dt hk hm
      split at e'
      · rename_i hl
        cases hz : tupKey y with
        | none => rw [hz] at e'; cases e'
        | some z =>
          rw [hz] at e'
          cases e'
          obtain ⟨b, rfl, f2, f3, f4⟩ := tupKey_inv r2 hz
          obtain ⟨s, ex⟩ := hs.set (o := .dT (putK vs z v)) (c := .dT (putD kvs z d)) hk ⟨⟨by have := putD_len kvs z d; omega, fun p hp => by
            rcases putD_mem hp with h | ⟨q, hq, h⟩
            · rw [h]; exact f3
            · rw [← h]; exact g2.2 q hq⟩, putD_rep r3 g3⟩
          exact .inr ⟨a, _, rfl, DPut.t g1 f2 (by rw [← Paired.len g3]; exact hl), q _ ex s⟩
      · cases e'
    · cases e'
  | _ => cases e
def sSub (o i e : EFn) : SFn := fun ρ m => (e ρ m).so ρ fun d m1 => (o ρ m1).so ρ fun x m2 => (i ρ m2).so ρ fun y m3 => match putI x y d m3 with | some m4 => .next ρ m4 | none => .bad
section
variable {X : Cx} {W : WX} {o i e : Expr} {fo fi fe : EFn} {pos pos' : Pos}
theorem sx_sub {k : Nat} (hr : Room k X.A) (ho : EX X W o fo) (hi : EX X W i fi) (he : EX X W e fe)
    (ha : ∀ v, assign (.Subscript o i pos') X.env v = (do
      let ov ← holding [v] (eval o X.env)
      let iv ← holding [v, ov] (eval i X.env)
      standAt pos'
      holding [v, ov, iv] (setItem ov iv v)
      release [v, ov, iv] []) := by intro _; rfl)
    (hs : swapsWithSole [.Subscript o i pos'] e pos.line X.env = pure false := by rfl) (hw : swappedStores [.Subscript o i pos'] e X.env = pure none := by rfl)
    (h1 : (assignEach [.Subscript o i pos'] X.env).map (·.2) = [assign (.Subscript o i pos') X.env] := by rfl) : SX X W (.Assign [.Subscript o i pos'] e pos) (sSub fo fi fe) :=
  PS.imp (ps_asg he (pg_sub ho hi (PSetOr set_list (set_dict (hu_of hr))) ha) hs hw h1) fun D σ H ⟨ρ, φ, m, hρ, hs, q⟩ => by
    refine bindS hρ hs q fun d m1 v H1 φ1 e1 p1 hρ1 hs1 r1 q1 => ?_
    refine bindS hρ1 hs1 q1 fun x m2 ov H2 φ2 e2 p2 hρ2 hs2 r2 q2 => ?_
    refine bindS hρ2 hs2 q2 fun y m3 iv H3 φ3 e3 p3 hρ3 hs3 r3 q3 => ?_
    have q' : PostS (ct X) W H3 φ3 (match putI x y d m3 with | some m4 => .next ρ m4 | none => .bad) D := q3
    split at q'
    · rename_i m4 hp
      exact putI_ok hs3 (r2.mono e3 p3) r3 ((r1.mono e2 p2).mono e3 p3) hp fun H4 e4 s4 => q' σ H4 φ3 e4 (List.prefix_refl _) (hρ3.mono e4 (List.prefix_refl _)) s4
    · exact q'.elim
end

/-! ### x op= e -/
def sAug (i : Nat) (g : G2) (f : EFn) : SFn := fun ρ m => match ρ[i]? with
  | some (some d) => (f ρ m).so ρ fun y m1 => (g d y m1).so ρ fun z m2 => .next (ρ.set i (some z)) m2
  | _ => .bad
section
variable {X : Cx} {W : WX} {e : Expr} {fe : EFn} {pos pos' : Pos}
theorem sx_aug (i : Nat) {x : Str} {op : Operator} {r : R2} {g : G2} (hN : X.N.Nodup) (ho : OpR X (inplaceOp op) r) (ad : Ad2 (ct X) r g) (he : EX X W e fe) (hi : X.N[i]? = some x := by rfl) (hx : Loc X.env.scope x := by first | exact Or.inl rfl | exact Or.inr rfl)
    (hf : X.fn x = true ∨ X.env.scope.names.lookup x = some .local := by first | exact .inl rfl | exact .inr rfl | assumption) : SX X W (.AugAssign (.Name x pos') op e pos) (sAug i g fe) :=
  PS.imp (ps_aug (ti := r) hN hi hx he (fun pins s σ H x y v u Q I r1 r2 q => ho pins s σ H x y v u Q I r1 r2 q) hf) fun D σ H ⟨ρ, φ, m, hρ, hs, q⟩ => by
    have q' : PostS (ct X) W H φ (match ρ[i]? with
      | some (some d) => (fe ρ m).so ρ fun y m1 => (g d y m1).so ρ fun z m2 => .next (ρ.set i (some z)) m2
      | _ => .bad) D := q
    split at q'
    · rename_i d hd
      obtain ⟨v, hv, rv⟩ := hρ.2 i d hd
      refine ⟨v, hv, bindS hρ hs q' fun y m1 u H1 φ1 e1 p1 hρ1 hs1 r1 q1 => ?_⟩
      refine ad W σ H1 φ1 m1 d y v u _ hs1 (rv.mono e1 p1) r1 ?_
      revert q1
      cases g d y m1 with
      | ok z m2 => exact fun q1 w H2 φ2 e2 p2 r2 s2 => PostS.nx (C := ct X) (W := W) (φ := φ2) (m := m2) (PostS.shift q1 e2 p2) ((hρ1.mono e2 p2).set r2) s2
      | exc x m2 => exact fun q1 cls dx H2 φ2 e2 p2 r2 s2 => q1 cls dx σ H2 φ2 e2 p2 r2 (hρ1.mono e2 p2) s2
      | bad => exact fun q1 => q1
    · exact q'.elim
def gIAdd : G2 := fun x y m => match x, y with
  | .int i, .int j => .ok (.int (i + j)) m
  | .str s, .str t => if s.length + t.length ≤ sizeLine then .ok (.str (s ++ t)) m else .bad
  | _, _ => .bad
theorem ad_iadd {C : Ct} : Ad2 C (fun x y H Q => rI0 (fun i j => .int (i + j)) x y H Q ∨ (∃ i j, x = V.str i ∧ y = V.str j ∧ i.length + j.length ≤ sizeLine ∧ Q (V.str (i ++ j)) H)) gIAdd := by
  intro W σ H φ m d1 d2 v1 v2 Q hs r1 r2 q
  cases d1 <;> cases d2 <;> first | exact (show False from q).elim | skip
  · cases r1; cases r2
    exact .inl ⟨_, _, rfl, rfl, Post.here (C := C) (W := W) (R := RD C) (σ := σ) (φ := φ) (m := m) q hs (.int _)⟩
  · rename_i s t
    cases r1 with
    | str a1 a2 => cases r2 with
      | str b1 b2 =>
        have q' : Post C W (RD C) σ H φ (if s.length + t.length ≤ sizeLine then .ok (.str (s ++ t)) m else .bad) Q := q
        split at q'
        · rename_i h
          exact .inr ⟨s, t, rfl, rfl, h, q'.here hs (.str (by rw [str_app_len]; exact h) (strOk_app a2 b2))⟩
        · exact q'.elim
theorem sx_iadd (i : Nat) {x : Str} (hN : X.N.Nodup) (he : EX X W e fe) (hi : X.N[i]? = some x := by rfl) (hx : Loc X.env.scope x := by first | exact Or.inl rfl | exact Or.inr rfl)
    (hf : X.fn x = true ∨ X.env.scope.names.lookup x = some .local := by first | exact .inl rfl | exact .inr rfl | assumption) : SX X W (.AugAssign (.Name x pos') .Add e pos) (sAug i gIAdd fe) := sx_aug i hN (iop_add.or iop_add_str) ad_iadd he hi hx hf
theorem sx_isub (i : Nat) {x : Str} (hN : X.N.Nodup) (he : EX X W e fe) (hi : X.N[i]? = some x := by rfl) (hx : Loc X.env.scope x := by first | exact Or.inl rfl | exact Or.inr rfl)
    (hf : X.fn x = true ∨ X.env.scope.names.lookup x = some .local := by first | exact .inl rfl | exact .inr rfl | assumption) : SX X W (.AugAssign (.Name x pos') .Sub e pos) (sAug i gSub fe) := sx_aug i hN iop_sub (ad_I0 fun _ _ _ _ => .int _) he hi hx hf
end
end DL
set_option Elab.async false
set_option linter.all false
set_option maxRecDepth 100000
set_option maxHeartbeats 4000000
/-! DLComp: comprehensions, dict displays, enumerate. -/
namespace DL
open PySem L2

/-! ### comprehensions -/
abbrev W0 : WX := fun _ _ _ _ => False
def wipeR (ρ : Rho) : List Nat → Rho
  | [] => ρ
  | v :: vs => (wipeR ρ vs).set v none
theorem RepE.wipes {K : Fg} {H : Hp} {φ : List Addr} {ρ : Rho} {σ : L2.St} (h : RepE K H φ ρ σ) : ∀ vs : List Nat, RepE K H φ (wipeR ρ vs) (L2.wipe σ vs)
  | [] => h
  | v :: vs => RepE.wipe (RepE.wipes h vs)
theorem wipe_ext {σ σ' : L2.St} (hl : σ'.length = σ.length) : ∀ {vs : List Nat}, (∀ j, j ∉ vs → σ'[j]? = σ[j]?) → wipe σ' vs = wipe σ vs := by
  intro vs h
  refine List.ext_getElem? fun j => ?_
  by_cases hj : j ∈ vs
  · have key : ∀ (τ : L2.St) (vs : List Nat), j ∈ vs → (wipe τ vs)[j]? = if j < τ.length then some none else none := by
      intro τ vs
      induction vs with
      | nil => intro h; cases h
      | cons v vs ih =>
        intro hm
        unfold wipe
        by_cases e : v = j
        · subst e
          by_cases hv : v < τ.length
          · rw [List.getElem?_set_self (by rw [wipe_length]; exact hv), if_pos hv]
          · rw [List.getElem?_eq_none (by rw [List.length_set, wipe_length]; omega), if_neg hv]
        · rw [List.getElem?_set_ne e]
          exact ih (by rcases List.mem_cons.mp hm with z | z; exact absurd z.symm e; exact z)
    rw [key σ' vs hj, key σ vs hj, hl]
  · rw [wipe_out hj, wipe_out hj]; exact h j hj
theorem wipe_wipe {σ : L2.St} {vs : List Nat} : wipe (wipe σ vs) vs = wipe σ vs := wipe_ext (wipe_length σ vs) fun j hj => wipe_out hj
abbrev TsX (X : Cx) (ifs : List Expr) (t : TFn) : Prop := PTs X ifs (tG (ct X) W0 RB t)
theorem PTs.imp {X : Cx} {ifs : List Expr} {t t' : TT} (h : PTs X ifs t) (i : ∀ σ H Q, t' σ H Q → t σ H Q) : PTs X ifs t' := ⟨fun pins s σ H Q I q => h.run pins s σ H Q I (i σ H Q q)⟩
def fYes : TFn := fun _ m => .ok true m
theorem tsx_nil {X : Cx} : TsX X [] fYes := PTs.imp pts_nil fun σ H Q ⟨ρ, φ, m, hρ, hs, q⟩ => PostB.here (C := ct X) (W := W0) (σ := σ) (φ := φ) (m := m) q hs
theorem tsx_one {X : Cx} {c : Expr} {t : TFn} (h : TX X W0 c t) : TsX X [c] t := pts_one h
open Classical in
noncomputable def lcGo (w : Wk) (tg : TgFn) (cond : TFn) (elt : EFn) (ρ : Rho) (k : Nat) : List D → List D → Mem → Out D
  | acc, [], m => if w.ok m then .ok (.ref k) m else .bad
  | acc, d :: ds, m => if w.ok m then match tg d ρ with
      | none => .bad
      | some ρ1 => match cond ρ1 m with
        | .ok true m2 => match elt ρ1 m2 with
          | .ok y m3 => if m3[k]? = some (.lst acc) then lcGo w tg cond elt ρ k (acc ++ [y]) ds (m3.set k (.lst (acc ++ [y]))) else .bad
          | _ => .bad
        | .ok false m2 => if m2[k]? = some (.lst acc) then lcGo w tg cond elt ρ k acc ds m2 else .bad
        | _ => .bad
    else .bad
/-- the items are few enough for a list -/
noncomputable def eLc (it : IFn) (tg : TgFn) (cond : TFn) (elt : EFn) (own : List Nat) : EFn := fun ρ m => (it ρ m).bind fun w m1 =>
  if w.ds.length ≤ sizeLine then lcGo w tg cond elt (wipeR ρ own) m1.length [] w.ds (m1 ++ [.lst []]) else .bad
theorem bindIE {C : Ct} {W : WX} {σ : L2.St} {H : Hp} {φ : List Addr} {ρ : Rho} {m : Mem} {it : IFn} {k : Wk → Mem → Out D} {Q : VK} {R : It → Hp → Prop} (hρ : RepE C.K H φ ρ σ) (hs : Sim C H φ m) (h : Post C W (RD C) σ H φ ((it ρ m).bind k) Q)
    (hT : ∀ w m1 J H1 φ1, RepE C.K H1 φ1 ρ σ → Sim C H1 φ1 m1 → JOk C w H1 φ1 J → Post C W (RD C) σ H1 φ1 (k w m1) Q → R J H1) : tI C W it σ H R := by
  refine ⟨ρ, φ, m, hρ, hs, ?_⟩
  cases e : it ρ m with
  | ok d m1 => rw [e] at h; exact fun J H1 φ1 ex p s j => hT d m1 J H1 φ1 (hρ.mono ex p) s j (Post.shift (R := RD C) h ex p)
  | exc x m1 => rw [e] at h; exact h
  | bad => rw [e] at h; exact h
open Classical in
/-- the reading of a comprehension -/
theorem tLc_of {C : Ct} {W : WX} {it : IFn} {sl own : List Nat} {gt : TgFn} {tt : TFn} {elt : EFn} (hsub : ∀ j ∈ sl, j ∈ own) {σ : L2.St} {H : Hp} {Q : VK} (h : tG C W (RD C) (eLc it gt tt elt own) σ H Q) :
    tLc (tI C W it) (gG C sl gt) (tG C W0 RB tt) (tG C W0 (RD C) elt) own σ H Q := by
  obtain ⟨ρ, φ, m, hρ, hs, q⟩ := h
  refine bindIE hρ hs q fun w m1 J H1 φ1 hρ1 hs1 j q1 => ?_
  intro L hL
  have q1' : Post C W (RD C) σ H1 φ1 (if w.ds.length ≤ sizeLine then lcGo w gt tt elt (wipeR ρ own) m1.length [] w.ds (m1 ++ [.lst []]) else .bad) Q := q1
  split at q1'
  rotate_left
  · exact q1'.elim
  rename_i hsz
  obtain ⟨hs0, _⟩ := new_lst (C := C) (ds := []) (vs := []) hs1 (Nat.zero_le _) hL .nil
  have ex0 : Ext C.K H1 (upd H1 L (.lst [])) := Ext.new hL
  have hkL : (φ1 ++ [L])[m1.length]? = some L := by rw [← hs1.len]; simp
  refine ⟨fun i n H' => n = w.ds.length - i ∧ i ≤ w.ds.length ∧ ∃ acc φ' m', acc.length ≤ i ∧ Ext C.K H1 H' ∧ (φ1 ++ [L]) <+: φ' ∧ Sim C H' φ' m' ∧ m'[m1.length]? = some (.lst acc) ∧ Post C W (RD C) σ H' φ' (lcGo w gt tt elt (wipeR ρ own) m1.length acc (w.ds.drop i) m') Q,
    ⟨_, rfl, Nat.zero_le _, [], φ1 ++ [L], m1 ++ [.lst []], Nat.zero_le _, ex0, List.prefix_refl _, hs0, by simp, Post.shift (R := RD C) q1' ex0 ⟨_, rfl⟩⟩, ?_⟩
  rintro i n H2 ⟨rfl, hi, acc, φ2, m2, hacc, ex, pr, hs2, hm2, q2⟩
  have pr1 : φ1 <+: φ2 := (List.prefix_append _ _).trans pr
  by_cases hlt : i < w.ds.length
  · obtain ⟨d, hd⟩ := get_lt hlt
    have hdrop : w.ds.drop i = d :: w.ds.drop (i + 1) := by
      rw [List.drop_eq_getElem_cons hlt]
      rw [List.getElem?_eq_getElem hlt] at hd
      rw [Option.some.inj hd]
    rw [hdrop] at q2
    unfold lcGo at q2
    split at q2
    rotate_left
    · exact q2.elim
    rename_i hw
    split at q2
    · exact q2.elim
    rename_i ρ3 hg3
    refine .inr ⟨j.go i H2 φ2 m2 ex pr1 hs2 hw hlt, fun H' => ∃ acc φ' m', acc.length ≤ i + 1 ∧ Ext C.K H1 H' ∧ (φ1 ++ [L]) <+: φ' ∧ Sim C H' φ' m' ∧ m'[m1.length]? = some (.lst acc) ∧ Post C W (RD C) σ H' φ' (lcGo w gt tt elt (wipeR ρ own) m1.length acc (w.ds.drop (i + 1)) m') Q,
      fun H' hh => ⟨w.ds.length - (i + 1), by omega, rfl, hlt, hh⟩, fun v H3 hy => ?_⟩
    obtain ⟨ex3, same3, d', hd', rd⟩ := j.yld i H2 φ2 m2 v H3 ex pr1 hs2 hw hlt hy
    rw [hd] at hd'
    cases hd'
    have hs3 := hs2.keep ex3 same3
    have q3 := Post.shift (R := RD C) q2 ex3 (List.prefix_refl _)
    refine ⟨d, wipeR ρ own, φ2, ρ3, rd, (RepE.wipes (hρ1.mono ex pr1) own).mono ex3 (List.prefix_refl _), hg3, fun σ4 hρ4 hl4 hk4 => ⟨?_, ?_⟩⟩
    · rw [wipe_ext hl4 fun j hj => hk4 j fun z => hj (hsub j z), wipe_wipe]
    · refine ⟨ρ3, φ2, m2, hρ4, hs3, ?_⟩
      revert q3
      cases tt ρ3 m2 with
      | exc x m4 => exact fun q3 => q3.elim
      | bad => exact fun q3 => q3
      | ok b m4 =>
        cases b with
        | false =>
          intro q3 b5 H5 φ5 e5 p5 r5 s5
          have r5' : false = b5 := r5
          subst r5'
          rw [if_neg Bool.false_ne_true]
          have q3' : Post C W (RD C) σ H3 φ2 (if m4[m1.length]? = some (.lst acc) then lcGo w gt tt elt (wipeR ρ own) m1.length acc (w.ds.drop (i + 1)) m4 else .bad) Q := q3
          split at q3'
          · rename_i hm4
            exact ⟨acc, φ5, m4, by omega, (ex.trans ex3).trans e5, pr.trans p5, s5, hm4, Post.shift (R := RD C) q3' e5 p5⟩
          · exact q3'.elim
        | true =>
          intro q3 b5 H5 φ5 e5 p5 r5 s5
          have r5' : true = b5 := r5
          subst r5'
          rw [if_pos rfl]
          refine ⟨ρ3, φ5, m4, hρ4.mono e5 p5, s5, ?_⟩
          have q4 := Post.shift (R := RD C) q3 e5 p5
          revert q4
          show Post C W (RD C) σ H5 φ5 (match elt ρ3 m4 with
            | .ok y m3 => if m3[m1.length]? = some (.lst acc) then lcGo w gt tt elt (wipeR ρ own) m1.length (acc ++ [y]) (w.ds.drop (i + 1)) (m3.set m1.length (.lst (acc ++ [y]))) else .bad
            | _ => .bad) Q → _
          cases elt ρ3 m4 with
          | exc x m6 => exact fun q4 => q4.elim
          | bad => exact fun q4 => q4
          | ok y m6 =>
            intro q4 v6 H6 φ6 e6 p6 r6 s6
            have q4' : Post C W (RD C) σ H5 φ5 (if m6[m1.length]? = some (.lst acc) then lcGo w gt tt elt (wipeR ρ own) m1.length (acc ++ [y]) (w.ds.drop (i + 1)) (m6.set m1.length (.lst (acc ++ [y]))) else .bad) Q := q4
            split at q4'
            · rename_i hm6
              have hk6 : φ6[m1.length]? = some L := pre_get ((pr.trans p5).trans p6) hkL
              obtain ⟨vs, g1, g2, g3⟩ := s6.lst hk6 hm6
              have hl : acc.length < sizeLine := by omega
              obtain ⟨s7, e7⟩ := s6.set (o := .lst (vs ++ [v6])) (c := .lst (acc ++ [y])) hk6 ⟨by rw [List.length_append]; exact hl, Paired.app g3 (.cons r6 .nil)⟩
              refine ⟨vs, g1, by rw [← Paired.len g3]; exact hl, acc ++ [y], φ6, _, by rw [List.length_append]; exact Nat.succ_le_succ hacc, (((ex.trans ex3).trans e5).trans e6).trans e7, (pr.trans p5).trans p6, s7, ?_, Post.shift (R := RD C) (Post.shift (R := RD C) q4' e6 p6) e7 (List.prefix_refl _)⟩
              have : m1.length < m6.length := by
                rcases Nat.lt_or_ge m1.length m6.length with z | z
                · exact z
                · rw [List.getElem?_eq_none z] at hm6; cases hm6
              rw [List.getElem?_set_self this]
            · exact q4'.elim
  · have he : i = w.ds.length := by omega
    subst he
    rw [List.drop_length] at q2
    unfold lcGo at q2
    split at q2
    · rename_i hw
      exact .inl ⟨j.stop H2 φ2 m2 ex pr1 hs2 hw, q2.here hs2 (.ref (pre_get pr hkL))⟩
    · exact q2.elim
section
variable {X : Cx} {W : WX} {elt tg iter : Expr} {ifs : List Expr} {scope : Scope} {own : List (Str × Nat)} {pos : Pos} {it : IFn} {sl : List Nat} {gt : TgFn} {tt : TFn} {fe : EFn}
theorem ex_lc (own : List (Str × Nat)) (hc : X.calm = true) (hN : X.N.Nodup) (hi : IX X W tg iter it) (ok : BlkOk X.N X.env.scope scope own)
    (hg : ∀ (s : Shared) (H : Hp) (C : Addr) (cl : List (Str × Addr)) (fp : List Addr), GX (X.blk s H scope (compEnvC scope cl C X.env) fp) tg sl gt) (ht : ∀ (s : Shared) (H : Hp) (C : Addr) (cl : List (Str × Addr)) (fp : List Addr), TsX (X.blk s H scope (compEnvC scope cl C X.env) fp) ifs tt)
    (he : ∀ (s : Shared) (H : Hp) (C : Addr) (cl : List (Str × Addr)) (fp : List Addr), EX (X.blk s H scope (compEnvC scope cl C X.env) fp) W0 elt fe) (hsub : ∀ j ∈ sl, j ∈ own.map (·.2) := by decide) (hs : ∀ x, foldedSetIterable iter X.env x = pure x := by intro _; rfl) :
    EX X W (.ListComp elt [⟨tg, iter, ifs, 0⟩] scope pos) (eLc it gt tt fe (own.map (·.2))) := PE.imp (pe_lc (g := gG (ct X) sl gt) (tt := tG (ct X) W0 RB tt) (te := tG (ct X) W0 (RD (ct X)) fe) hc hN hi ok (fun s H C cl fp => hg s H C cl fp) (fun s H C cl fp => ht s H C cl fp) (fun s H C cl fp => he s H C cl fp) hs) fun σ H Q h => tLc_of hsub h
theorem sx_setLc (i : Nat) {y : Str} {py spos : Pos} (own : List (Str × Nat)) (hc : X.calm = true) (hN : X.N.Nodup) (hy : X.N[i]? = some y) (hyl : X.env.scope.names.lookup y = some .local)
    (hsw : swapsWith (.ListComp elt [⟨tg, iter, ifs, 0⟩] scope pos) (some (.Name y py)) spos.line X.env = pure true) (hi : IX X W tg iter it) (ok : BlkOk X.N X.env.scope scope own)
    (hg : ∀ (s : Shared) (H : Hp) (C : Addr) (cl : List (Str × Addr)) (fp : List Addr), GX (X.blk s H scope (compEnvC scope cl C X.env) fp) tg sl gt) (ht : ∀ (s : Shared) (H : Hp) (C : Addr) (cl : List (Str × Addr)) (fp : List Addr), TsX (X.blk s H scope (compEnvC scope cl C X.env) fp) ifs tt)
    (he : ∀ (s : Shared) (H : Hp) (C : Addr) (cl : List (Str × Addr)) (fp : List Addr), EX (X.blk s H scope (compEnvC scope cl C X.env) fp) W0 elt fe) (hsub : ∀ j ∈ sl, j ∈ own.map (·.2) := by decide) (hs : ∀ x, foldedSetIterable iter X.env x = pure x := by intro _; rfl) :
    SX X W (.Assign [.Name y py] (.ListComp elt [⟨tg, iter, ifs, 0⟩] scope pos) spos) (sSet i (eLc it gt tt fe (own.map (·.2)))) :=
  PS.imp (ps_setLc (g := gG (ct X) sl gt) (tt := tG (ct X) W0 RB tt) (te := tG (ct X) W0 (RD (ct X)) fe) hc hN hy hyl hsw hi ok (fun s H C cl fp => hg s H C cl fp) (fun s H C cl fp => ht s H C cl fp) (fun s H C cl fp => he s H C cl fp) hs) fun D σ H ⟨ρ, φ, m, hρ, hs, q⟩ => by
    show tLc _ _ _ _ _ σ H (fun x H1 => gName i x σ H1 D.nx)
    refine tLc_of hsub (bindS hρ hs q fun d m1 v H1 φ1 e p hρ1 hs1 r1 q1 => ?_)
    exact PostS.nx (C := ct X) (W := W) (φ := φ1) (m := m1) q1 (hρ1.set r1) hs1
end
end DL
set_option Elab.async false
set_option linter.all false
set_option maxRecDepth 100000
set_option maxHeartbeats 4000000
/-! DLSort: sorted of plain data, of a list, a tuple, a dict's keys. -/
namespace DL
open PySem PySem.W L2

/-! ### the order -/
noncomputable def dle (a b : D) : Bool := dataLe false D.py a b
noncomputable def D.sort (ds : List D) : List D := ds.mergeSort dle
def tup1 (d : D) : Bool := match d with | .tup (_ :: _) => true | .rot (_ :: _) => true | _ => false
def notTup (d : D) : Bool := match d with | .tup _ => false | .rot _ => false | .non => false | _ => true
/-- what sorted takes: plain data, each like each, all of them tuples of one item or more, or none of them -/
def okSort (ds : List D) : Bool := ds.all D.flat && (ds.all fun d => ds.all fun e => alike d.py e.py) && (ds.all tup1 || ds.all notTup)
theorem pys_map (ds : List D) : D.pys ds = ds.map D.py := by
  induction ds with
  | nil => rfl
  | cons d ds ih => rw [List.map_cons, ← ih]; rfl
theorem okSort_like {ds : List D} (h : okSort ds = true) : AllAlike (ds.map D.py) ∧ Sortable (ds.map D.py) ∧ ∀ d ∈ ds, d.flat = true := by
  unfold okSort at h
  simp only [Bool.and_eq_true, Bool.or_eq_true, List.all_eq_true] at h
  obtain ⟨⟨h1, h2⟩, h3⟩ := h
  refine ⟨fun d hd e he => ?_, ?_, h1⟩
  · obtain ⟨a, ha, rfl⟩ := List.mem_map.mp hd
    obtain ⟨b, hb, rfl⟩ := List.mem_map.mp he
    exact h2 a ha b hb
  · rcases h3 with h3 | h3
    · refine .inl fun d hd => ?_
      obtain ⟨a, ha, rfl⟩ := List.mem_map.mp hd
      have := h3 a ha
      cases a with
      | tup ds => cases ds with
        | nil => cases this
        | cons x r => exact ⟨x.py, D.pys r, by simp [D.py, D.pys]⟩
      | rot ds => cases ds with
        | nil => cases this
        | cons x r => exact ⟨x.py, D.pys r, by simp [D.py, D.pys]⟩
      | _ => cases this
    · refine .inr fun d hd => ?_
      obtain ⟨a, ha, rfl⟩ := List.mem_map.mp hd
      have := h3 a ha
      cases a with
      | tup ds => cases this
      | rot ds => cases this
      | non => cases this
      | exo _ _ _ =>
        have hf := h1 _ ha
        simp [D.flat, D.plain] at hf
      | bl _ => exact ⟨by simp [D.py], fun xs => by simp [D.py]⟩
      | int _ => exact ⟨by simp [D.py], fun xs => by simp [D.py]⟩
      | str _ => exact ⟨by simp [D.py], fun xs => by simp [D.py]⟩
      | rol _ => exact ⟨by simp [D.py], fun xs => by simp [D.py]⟩
      | ref _ => 
        have hf := h1 _ ha
        simp [D.flat, D.plain] at hf
theorem each_zip {α β γ : Type} {R : α → β → Prop} {S : α → γ → Prop} : ∀ {as : List α} {bs : List β} {cs : List γ}, Paired (fun b a => R a b) bs as → Paired (fun c a => S a c) cs as → EachIs (fun a c => ∃ b, R a b ∧ S a c) as cs
  | _, _, _, .nil, .nil => .nil
  | _, _, _, .cons r t, .cons s u => .cons ⟨_, r, s⟩ (each_zip t u)
theorem each_split {α β γ : Type} {R : α → β → Prop} {S : β → γ → Prop} : ∀ {as : List α} {cs : List γ}, EachIs (fun a c => ∃ b, R a b ∧ S b c) as cs → ∃ bs, Paired (fun b a => R a b) bs as ∧ Paired (fun c b => S b c) cs bs
  | _, _, .nil => ⟨[], .nil, .nil⟩
  | _, _, .cons ⟨b, r, s⟩ t => let ⟨bs, h1, h2⟩ := each_split t; ⟨b :: bs, .cons r h1, .cons s h2⟩
theorem each_of {α β γ : Type} {R : β → α → Prop} {S : γ → β → Prop} : ∀ {as : List α} {bs : List β} {cs : List γ}, Paired R bs as → Paired S cs bs → EachIs (fun a c => ∃ b, R b a ∧ S c b) as cs
  | _, _, _, .nil, .nil => .nil
  | _, _, _, .cons r t, .cons s u => .cons ⟨_, r, s⟩ (each_of t u)
section
variable {X : Cx} {pins : List (Addr × Obj)} {σ : L2.St} {H : Hp} {s : Shared} {φ : List Addr}
/-- sorted(u), by what the collecting of u gives -/
theorem sorted_by {u : Value} {ds : List D} {Q : VK} {k : Nat} (hr : Room k X.A) (I : Inv X pins σ H s) (ok : okSort ds = true) (hz : ds.length ≤ sizeLine)
    (hcol : ∀ R : List Value → Shared → Prop, (∀ h' tk vs xs, (∀ b o, s.heap.get? b = some o → h'.get? b = some o) → Vals xs vs → Reps X.K H φ ds xs → R vs { s with heap := h', toks := tk }) → wpAny (model X.prog X.w) X.A.in1 (collect u) R X.xe s)
    (q : ∀ ys p, Reps X.K H φ (D.sort ds) ys → H p = none → Q (.ref p) (upd H p (.lst ys))) : wpAny (model X.prog X.w) X.A (call (.builtin "sorted") [u]) (EP X pins σ Q) X.xe s := by
  obtain ⟨al, so, fl⟩ := okSort_like ok
  refine Calls.call_function_entry PyProof.Rows.kind_sorted PyProof.Rows.plain_sorted PyProof.Rows.entry_sorted (PyProof.Rows.args_sorted1 _) ?_
  unfold Builtin.«sorted»
  refine wpAny_bind (m := checkCount "sorted" 1 1 _) (wpAny_pure ?_)
  refine wpAny_bind (hcol _ fun h' tk vs xs keep rv rd => ?_)
  have I1 : Inv X pins σ H { s with heap := h', toks := tk } := I.kept keep
  have hL : vs.length ≤ sizeLine := by rw [← rv.length, ← Paired.len rd]; exact hz
  refine wpAny_bind (wpAny_newList ?_ hL)
  have hoL : (h'.push (PyProof.Rows.seqObj "list" vs.toArray 0)).get? h'.objs.size = some (PyProof.Rows.seqObj "list" vs.toArray 0) := Heap.get?_push_size _ rfl
  have old : ∀ b o, h'.get? b = some o → (sortingHeap (h'.push (PyProof.Rows.seqObj "list" vs.toArray 0)) h'.objs.size vs).get? b = some o := fun b o e =>
    sortingHeap_old (Nat.ne_of_lt (Heap.lt_size e)) (Heap.get?_push_of_some _ e)
  have rds : EachIs (fun v d => ∃ as, Reads (sortingHeap (h'.push (PyProof.Rows.seqObj "list" vs.toArray 0)) h'.objs.size vs) v d as) vs (ds.map D.py) := by
    have gen : ∀ {g : Heap}, (∀ b o, h'.get? b = some o → g.get? b = some o) → ∀ {ds : List D} {xs : List V} {vs : List Value}, Vals xs vs → Reps X.K H φ ds xs → (∀ d ∈ ds, d.flat = true) → EachIs (fun v d => ∃ as, Reads g v d as) vs (ds.map D.py) := by
      intro g hg ds xs vs rv rd
      induction rd generalizing vs with
      | nil => intro _; cases rv; exact .nil
      | @cons d x ds xs r t ih =>
        intro hf
        cases rv with
        | cons rv1 rv2 =>
          rw [List.map_cons]
          obtain ⟨as, ra⟩ := Dp.reads I1 d.py x _ (r.shaped (hf d List.mem_cons_self)).1 rv1
          exact .cons ⟨as, PyProof.Rows.Reads.keeps hg ra⟩ (ih rv2 fun e he => hf e (List.mem_cons_of_mem _ he))
    exact gen old rv rd fl
  have S : SortsAt X.prog X.w X.A.in1.in1 { s with heap := sortingHeap (h'.push (PyProof.Rows.seqObj "list" vs.toArray 0)) h'.objs.size vs, toks := tk } (dataKind (sortingHeap (h'.push (PyProof.Rows.seqObj "list" vs.toArray 0)) h'.objs.size vs) (ds.map D.py)) vs :=
    SortsAt.data rds al so fun d hd => by
      obtain ⟨e, he, rfl⟩ := List.mem_map.mp hd
      have hf := fl e he
      unfold D.flat at hf
      have h64 := of_decide_eq_true (Bool.and_eq_true_iff.mp hf).2
      have := hr.un
      show X.A.in1.in1.units + _ < _
      have e1 : X.A.in1.in1.units = X.A.units + 2 := rfl
      rw [e1]; omega
  show wpAny _ _ _ _ _ { s with heap := h'.push (PyProof.Rows.seqObj "list" vs.toArray 0), toks := tk }
  refine wpAny_bind (wpAny_holding (wpAny_call_entry PyProof.Rows.slot_list_sort ⟨_, hoL, rfl⟩ PyProof.Rows.entry_list_sort
    (list_sort_vals (s := { s with heap := h'.push (PyProof.Rows.seqObj "list" vs.toArray 0), toks := tk }) hoL S hL ⟨_, rfl, ?_⟩) (PyProof.Rows.args_list_sort _)))
  obtain ⟨e', he'⟩ := PyProof.Rows.sortedHeap_at (vs := vs) (out := (sortVals (dataKind (sortingHeap (h'.push (PyProof.Rows.seqObj "list" vs.toArray 0)) h'.objs.size vs) (ds.map D.py)) false vs vs).toArray) hoL
  have out := sortVals_each (κ := dataKind (sortingHeap (h'.push (PyProof.Rows.seqObj "list" vs.toArray 0)) h'.objs.size vs) (ds.map D.py)) (rev := false) (fun d : D => keyToks d.py) (each_of (R := RelV) (S := Rep X.K H φ) rv rd) (each_of_map D.py (each_keys al rds))
  obtain ⟨ys, y1, y2⟩ := each_split (R := fun v x => RelV x v) (S := fun x d => Rep X.K H φ d x) out
  have hlen : ys.length ≤ sizeLine := by
    rw [← Paired.len y2, (List.mergeSort_perm _ _).length_eq]; exact hz
  refine wpAny_pure ⟨_, rfl, .ref h'.objs.size, upd H h'.objs.size (.lst ys), I1.laid (t' := tk) (fun b o e => ?_) (Nat.le_refl _) ⟨hlen, _, e', y1, he'⟩, rfl, q ys _ y2 (I1.hok.fresh (Nat.le_refl _))⟩
  have hb : b < h'.objs.size := Heap.lt_size e
  rw [PyProof.Rows.sortedHeap_old (Nat.ne_of_lt hb) (by rw [Heap.size_push]; exact Nat.lt_succ_of_lt hb)]
  exact Heap.get?_push_of_some _ e
theorem col_list {R : List Value → Shared → Prop} {E : Value → Shared → Prop} {l : Addr} {xs : List V} {A : Around} (I : Inv X pins σ H s) (hl : SqL X.K H l xs) (h : ∀ h' tk vs, (∀ b o, s.heap.get? b = some o → h'.get? b = some o) → Vals xs vs → R vs { s with heap := h', toks := tk }) :
    wpAny (model X.prog X.w) A (collect (.ref l)) R E s := by
  obtain ⟨vs, rv, p, hz⟩ := I.list hl
  refine PyProof.Rows.collect_list p.isList (h _ s.toks vs (fun b o e => ?_) rv) (by rw [← rv.length]; exact hz)
  rw [Heap.get?_update_ne _ _ _ _ (Nat.ne_of_lt (Heap.lt_size e))]
  exact Heap.get?_push_of_some _ e
/-- as the library's collect_list, of a tuple -/
theorem col_tup {R : List Value → Shared → Prop} {E : Value → Shared → Prop} {l : Addr} {xs : List V} {A : Around} (I : Inv X pins σ H s) (hl : SqT X.K H l xs) (h : ∀ h' tk vs, (∀ b o, s.heap.get? b = some o → h'.get? b = some o) → Vals xs vs → R vs { s with heap := h', toks := tk }) :
    wpAny (model X.prog X.w) A (collect (.ref l)) R E s := by
  obtain ⟨vs, rv, ht, hz⟩ := I.tuple hl
  have hz' : vs.length ≤ sizeLine := by rw [← rv.length]; exact hz
  obtain ⟨o, ho, hc, n, hd⟩ := id ht
  have done := h ((s.heap.push (PyProof.Rows.seqObj "list" #[] 0)).update s.heap.objs.size (Obj.mapSeq (· ++ vs.toArray))) s.toks vs (fun b ob e => by
    rw [Heap.get?_update_ne _ _ _ _ (Nat.ne_of_lt (Heap.lt_size e))]
    exact Heap.get?_push_of_some _ e) rv
  have ho' : (s.heap.push (PyProof.Rows.seqObj "list" #[] 0)).get? l = some o := Heap.get?_push_of_some _ ho
  have hn : (s.heap.push (PyProof.Rows.seqObj "list" #[] 0)).get? s.heap.objs.size = some (PyProof.Rows.seqObj "list" #[] 0) := Heap.get?_push_size _ rfl
  unfold collect
  refine wpAny_bind (wpAny_runValue (codeAny_builtin PyProof.Rows.entry_proto_collect' ?_))
  show wpAny _ _ (newList [] >>= fun e => again (.builtin "list.__iadd__" ⟨[e, .ref l], []⟩)) _ _ s
  refine wpAny_bind (wpAny_newList (wpAny_pure ⟨Code.quiet_builtin _ (by decide +kernel), codeAny_builtin PyProof.Rows.entry_list_iadd' ?_⟩))
  show wpAny _ _ (Builtin.List.listExtendWith (.ref s.heap.objs.size) (.ref l) (.ref s.heap.objs.size)) _ _ { s with heap := s.heap.push (PyProof.Rows.seqObj "list" #[] 0) }
  unfold Builtin.List.listExtendWith
  refine wpAny_bind (wpAny_typeOf (T := "tuple") ⟨o, ho', hc⟩ ?_)
  have htt : (Value.type "tuple" == Value.type "tuple") = true := by rfl
  rw [if_pos (by rw [htt]; simp)]
  refine wpAny_bind (PyProof.Rows.listItems_at ho' hd ?_)
  refine wpAny_bind (PyProof.Rows.listItems_at hn rfl ?_)
  rw [if_neg (by simp)]
  refine wpAny_bind (PyProof.Rows.listUpdate_at hn rfl ?_ (Nat.zero_le _) (by show (#[] ++ vs.toArray).size ≤ sizeLine + 1; simp only [Array.size_append, List.size_toArray, List.length_nil]; omega))
  refine wpAny_pure ?_
  have hu := PyProof.Rows.get?_update_seq hn (fun x => x ++ vs.toArray)
  refine wpAny_bind (wpAny_load hu ?_)
  have e2 : ((#[] : Array Value) ++ vs.toArray).toList = vs := by simp
  have fin : wpAny (model X.prog X.w) A (pure ((#[] : Array Value) ++ vs.toArray).toList) R E { s with heap := (s.heap.push (PyProof.Rows.seqObj "list" #[] 0)).update s.heap.objs.size (Obj.mapSeq (· ++ vs.toArray)) } := by
    rw [e2]; exact wpAny_pure done
  exact fin
/-- as the library's call_list_dT reads a dict's entries -/
theorem col_dT {R : List Value → Shared → Prop} {E : Value → Shared → Prop} {d : Addr} {kvs : List (List Key × V)} {A : Around} (hh : A.handled = none) (I : Inv X pins σ H s) (hd : Rd H d (.dT kvs))
    (h : ∀ h' tk vs bs, (∀ b o, s.heap.get? b = some o → h'.get? b = some o) → IsKeys H kvs bs → Vals (bs.map V.ref) vs → R vs { s with heap := h', toks := tk }) : wpAny (model X.prog X.w) A (collect (.ref d)) R E s := by
  obtain ⟨z, hs, ks, pr, o, es, ep, ho, hx, hdt, he, hn⟩ := (show ObjOk X.prog X.w H s.heap d (.dT kvs) from hd.ok I.hok)
  have l1 : es.size = ks.length := size_of_entries he
  have l2 : kvs.length = ks.length := Paired.len pr
  refine PySem.W.kdu_collect (kdl_raw hs hx hdt) hh ho (by omega) fun h' tk acc kp it => h h' tk acc.toList (ks.map fun x => x.2.1) kp (isKeys_of pr) ?_
  have ea : acc.toList = (ks.map fun x => x.2.1).map Value.ref := by
    have hl : acc.toList.length = ks.length := by rw [Array.length_toList, it.1]; exact l1
    refine List.ext_getElem? fun j => ?_
    rw [List.getElem?_map, List.getElem?_map]
    cases hj : acc.toList[j]? with
    | none =>
      have h1 := List.getElem?_eq_none_iff.mp hj
      rw [List.getElem?_eq_none (by omega)]; rfl
    | some v =>
      obtain ⟨en, hen, hv⟩ := it.2 j v (by rw [← Array.getElem?_toList]; exact hj)
      have qe := entry_at he j
      rw [hen] at qe
      cases hb : ks[j]? with
      | none => rw [hb] at qe; cases qe
      | some b =>
        rw [hb] at qe
        have e2 : en = entryOfKey (tupleKind (mixKind X.prog X.w)) b := Option.some.inj qe
        rw [hv, e2]; rfl
  rw [ea]
  exact vals_refs _
theorem col_dK {R : List Value → Shared → Prop} {E : Value → Shared → Prop} {d : Addr} {kvs : List (Key × V)} {A : Around} (hh : A.handled = none) (I : Inv X pins σ H s) (hd : Rd H d (.dK kvs))
    (h : ∀ h' tk vs, (∀ b o, s.heap.get? b = some o → h'.get? b = some o) → Vals (kvs.map fun p => kV p.1) vs → R vs { s with heap := h', toks := tk }) : wpAny (model X.prog X.w) A (collect (.ref d)) R E s := by
  obtain ⟨z, lo, vs, rel, dd⟩ := dk_rd I.hok hd
  obtain ⟨ep, hat⟩ := dd.dictAt
  have hlen : kvs.length = vs.length := Paired.len rel
  refine PySem.W.kdu_collect (PySem.W.kdl_dict (knd := mixKind X.prog X.w) (kvs := vs) (ep := ep) lo) hh hat (by omega) fun h' tk acc hk hacc => h h' tk acc.toList hk ?_
  have hl2 : acc.toList.length = vs.length := by rw [Array.length_toList]; exact hacc.1
  refine vals_of_at (by rw [List.length_map, hl2, hlen]) fun j x u hx hu => ?_
  obtain ⟨k, y, e1, e2⟩ := hacc.2 j u (by rw [← Array.getElem?_toList]; exact hu)
  rw [List.getElem?_map] at hx
  cases hp : kvs[j]? with
  | none => rw [hp] at hx; cases hx
  | some p =>
    rw [hp] at hx
    have ex : kV p.1 = x := Option.some.inj hx
    obtain ⟨q, hq, r⟩ := Paired.get rel hp
    rw [e1] at hq
    cases hq
    rw [← ex, r.1]
    exact keyIs_rel e2
end
/-- sorted(..) of a list, a tuple, a dict's keys -/
def rSrt (K : Fg) : List V → Hp → VK → Prop := fun vs H Q => ∃ φ ds, okSort ds = true ∧ ds.length ≤ sizeLine ∧ (∀ ys p, Reps K H φ (D.sort ds) ys → H p = none → Q (.ref p) (upd H p (.lst ys))) ∧ ∃ a, vs = [.ref a] ∧
  ((∃ xs, SqL K H a xs ∧ Reps K H φ ds xs) ∨ (∃ xs, SqT K H a xs ∧ Reps K H φ ds xs) ∨ (∃ kvs, Rd H a (.dK kvs) ∧ Reps K H φ ds (kvs.map fun p => kV p.1)) ∨ ∃ kvs, Rd H a (.dT kvs) ∧ ∀ bs, IsKeys H kvs bs → Reps K H φ ds (bs.map V.ref))
def tupK (k : List Key) : D := .tup (k.map kD)
noncomputable def gSort (d : D) (m : Mem) : Out D :=
  let go := fun ds => if okSort ds = true then Out.ok (.ref m.length) (m ++ [.lst (D.sort ds)]) else .bad
  match d with
  | .tup ds => go ds
  | .rot ds => go ds
  | .rol ds => go ds
  | .ref k => match m[k]? with
    | some (.lst ds) => go ds
    | some (.dK kvs) => go (kvs.map fun p => kD p.1)
    | some (.dT kvs) => if kvs.all (fun p => decide (p.1.length ≤ 1000)) = true then go (kvs.map fun p => tupK p.1) else .bad
    | _ => .bad
  | _ => .bad
theorem keys_rep {K : Fg} {H : Hp} {φ : List Addr} : ∀ {kvs : List (Key × D)} {kvs' : List (Key × V)}, RepK K H φ kvs kvs' → (∀ p ∈ kvs, KFit p.1) → Reps K H φ (kvs.map fun p => kD p.1) (kvs'.map fun p => kV p.1)
  | [], _, .nil, _ => .nil
  | p :: r, q :: r', .cons h t, f => by
    rw [List.map_cons, List.map_cons, ← h.1]
    exact .cons (kD_rep (f p List.mem_cons_self)) (keys_rep t fun z hz => f z (List.mem_cons_of_mem _ hz))
theorem tkeys_rep {K : Fg} {H : Hp} {φ : List Addr} : ∀ {kvs : List (List Key × D)} {kvs' : List (List Key × V)} {bs : List Addr}, RepK K H φ kvs kvs' → IsKeys H kvs' bs → (∀ p ∈ kvs, ∀ k ∈ p.1, KFit k) → (∀ p ∈ kvs, p.1.length ≤ 1000) → Reps K H φ (kvs.map fun p => tupK p.1) (bs.map V.ref)
  | [], _, _, .nil, .nil, _, _ => .nil
  | p :: r, q :: r', b :: bs, .cons h t, .cons g u, f, l => by
    rw [List.map_cons, List.map_cons]
    refine .cons (.tup (by rw [List.length_map]; exact le1000 (l p List.mem_cons_self)) (by rw [h.1]; exact g) (kDs_rep (f p List.mem_cons_self))) (tkeys_rep t u (fun z hz => f z (List.mem_cons_of_mem _ hz)) fun z hz => l z (List.mem_cons_of_mem _ hz))
section
variable {X : Cx}
theorem call_srt {k : Nat} (hc : X.calm = true) (hr : Room k X.A) : CallR X (.builtin "sorted") (rSrt X.K) := by
  intro pins s σ H vs us Q I r h
  obtain ⟨φ, ds, ok, hz, q, a, rfl, hsrc⟩ := h
  obtain ⟨u, rfl, ru⟩ := vals1 r
  obtain rfl : u = Value.ref a := ru
  refine sorted_by (φ := φ) hr I ok hz (fun R hR => ?_) q
  have hh : X.A.in1.handled = none := I.ok.hd hc
  rcases hsrc with ⟨xs, h1, h2⟩ | ⟨xs, h1, h2⟩ | ⟨kvs, h1, h2⟩ | ⟨kvs, h1, h2⟩
  · exact col_list I h1 fun h' tk vs kp rv => hR h' tk vs xs kp rv h2
  · exact col_tup I h1 fun h' tk vs kp rv => hR h' tk vs xs kp rv h2
  · exact col_dK hh I h1 fun h' tk vs kp rv => hR h' tk vs _ kp rv h2
  · exact col_dT hh I h1 fun h' tk vs bs kp hb rv => hR h' tk vs _ kp rv (h2 bs hb)
theorem bSorted {k : Nat} (hc : X.calm = true) (hr : Room k X.A) : Bn X "sorted" (.builtin "sorted") (on1 gSort) := ⟨_, call_srt hc hr, by
  intro W σ H φ m ds vs Q hs r q
  obtain ⟨d, v, rfl, rfl, r, q⟩ := one_of r q
  have fin : ∀ {ds : List D}, ds.length ≤ sizeLine → Post (ct X) W (RD (ct X)) σ H φ (if okSort ds = true then Out.ok (.ref m.length) (m ++ [.lst (D.sort ds)]) else .bad) Q → okSort ds = true ∧ ∀ ys p, Reps X.K H φ (D.sort ds) ys → H p = none → Q (.ref p) (upd H p (.lst ys)) := by
    intro ds hl q
    split at q
    · rename_i h
      exact ⟨h, fun ys p ry hp => q.newLst hs (by unfold D.sort; rw [(List.mergeSort_perm _ _).length_eq]; exact hl) ry p hp⟩
    · exact q.elim
  cases r with
  | non => exact (show False from q).elim
  | exo _ => exact (show False from q).elim
  | bl _ => exact (show False from q).elim
  | int _ => exact (show False from q).elim
  | str _ _ => exact (show False from q).elim
  | @tup ds a vs h1 h2 h3 =>
    obtain ⟨ok, q'⟩ := fin h1 q
    exact ⟨φ, ds, ok, h1, q', a, rfl, .inr (.inl ⟨vs, SqT.of h2, h3⟩)⟩
  | @rot ds a vs h1 h2 h3 =>
    obtain ⟨ok, q'⟩ := fin h1 q
    exact ⟨φ, ds, ok, h1, q', a, rfl, .inr (.inl ⟨vs, h2, h3⟩)⟩
  | @rol ds a vs h1 h2 h3 =>
    obtain ⟨ok, q'⟩ := fin h1 q
    exact ⟨φ, ds, ok, h1, q', a, rfl, .inl ⟨vs, h2.sq, h3⟩⟩
  | @ref k a hk =>
    have q1 : Post (ct X) W (RD (ct X)) σ H φ (match m[k]? with
      | some (.lst ds) => if okSort ds = true then Out.ok (.ref m.length) (m ++ [.lst (D.sort ds)]) else .bad
      | some (.dK kvs) => if okSort (kvs.map fun p => kD p.1) = true then Out.ok (.ref m.length) (m ++ [.lst (D.sort (kvs.map fun p => kD p.1))]) else .bad
      | some (.dT kvs) => if kvs.all (fun p => decide (p.1.length ≤ 1000)) = true then (if okSort (kvs.map fun p => tupK p.1) = true then Out.ok (.ref m.length) (m ++ [.lst (D.sort (kvs.map fun p => tupK p.1))]) else .bad) else .bad
      | _ => .bad) Q := q
    split at q1
    · rename_i ds hm
      obtain ⟨vs, g1, g2, g3⟩ := hs.lst hk hm
      obtain ⟨ok, q'⟩ := fin g2 q1
      exact ⟨φ, ds, ok, g2, q', a, rfl, .inl ⟨vs, SqL.of g1, g3⟩⟩
    · rename_i kvs hm
      obtain ⟨vs, g1, g2, g3⟩ := hs.dk hk hm
      obtain ⟨ok, q'⟩ := fin (by rw [List.length_map]; exact g2.1) q1
      exact ⟨φ, _, ok, by rw [List.length_map]; exact g2.1, q', a, rfl, .inr (.inr (.inl ⟨vs, .inl g1, keys_rep g3 g2.2⟩))⟩
    · rename_i kvs hm
      obtain ⟨vs, g1, g2, g3⟩ := hs.dt hk hm
      split at q1
      · rename_i hl
        obtain ⟨ok, q'⟩ := fin (by rw [List.length_map]; exact g2.1) q1
        exact ⟨φ, _, ok, by rw [List.length_map]; exact g2.1, q', a, rfl, .inr (.inr (.inr ⟨vs, .inl g1, fun bs hb => tkeys_rep g3 hb g2.2 fun p hp => of_decide_eq_true (List.all_eq_true.mp hl p hp)⟩))⟩
      · exact q1.elim
    · exact q1.elim⟩
end
end DL
set_option Elab.async false
set_option linter.all false
set_option maxRecDepth 100000
set_option maxHeartbeats 4000000
/-! DLDict: new dicts, displays; enumerate; sorted(set(ints)); is of truths. -/
namespace DL
open PySem L2

section
variable {X : Cx} {W : WX} {e : Expr} {es : List Expr} {pos : Pos}
/-! ### {} -/
def eDictK : EFn := fun _ m => .ok (.ref m.length) (m ++ [.dK []])
def eDictT : EFn := fun _ m => .ok (.ref m.length) (m ++ [.dT []])
theorem ex_dictK : EX X W (.Dict [] [] pos) eDictK := PE.imp pe_dnewK fun σ H Q ⟨ρ, φ, m, hρ, hs, q⟩ => fun p hp => by
  have q' : Post (ct X) W (RD (ct X)) σ H φ (.ok (.ref m.length) (m ++ [.dK []])) Q := q
  exact q'.at (Ext.new hp) ⟨_, rfl⟩ (hs.new (c := .dK []) hp ⟨⟨Nat.zero_le _, (fun _ z => nomatch z)⟩, .nil⟩) (.ref (by rw [← hs.len]; simp))
theorem ex_dictT : EX X W (.Dict [] [] pos) eDictT := PE.imp pe_dnewT fun σ H Q ⟨ρ, φ, m, hρ, hs, q⟩ => fun p hp => by
  have q' : Post (ct X) W (RD (ct X)) σ H φ (.ok (.ref m.length) (m ++ [.dT []])) Q := q
  exact q'.at (Ext.new hp) ⟨_, rfl⟩ (hs.new (c := .dT []) hp ⟨⟨Nat.zero_le _, (fun _ z => nomatch z)⟩, .nil⟩) (.ref (by rw [← hs.len]; simp))
/-! ### a display with written keys -/
def mkKvs : List Key → List D → List (Key × D) → Option (List (Key × D))
  | [], [], acc => some acc
  | k :: ks, d :: ds, acc => mkKvs ks ds (putD acc k d)
  | _, _, _ => none
end
/-- the pairs of a display: keys, values by turns -/
abbrev PrFn := Rho → Mem → Out (List (Key × D))
def prNil : PrFn := fun _ m => .ok [] m
def prCons (f g : EFn) (r : PrFn) : PrFn := fun ρ m => (f ρ m).bind fun k m1 => (g ρ m1).bind fun d m2 => (r ρ m2).bind fun l m3 => match keyOf k with
  | some z => .ok ((z, d) :: l) m3
  | none => .bad
def RP (C : Ct) : Hp → List Addr → List (Key × D) → List (V × V) → Prop := fun H φ l ps => (∀ p ∈ l, KFit p.1) ∧ ∃ kvs : List (Key × V), ps = kvs.map (fun kv => (kV kv.1, kv.2)) ∧ RepK C.K H φ l kvs
def tPr (C : Ct) (W : WX) (f : PrFn) : L2.St → Hp → (List (V × V) → Hp → Prop) → Prop := tG C W (RP C) f
/-- a display's pairs and their reading -/
def PX (X : Cx) (W : WX) (pos : Pos) (ks : List (Option Expr)) (vs : List Expr) (f : PrFn) : Prop := ∃ trs, PPs X pos ks vs trs ∧ ∀ σ H Q, tPr (ct X) W f σ H Q → tPairs trs σ H Q
section
variable {X : Cx} {W : WX} {e : Expr} {es : List Expr} {pos : Pos}
theorem px_nil : PX X W pos [] [] prNil := ⟨[], pps_nil, fun σ H Q ⟨ρ, φ, m, hρ, hs, q⟩ => Post.here (C := ct X) (W := W) (R := RP (ct X)) (σ := σ) (φ := φ) (d := []) (m := m) q hs ⟨(fun _ z => nomatch z), [], rfl, .nil⟩⟩
theorem px_cons {k v : Expr} {ks : List (Option Expr)} {vs : List Expr} {f g : EFn} {r : PrFn} (hk : EX X W k f) (hv : EX X W v g) (hr : PX X W pos ks vs r) : PX X W pos (some k :: ks) (v :: vs) (prCons f g r) := by
  obtain ⟨trs, h1, h2⟩ := hr
  refine ⟨_, pps_cons hk hv h1, fun σ H Q ⟨ρ, φ, m, hρ, hs, q⟩ => ?_⟩
  refine bindG hρ hs q fun d m1 x H1 φ1 e1 p1 hρ1 hs1 r1 q1 => ?_
  refine bindG hρ1 hs1 q1 fun d2 m2 y H2 φ2 e2 p2 hρ2 hs2 r2 q2 => ?_
  refine h2 σ H2 _ (bindG hρ2 hs2 q2 fun l m3 ps H3 φ3 e3 p3 hρ3 hs3 r3 q3 => ?_)
  obtain ⟨l1, kvs, rfl, l2⟩ := r3
  have q' : Post (ct X) W (RP (ct X)) σ H3 φ3 (match keyOf d with | some z => .ok ((z, d2) :: l) m3 | none => .bad) Q := q3
  split at q'
  · rename_i z hz
    obtain ⟨f1, f2, f3⟩ := keyOf_rep r1 hz
    exact q'.here hs3 ⟨fun p hp => by rcases List.mem_cons.mp hp with h | h; rw [h]; exact f2; exact l1 p h, (z, y) :: kvs, by rw [f1]; rfl, .cons ⟨rfl, r2.mono e3 p3⟩ l2⟩
  · exact q'.elim
def putAll (l : List (Key × D)) : List (Key × D) := l.foldl (fun acc p => putD acc p.1 p.2) []
open Classical in
noncomputable def eDisp (f : PrFn) : EFn := fun ρ m => (f ρ (m ++ [.dK []])).bind fun l m1 => if m1[m.length]? = some (.dK []) ∧ l.length ≤ 15 then .ok (.ref m.length) (m1.set m.length (.dK (putAll l))) else .bad
theorem putAll_rep {K : Fg} {H : Hp} {φ : List Addr} : ∀ {l : List (Key × D)} {kvs : List (Key × V)} {acc : List (Key × D)} {acc' : List (Key × V)}, RepK K H φ l kvs → RepK K H φ acc acc' →
    RepK K H φ (l.foldl (fun acc p => putD acc p.1 p.2) acc) (mergeK acc' kvs)
  | [], _, _, _, .nil, h => h
  | p :: l, q :: kvs, acc, acc', .cons r t, h => by
    show RepK K H φ (l.foldl _ (putD acc p.1 p.2)) (mergeK (putK acc' q.1 q.2) kvs)
    refine putAll_rep t ?_
    rw [← r.1]
    exact putD_rep r.2 h
theorem putAll_fit : ∀ {l acc : List (Key × D)}, (∀ p ∈ l, KFit p.1) → (∀ p ∈ acc, KFit p.1) → ∀ p ∈ l.foldl (fun acc p => putD acc p.1 p.2) acc, KFit p.1
  | [], _, _, h => h
  | q :: l, acc, hl, h => by
    refine putAll_fit (l := l) (fun p hp => hl p (List.mem_cons_of_mem _ hp)) fun p hp => ?_
    rcases putD_mem hp with e | ⟨z, hz, e⟩
    · rw [e]; exact hl q List.mem_cons_self
    · rw [← e]; exact h z hz
theorem putAll_len : ∀ {l acc : List (Key × D)}, (l.foldl (fun acc p => putD acc p.1 p.2) acc).length ≤ acc.length + l.length
  | [], _ => Nat.le_refl _
  | q :: l, acc => by
    have h1 := putAll_len (l := l) (acc := putD acc q.1 q.2)
    have h2 := putD_len acc q.1 q.2
    show (l.foldl _ (putD acc q.1 q.2)).length ≤ _
    rw [List.length_cons]; omega
open Classical in
theorem ex_disp {ks : List (Option Expr)} {vs : List Expr} {f : PrFn} (h : PX X W pos ks vs f) (hall : ks.all (·.isSome) = true := by rfl) (hl : ks.length = vs.length := by rfl) (h0 : ks ≠ [] := by exact List.cons_ne_nil _ _) (h15 : ks.length ≤ 15 := by decide) : EX X W (.Dict ks vs pos) (eDisp f) := by
  obtain ⟨trs, h1, h2⟩ := h
  refine PE.imp (pe_disp h1 hall hl h0 h15) fun σ H Q ⟨ρ, φ, m, hρ, hs, q⟩ => fun p hp => ?_
  have e0 : Ext (ct X).K H (upd H p (.dK [])) := Ext.new hp
  have hs0 : Sim (ct X) (upd H p (.dK [])) (φ ++ [p]) (m ++ [.dK []]) := hs.new (c := .dK []) hp ⟨⟨Nat.zero_le _, (fun _ z => nomatch z)⟩, .nil⟩
  have hk : (φ ++ [p])[m.length]? = some p := by rw [← hs.len]; simp
  have hρ0 := hρ.mono e0 (φ' := φ ++ [p]) ⟨_, rfl⟩
  refine h2 σ _ _ (bindG (W := W) (R' := RD (ct X)) (Q := Q) hρ0 hs0 (Post.shift (R := RD (ct X)) q e0 ⟨_, rfl⟩) fun l m1 ps H1 φ1 e1 p1 hρ1 hs1 r1 q1 => ?_)
  obtain ⟨l1, kvs, rfl, l2⟩ := r1
  have q' : Post (ct X) W (RD (ct X)) σ H1 φ1 (if m1[m.length]? = some (.dK []) ∧ l.length ≤ 15 then .ok (.ref m.length) (m1.set m.length (.dK (putAll l))) else .bad) Q := q1
  split at q'
  · rename_i hc
    have hk1 : φ1[m.length]? = some p := pre_get p1 hk
    obtain ⟨kv0, g1, g2, g3⟩ := hs1.dk hk1 hc.1
    cases g3
    refine ⟨g1, kvs, rfl, by rw [← Paired.len l2]; exact hc.2, ?_⟩
    obtain ⟨s2, e2⟩ := hs1.set (o := .dK (mergeK [] kvs)) (c := .dK (putAll l)) hk1 ⟨⟨by
      have := putAll_len (l := l) (acc := [])
      have h3 := hc.2
      unfold putAll
      rw [sizeLine_eq]
      simp at this; omega, putAll_fit l1 fun _ z => nomatch z⟩, putAll_rep l2 .nil⟩
    exact q'.at e2 (List.prefix_refl _) s2 (.ref hk1)
  · exact q'.elim

/-! ### sorted(set(e)), ints of a tuple -/
def intsOf : List D → Option (List Int)
  | [] => some []
  | d :: ds => match d, intsOf ds with
    | .int i, some l => some (i :: l)
    | _, _ => none
def insI (i : Int) : List Int → List Int
  | [] => [i]
  | j :: r => if i < j then i :: j :: r else if i = j then j :: r else j :: insI i r
/-- ascending, each once -/
def upI (l : List Int) : List Int := l.foldr insI []
theorem insI_mem {i k : Int} : ∀ {l : List Int}, k ∈ insI i l ↔ k = i ∨ k ∈ l
  | [] => by simp [insI]
  | j :: r => by
    unfold insI
    split
    · simp
    · split
      · rename_i h; subst h; simp
      · simp only [List.mem_cons, insI_mem (l := r)]
        constructor
        · rintro (h | h | h)
          · exact .inr (.inl h)
          · exact .inl h
          · exact .inr (.inr h)
        · rintro (h | h | h)
          · exact .inr (.inl h)
          · exact .inl h
          · exact .inr (.inr h)
theorem insI_up {i : Int} : ∀ {l : List Int}, l.Pairwise (· < ·) → (insI i l).Pairwise (· < ·)
  | [], _ => by simp [insI]
  | j :: r, h => by
    obtain ⟨h1, h2⟩ := List.pairwise_cons.mp h
    unfold insI
    split
    · rename_i hl
      exact List.pairwise_cons.mpr ⟨fun k hk => by rcases List.mem_cons.mp hk with e | e; rw [e]; exact hl; exact Int.lt_trans hl (h1 k e), h⟩
    · split
      · exact h
      · rename_i h3 h4
        refine List.pairwise_cons.mpr ⟨fun k hk => ?_, insI_up h2⟩
        rcases insI_mem.mp hk with e | e
        · rw [e]; omega
        · exact h1 k e
theorem upI_mem {k : Int} : ∀ {l : List Int}, k ∈ upI l ↔ k ∈ l
  | [] => by simp [upI]
  | j :: r => by
    show k ∈ insI j (upI r) ↔ _
    rw [insI_mem, upI_mem (l := r), List.mem_cons]
theorem upI_up : ∀ {l : List Int}, (upI l).Pairwise (· < ·)
  | [] => .nil
  | j :: r => insI_up (upI_up (l := r))
theorem up_uniq : ∀ {l m : List Int}, l.Pairwise (· < ·) → m.Pairwise (· < ·) → (∀ k, k ∈ l ↔ k ∈ m) → l = m
  | [], [], _, _, _ => rfl
  | [], b :: m, _, _, h => absurd ((h b).mpr List.mem_cons_self) (by simp)
  | a :: l, [], _, _, h => absurd ((h a).mp List.mem_cons_self) (by simp)
  | a :: l, b :: m, h1, h2, h => by
    obtain ⟨a1, a2⟩ := List.pairwise_cons.mp h1
    obtain ⟨b1, b2⟩ := List.pairwise_cons.mp h2
    have e : a = b := by
      rcases List.mem_cons.mp ((h a).mp List.mem_cons_self) with z | z
      · exact z
      · rcases List.mem_cons.mp ((h b).mpr List.mem_cons_self) with y | y
        · exact y.symm
        · have := a1 b y; have := b1 a z; omega
    subst e
    rw [up_uniq a2 b2 fun k => ⟨fun hk => ?_, fun hk => ?_⟩]
    · rcases List.mem_cons.mp ((h k).mp (List.mem_cons_of_mem _ hk)) with z | z
      · have := a1 k hk; omega
      · exact z
    · rcases List.mem_cons.mp ((h k).mpr (List.mem_cons_of_mem _ hk)) with z | z
      · have := b1 k hk; omega
      · exact z
theorem intsOf_rep {K : Fg} {H : Hp} {φ : List Addr} : ∀ {ds : List D} {vs : List V} {l : List Int}, Reps K H φ ds vs → intsOf ds = some l → vs = l.map V.int ∧ ds = l.map D.int
  | [], _, l, .nil, h => by cases h; exact ⟨rfl, rfl⟩
  | d :: ds, _, l, .cons r t, h => by
    unfold intsOf at h
    split at h
    · rename_i i l' e1
      cases h
      cases r
      obtain ⟨h1, h2⟩ := intsOf_rep t e1
      exact ⟨by rw [h1]; rfl, by rw [h2]; rfl⟩
    · cases h
def gSS (d : D) (m : Mem) : Out D := match d with
  | .tup ds => match intsOf ds with
    | some l => if l.length < 64 then .ok (.ref m.length) (m ++ [.lst ((upI l).map D.int)]) else .bad
    | none => .bad
  | _ => .bad
def rSetI (K : Fg) (w : World) : List V → Hp → VK → Prop := fun vs H Q => ∃ (a : Addr) (ns : List Int), vs = [V.ref a] ∧ SqT K H a (ns.map V.int) ∧ ns.length ≤ 1000 ∧ ∀ p c, H p = none → c ≤ ns.length → Q (.ref p) (upd H p (SetO w p (fun j => decide (j ∈ ns)) c))
theorem cr_setI (hc : X.calm = true) : CallR X (.type "set") (rSetI X.K X.w) := by
  intro pins s σ H vs us Q I r h
  obtain ⟨a, ns, rfl, hs, hl, q⟩ := h
  obtain ⟨u, rfl, ru⟩ := vals1 r
  obtain rfl : u = Value.ref a := ru
  obtain ⟨its, rv, ht, hz⟩ := I.tuple hs
  refine call_set_tupI ns (I.ok.hd hc) (show s.heap.IsTuple a its.toArray from ht) (by simpa using rv.ints) (by show ns.length + 1 < 4096; omega) fun h' tk c hr hc' hk => ?_
  exact ⟨.ref _, _, I.laid (t' := tk) hk (Nat.le_refl _) (setO_new hr), rfl, q _ c (I.hok.fresh (Nat.le_refl _)) hc'⟩
theorem ex_sortedSet {f : EFn} {p1 p2 pos2 : Pos} (hc : X.calm = true) (hg : Gl X "sorted") (hm : X.mg "sorted" = none) (hg2 : Gl X "set") (hm2 : X.mg "set" = none) (he : EX X W e f)
    (hs : starEach [e] X.env = (false, eval e X.env) :: starEach [] X.env := by rfl) (hp : (backTo pos2 (starEach [] X.env)).any (·.1) = false := by rfl)
    (hs2 : starEach [.Call (.Name "set" p2) [e] [] pos2] X.env = (false, eval (.Call (.Name "set" p2) [e] [] pos2) X.env) :: starEach [] X.env := by rfl) (hp2 : (backTo pos (starEach [] X.env)).any (·.1) = false := by rfl) :
    EX X W (.Call (.Name "sorted" p1) [.Call (.Name "set" p2) [e] [] pos2] [] pos) (eUn gSS f) :=
  PE.imp (pe_callB (cr_sortedSet hc) hg hm (by decide +kernel) (pa_cons (pe_callTy (cr_setI hc) hg2 hm2 (by decide +kernel) (pa_cons he pa_nil hs) (by decide) (by decide) hs hp) pa_nil hs2) (by decide) (by decide) hs2 hp2) fun σ H Q ⟨ρ, φ, m, hρ, hs, q⟩ => bindG hρ hs q fun d m1 v H1 φ1 e1 p1 hρ1 hs1 r1 q1 => by
    cases d <;> first | exact (show False from q1).elim | skip
    rename_i ds
    cases r1 with
    | @tup ds a vs h1 h2 h3 =>
      have q' : Post (ct X) W (RD (ct X)) σ H1 φ1 (match intsOf ds with
        | some l => if l.length < 64 then .ok (.ref m1.length) (m1 ++ [.lst ((upI l).map D.int)]) else .bad
        | none => .bad) Q := q1
      split at q'
      · rename_i l hl
        obtain ⟨rfl, _⟩ := intsOf_rep h3 hl
        split at q'
        · rename_i h64
          refine ⟨a, l, rfl, SqT.of h2, by omega, fun p c hp hcl => ?_⟩
          refine ⟨p, _, c, rfl, upd_same, by omega, fun ns p2 up hmem hlen hp2 => ?_⟩
          have e : ns = upI l := up_uniq up upI_up fun k => by rw [hmem k, upI_mem]; simp
          have hs2 : Sim (ct X) (upd H1 p (SetO X.w p (fun j => decide (j ∈ l)) c)) φ1 m1 := hs1.side hp
          have q2 := Post.shift (R := RD (ct X)) q' (Ext.new (o := SetO X.w p (fun j => decide (j ∈ l)) c) hp) (List.prefix_refl φ1)
          subst e
          refine Post.newLst q2 hs2 (by rw [List.length_map, hlen, sizeLine_eq]; omega) ?_ p2 hp2
          have gen : ∀ l' : List Int, Reps (ct X).K (upd H1 p (SetO X.w p (fun j => decide (j ∈ l)) c)) φ1 (l'.map D.int) (l'.map V.int) := fun l' => by
            induction l' with
            | nil => exact .nil
            | cons i l' ih => exact .cons (.int i) ih
          exact gen _
        · exact q'.elim
      · exact q'.elim
/-! ### x is True -/
def gIsB (neg : Bool) : G2 := fun x y m => match x, y with | .bl a, .bl b => .ok (.bl (negB neg (decide (a = b)))) m | _, _ => .bad
theorem ad_isB {C : Ct} {neg : Bool} {r : R2} (hr : ∀ x y H Q, (∃ a b : Bool, x = V.bl a ∧ y = V.bl b ∧ Q (V.bl (negB neg (decide (a = b)))) H) → r x y H Q) : Ad2 C r (gIsB neg) := by
  intro W σ H φ m d1 d2 v1 v2 Q hs r1 r2 q
  cases d1 <;> cases d2 <;> first | exact (show False from q).elim | skip
  cases r1; cases r2
  exact hr _ _ _ _ ⟨_, _, rfl, rfl, Post.here (C := C) (W := W) (R := RD C) (σ := σ) (φ := φ) (m := m) q hs (.bl _)⟩
theorem cIsB : CmpR X .Is (gIsB false) := ⟨_, op_isBl, ad_isB fun _ _ _ _ h => h⟩
theorem cIsNotB : CmpR X .IsNot (gIsB true) := ⟨_, op_notBl, ad_isB fun _ _ _ _ h => h⟩
end
end DL
set_option Elab.async false
set_option linter.all false
set_option maxRecDepth 100000
set_option maxHeartbeats 4000000
/-! DLKw: x[::-1]; calls by keywords alone; enumerate of a tuple, a list. -/
namespace DL
open PySem L2

/-! ### x[::-1] -/
section
variable {prog : Program} {w : World} {A : Around} {E : Value → Shared → Prop} {s : Shared}
theorem rev_all {α : Type} (xs : List α) : ((List.range xs.length).filterMap fun k => xs[xs.length - 1 - k]?) = xs.reverse := by
  have h : ∀ n, n ≤ xs.length → ((List.range n).filterMap fun k => xs[xs.length - 1 - k]?) = xs.reverse.take n := by
    intro n hn
    induction n with
    | zero => simp
    | succ n ih =>
      rw [List.range_succ, List.filterMap_append, ih (by omega), List.take_add_one]
      have : xs.reverse[n]? = xs[xs.length - 1 - n]? := by rw [List.getElem?_reverse (by omega)]
      rw [this]
      cases hx : xs[xs.length - 1 - n]? with
      | none => simp [hx]
      | some x => simp [hx]
  rw [h _ (Nat.le_refl _)]
  rw [List.take_of_length_le (by simp)]
theorem rev_pick (its : Array Value) : ((List.range its.size).filterMap fun (k : Nat) => its[((its.size : Int) - 1 + (k : Int) * -1).toNat]?).toArray = its.toList.reverse.toArray := by
  congr 1
  rw [← rev_all its.toList]
  have hl : its.toList.length = its.size := Array.length_toList
  rw [hl]
  have gen : ∀ l : List Nat, (∀ k ∈ l, k < its.size) → (l.filterMap fun (k : Nat) => its[((its.size : Int) - 1 + (k : Int) * -1).toNat]?) = l.filterMap fun k => its.toList[its.size - 1 - k]? := by
    intro l
    induction l with
    | nil => intro _; rfl
    | cons k l ih =>
      intro h
      have hk' := h k List.mem_cons_self
      have e : ((its.size : Int) - 1 + (k : Int) * -1).toNat = its.size - 1 - k := by omega
      rw [List.filterMap_cons, List.filterMap_cons, ih fun z hz => h z (List.mem_cons_of_mem _ hz), e, Array.getElem?_toList]
  exact gen _ fun k hk => by simpa using hk
theorem tuple_rev {t sl : Addr} {items : Array Value} {vl vu vs : Value} {Q : Value → Shared → Prop} (ht : PyProof.Rows.IsTup s.heap t items) (hs : s.heap.IsSliceOf sl vl vu vs) (pl : IsPart vl none) (pu : IsPart vu none) (pv : IsPart vs (some (-1)))
    (h : Q (.ref s.heap.objs.size) { s with heap := s.heap.push { cls := .type "tuple", data := .seq items.toList.reverse.toArray } }) (hsz : items.size ≤ sizeLine) : wpAny (model prog w) A (getItem (.ref t) (.ref sl)) Q E s := by
  have hfit : sizeOk (.seq items.toList.reverse.toArray) := by
    show items.toList.reverse.toArray.size ≤ sizeLine
    simpa using hsz
  obtain ⟨os, hos, hcs, hds⟩ := id hs
  have hTs : s.TypeIs (.ref sl) "slice" := ⟨os, hos, hcs⟩
  unfold getItem
  try with_reducible refine wpAny_holding ?_
  first | refine wpAny_bind (wpAny_pure ?_) | skip
  refine wpAny_bind (wpAny_sequenceKey ht.typeIs (by decide) ?_)
  refine wpAny_bind (wpAny_callSpecial?_slot (name := Str.ofString "__getitem__") ht.typeIs PyProof.Rows.slot_tuple_getitem (wpAny_call_entry PyProof.Rows.slot_tuple_getitem ht.typeIs PyProof.Rows.entry_tuple_getitem ?_ (PyProof.Rows.args_tuple_getitem _ _)))
  show wpAny _ _ (Builtin.Tuple.tupleItemsOf (.ref t) >>= _) _ _ s
  refine wpAny_bind (PyProof.Rows.tupleItemsOf_ ht ?_)
  refine wpAny_bind (wpAny_typeOf hTs ?_)
  rw [if_pos (by decide)]
  have ap : ∀ {R : Int × Int × Nat → Shared → Prop} {A' : Around} {E' : Value → Shared → Prop}, R ((items.size : Int) - 1, -1, items.size) s → wpAny (model prog w) A' (Builtin.Slice.sliceApplied (.ref sl) (pure (items.size : Int))) R E' s := by
    intro R A' E' hR
    unfold Builtin.Slice.sliceApplied Builtin.Slice.sliceFields
    refine wpAny_bind (wpAny_bind (wpAny_field hos hds (x := vl) rfl (wpAny_bind (wpAny_field hos hds (x := vu) rfl (wpAny_bind (wpAny_field hos hds (x := vs) rfl (wpAny_pure ?_)))))))
    refine wpAny_bind (HT.slicePart_ pv ?_)
    show wpAny _ _ (if ((-1 : Int) == 0) = true then _ else _) _ _ s
    rw [if_neg (by decide)]
    refine wpAny_bind (HT.slicePart_ pl (wpAny_bind (HT.slicePart_ pu (wpAny_bind (wpAny_pure ?_)))))
    show wpAny _ _ (pure ((items.size : Int) - 1, (-1 : Int), Builtin.Slice.slicePlaces ((items.size : Int) - 1) (-1) (-1))) _ _ s
    have hp : Builtin.Slice.slicePlaces ((items.size : Int) - 1) (-1) (-1) = items.size := by
      unfold Builtin.Slice.slicePlaces
      by_cases hz : items.size = 0
      · rw [hz]; rfl
      · rw [if_neg (by decide), if_pos (by omega)]
        have : ((items.size : Int) - 1 - -1 - 1) / - -1 + 1 = (items.size : Int) := by
          have e : (- -1 : Int) = 1 := by decide
          rw [e, Int.ediv_one]; omega
        rw [this]; rfl
    rw [hp]
    exact wpAny_pure hR
  refine wpAny_bind (ap ?_)
  have hno : ¬ ((((items.size : Int) - 1 == 0) && ((-1 : Int) == 1) && (items.size == items.size)) = true) := by simp
  show wpAny _ _ (if (((items.size : Int) - 1 == 0) && ((-1 : Int) == 1) && (items.size == items.size)) = true then _ else _) _ _ s
  rw [if_neg hno, rev_pick]
  first
    | exact wpAny_bind (m := Builtin.Tuple.tupleExact _) (wpAny_newObj_type (wpAny_pure ⟨_, rfl, wpAny_pure h⟩) hfit)
    | exact wpAny_bind (m := Builtin.Tuple.tupleExact _) (wpAny_newObj_type (wpAny_bind (wpAny_pure (wpAny_pure ⟨_, rfl, wpAny_pure h⟩))) hfit)
    | exact wpAny_bind (wpAny_bind (m := Builtin.Tuple.tupleExact _) (wpAny_newObj_type (wpAny_pure (wpAny_pure ⟨_, rfl, wpAny_pure h⟩)) hfit))
    | exact wpAny_bind (wpAny_bind (m := Builtin.Tuple.tupleExact _) (wpAny_newObj_type (wpAny_pure ⟨_, rfl, wpAny_pure h⟩) hfit))
end
def gRev (d : D) (m : Mem) : Out D := match d with
  | .tup ds => .ok (.tup ds.reverse) m
  | .rol ds => .ok (.ref m.length) (m ++ [.lst ds.reverse])
  | .ref k => match m[k]? with
    | some (.lst ds) => .ok (.ref m.length) (m ++ [.lst ds.reverse])
    | _ => .bad
  | _ => .bad
section
variable {X : Cx} {W : WX} {e : Expr} {fe : EFn} {k : Nat} {p1 p2 p3 pos : Pos}
theorem ex_rev (he : EX X W e fe) : EX X W (.Subscript e (.Slice none none (some (.UnaryOp .USub (.Constant (.int 1) k p1) p2)) p3) pos) (eUn gRev fe) := by
  refine ⟨fun pins s σ H Q I ⟨ρ, φ, m, hρ, hs, q⟩ => ?_⟩
  have h0 : tG (ct X) W (RD (ct X)) fe σ H (fun v H1 => ∃ d m1 φ1, Sim (ct X) H1 φ1 m1 ∧ Rep X.K H1 φ1 d v ∧ Post (ct X) W (RD (ct X)) σ H1 φ1 (gRev d m1) Q) :=
    bindG hρ hs q fun d m1 v H1 φ1 e1 p1 hρ1 hs1 r1 q1 => ⟨d, m1, φ1, hs1, r1, q1⟩
  refine PyProof.Rows.Subscript_ (thn (PE.run he pins s σ H _ I h0) fun v s1 ⟨x, H1, I1, r1, d, m1, φ1, hs1, rd, q1⟩ => ?_)
  have hst : PO X (some (.UnaryOp .USub (.Constant (.int 1) k p1) p2)) (tPart (tUn (rU fun i => .int (-i)) (tC (.int 1)))) := po_some (pe_un un_neg pe_int)
  refine wpAny_Slice (thn (po_none.run pins s1 σ H1 (fun o H2 => o = none ∧ H2 = H1) I1 ⟨rfl, rfl⟩) fun vl s2 ⟨l, H2, I2, pl, el, e2⟩ => ?_)
  subst el e2
  refine thn (po_none.run pins s2 σ H2 (fun o H3 => o = none ∧ H3 = H2) I2 ⟨rfl, rfl⟩) fun vu s3 ⟨u, H3, I3, pu, eu, e3⟩ => ?_
  subst eu e3
  refine thn (hst.run pins s3 σ H3 (fun o H4 => o = some (-1) ∧ H4 = H3) I3 ⟨1, rfl, -1, rfl, rfl, rfl⟩) fun vs s4 ⟨o, H4, I4, ps, eo, e4⟩ => ?_
  subst eo e4
  have I5 : Inv X pins σ H4 { s4 with heap := s4.heap.push { cls := .type "slice", data := .fields #[vl, vu, vs] } } := I4.kept (t' := s4.toks) fun b ob q => Heap.get?_push_of_some _ q
  have onList : ∀ {a : Addr} {xs : List V} {ds : List D}, SqL X.K H4 a xs → ds.length ≤ sizeLine → Reps X.K H4 φ1 ds xs → Post (ct X) W (RD (ct X)) σ H4 φ1 (.ok (.ref m1.length) (m1 ++ [.lst ds.reverse])) Q →
      wpAny (model X.prog X.w) X.A (PyProof.Rows.subscriptTail e (.Slice none none (some (.UnaryOp .USub (.Constant (.int 1) k p1) p2)) p3) (.ref a) (.ref s4.heap.objs.size)) (EP X pins σ Q) X.xe { s4 with heap := s4.heap.push { cls := .type "slice", data := .fields #[vl, vu, vs] } } := by
    intro a xs ds hx hl rs q
    obtain ⟨its, r, ht, hz⟩ := I5.list hx
    have hlen := r.length
    refine PyProof.Rows.tail_any (ops := [.ref a, .ref s4.heap.objs.size]) ht.isList.typeIs (PySem.slot_list_getitem.lookup) ?_ (by with_unfolding_all rfl)
    refine wpAny_getItem_list_slice ht.isList (Heap.IsSliceOf.new _ vl vu vs) pl pu ps (by decide) ?_ (by rw [List.size_toArray]; omega)
    rw [PySem.W.krv_pick]
    refine ⟨.ref _, _, I5.laid (t' := s4.toks) (o := .lst xs.reverse) (fun b ob q => Heap.get?_push_of_some _ q) (Nat.le_refl _) ⟨by rw [List.length_reverse]; exact hz, _, 0, r.reverse, Heap.get?_push_size _ rfl⟩, rfl, ?_⟩
    exact q.newLst hs1 (by rw [List.length_reverse]; exact hl) (Paired.rv rs) _ (I5.hok.fresh (Nat.le_refl _))
  cases rd with
  | non => exact (show False from q1).elim
  | exo _ => exact (show False from q1).elim
  | bl _ => exact (show False from q1).elim
  | int _ => exact (show False from q1).elim
  | str _ _ => exact (show False from q1).elim
  | rot _ _ _ => exact (show False from q1).elim
  | @tup ds a xs h1 h2 h3 =>
    obtain rfl : v = Value.ref a := r1
    obtain ⟨its, r, ht, hz⟩ := I5.tuple (SqT.of h2)
    have hlen := r.length
    show wpAny (model X.prog X.w) X.A (PyProof.Rows.subscriptTail e (.Slice none none (some (.UnaryOp .USub (.Constant (.int 1) k p1) p2)) p3) (.ref a) (.ref s4.heap.objs.size)) (EP X pins σ Q) X.xe { s4 with heap := s4.heap.push { cls := .type "slice", data := .fields #[vl, vu, vs] } }
    refine PyProof.Rows.tail_any (ops := [.ref a, .ref s4.heap.objs.size]) ht.typeIs (PyProof.Rows.slot_tuple_getitem.lookup) ?_ (by with_unfolding_all rfl)
    refine tuple_rev ht (Heap.IsSliceOf.new _ vl vu vs) pl pu ps ?_ (by rw [List.size_toArray]; omega)
    refine ⟨.ref _, _, I5.laid (t' := s4.toks) (o := .tup xs.reverse) (fun b ob q => Heap.get?_push_of_some _ q) (Nat.le_refl _) ⟨by rw [List.length_reverse]; exact hz, _, r.reverse, ?_⟩, rfl, ?_⟩
    · have := PyProof.Rows.IsTup.new (s4.heap.push { cls := .type "slice", data := .fields #[vl, vu, vs] }) its.reverse.toArray
      simpa using this
    · exact Post.newTup (C := ct X) (W := W) (σ := σ) (φ := φ1) (m := m1) q1 hs1 (by rw [List.length_reverse]; exact h1) (Paired.rv h3) _ (I5.hok.fresh (Nat.le_refl _))
  | @rol ds a xs h1 h2 h3 =>
    obtain rfl : v = Value.ref a := r1
    exact onList h2.sq h1 h3 q1
  | @ref k' a hk =>
    obtain rfl : v = Value.ref a := r1
    have q' : Post (ct X) W (RD (ct X)) σ H4 φ1 (match m1[k']? with
      | some (.lst ds) => .ok (.ref m1.length) (m1 ++ [.lst ds.reverse])
      | _ => .bad) Q := q1
    split at q'
    · rename_i ds hm
      obtain ⟨xs, g1, g2, g3⟩ := hs1.lst hk hm
      exact onList (SqL.of g1) g2 g3 q'
    · exact q'.elim
end
/-! ### a call by keywords alone -/
/-- the parts at the places of idx, in that sequence -/
def pick {α : Type} (idx : List Nat) (xs : List α) : List α := idx.filterMap fun i => xs[i]?
theorem pick_rep {α β : Type} {F : α → β → Prop} {xs : List α} {ys : List β} (h : Paired F xs ys) : ∀ idx : List Nat, Paired F (pick idx xs) (pick idx ys)
  | [] => .nil
  | i :: r => by
    unfold pick
    rw [List.filterMap_cons, List.filterMap_cons]
    cases hx : xs[i]? with
    | none =>
      have : ys[i]? = none := by
        rw [List.getElem?_eq_none_iff] at hx ⊢
        rw [← Paired.len h]; exact hx
      rw [this]; exact pick_rep h r
    | some x =>
      obtain ⟨y, hy, hr⟩ := Paired.get h hx
      rw [hy]; exact .cons hr (pick_rep h r)
/-- how keywords in a sequence of their own come to the parameters -/
def BindsK (K : Fg) (fd : FuncData) (ps ks : List Str) (idx : List Nat) (n : Nat) : Prop := ∀ (s : Shared) (ws : List Value), ws.length = n → BindsTo s fd ⟨[], ks.zip ws⟩ (ps.zip (pick idx ws))
theorem fun_bindsK {K : Fg} {x qual : Str} {st : Stmt} {f : Addr} {fd : FuncData} {ps ks : List Str} {idx : List Nat} {n : Nat} (F : Fun K x qual st f fd)
    (h : ∀ (kV doc pm : Value) (an : Option Addr) (cdv ct : Value) (ws : List Value), ws.length = n → bindArgs (PySem.W.fnOf x qual (defArgs st) (defBody st) (defScope st) .none kV doc pm an cdv ct) ⟨[], ks.zip ws⟩ = pure (ps.zip (pick idx ws))) : BindsK K fd ps ks idx n := by
  obtain ⟨oc, od, kV, doc, pm, an, cdv, ct, osl, rfl, lk, hcd⟩ := F.ex
  exact fun s ws hw => .of_eq (h kV doc pm an cdv ct ws hw)
def KX (X : Cx) (W : WX) (kws : List Keyword) (f : AFn) : Prop := PK X kws (tG (ct X) W (RL (ct X)) f)
theorem PK.imp {X : Cx} {es : List Keyword} {t t' : TA} (h : PK X es t) (i : ∀ σ H Q, t' σ H Q → t σ H Q) : PK X es t' := ⟨fun pos pins s σ H Q I q => h.run pos pins s σ H Q I (i σ H Q q)⟩
section
variable {X : Cx} {W : WX} {e : Expr} {pos p kpos : Pos} {kws : List Keyword} {nm : Option Str} {f : EFn} {g : AFn}
theorem kx_nil : KX X W [] aNil := PK.imp pk_nil fun σ H Q ⟨ρ, φ, m, hρ, hs, q⟩ => Post.here (C := ct X) (W := W) (R := RL (ct X)) (σ := σ) (φ := φ) (d := []) (m := m) q hs .nil
theorem kx_cons (ha : EX X W e f) (hr : KX X W kws g) : KX X W (⟨nm, e, kpos⟩ :: kws) (aCons f g) :=
  PK.imp (pk_cons ha hr) fun σ H Q ⟨ρ, φ, m, hρ, hs, q⟩ => bindG hρ hs q fun d m1 v H1 φ1 e1 p1 hρ1 hs1 r1 q1 => bindG hρ1 hs1 q1 fun ds m2 vs H2 φ2 e2 p2 hρ2 hs2 r2 q2 =>
    Post.here (C := ct X) (W := W) (R := RL (ct X)) (σ := σ) (φ := φ2) (d := d :: ds) (m := m2) q2 hs2 (.cons (r1.mono e2 p2) r2)
def onN (n : Nat) (idx : List Nat) (F : Fn) : Fn := fun ds m => if ds.length = n then F (pick idx ds) m else .bad
theorem ex_fnK {x : Str} {k n : Nat} {fa : Addr} {fd : FuncData} {ps ks : List Str} {idx : List Nat} {F : Fn} {fk : AFn} (G : FnOk X.prog X.w X.K X.mg X.base (L2.CX X.prog X.w) k fa fd ps (spD (ct X) n F)) (ar : Ar n F) (hr : Room k X.A) (hg : Gl X x) (hm : X.mg x = some (.ref fa))
    (hk : PySem.W.keepIn X.K (.ref fa) = true) (hb : BindsK X.K fd ps ks idx n) (tk : Takes X W) (hkw : KX X W kws fk) (hall : (backToKw pos (keywordEach kws X.env)).all (·.1.isSome) = true := by rfl) (hks : (backToKw pos (keywordEach kws X.env)).filterMap (·.1) = ks := by rfl)
    (hpl : ((backTo pos (starEach [] X.env)).any (·.1) || (backToKw pos (keywordEach kws X.env)).any (·.1.isNone)) = false := by rfl) (hdb : (x == ("__debug__" : Str)) = false := by decide) :
    EX X W (.Call (.Name x p) [] kws pos) (eArgs (onN n idx F) fk) := by
  refine ⟨fun pins s σ H Q I ⟨ρ, φ, m, hρ, hs, q⟩ => ?_⟩
  have h0 : tG (ct X) W (RL (ct X)) fk σ H (fun vs H1 => ∃ ds m1 φ1, Sim (ct X) H1 φ1 m1 ∧ Reps X.K H1 φ1 ds vs ∧ Post (ct X) W (RD (ct X)) σ H1 φ1 (onN n idx F ds m1) Q) :=
    bindG hρ hs q fun d m1 v H1 φ1 e1 p1 hρ1 hs1 r1 q1 => ⟨d, m1, φ1, hs1, r1, q1⟩
  refine wpAny_Call_Name_kw (ld_glob I hg hm ?_ hdb)
  refine PySem.W.callWith_KW0 (h₀ := X.base) (first := []) I.ok.mod.kin hk hall ?_ hpl
  refine thn (hkw.run pos pins s σ H _ I h0) fun ws s2 ⟨vs, H2, I2, rz, ds, m1, φ1, hs1, rd, q2⟩ => ⟨I2.kIn, ?_⟩
  rw [hks]
  have q3 : Post (ct X) W (RD (ct X)) σ H2 φ1 (if ds.length = n then F (pick idx ds) m1 else .bad) Q := q2
  split at q3
  · rename_i hn
    have hl : (pick idx ds).length = n := by
      refine Classical.byContradiction fun z => ?_
      rw [ar _ m1 z] at q3
      exact q3
    have rp := pick_rep rd idx
    have hws : ws.length = n := by rw [← rz.length, ← Paired.len rd]; exact hn
    have hsp : spD (ct X) n F (pick idx vs) H2 Q (WE W σ) := by
      refine ⟨by rw [← Paired.len rp]; exact hl, φ1, m1, pick idx ds, rp, hs1, ?_⟩
      revert q3
      cases F (pick idx ds) m1 with
      | ok d m2 => exact fun q1 => q1
      | exc x m2 => exact fun q1 => q1
      | bad => exact fun q1 => q1
    refine wpAny_call (codeAny_mono (G.run X.A X.stack s2 H2 ⟨[] ++ [], ks.zip ws⟩ (pick idx ws) (pick idx vs) Q (WE W σ) hr I2.env0 (hb s2 ws hws) (pick_rep rz idx) hsp) fun r s' hq => ?_)
    cases r with
    | error e => exact passAt tk σ pins H2 s2 e s' I2 hq
    | ok fl =>
      cases fl with
      | ret u => exact I2.after hq
      | next => exact False.elim hq
      | brk => exact False.elim hq
      | cont => exact False.elim hq
  · exact q3.elim
end
/-! ### enumerate -/
section
variable {prog : Program} {w : World} {A : Around} {E : Value → Shared → Prop} {s : Shared}
theorem enum_new1 {v : Value} {o : Obj} {G : Heap → Prop} (B : Begins v o G) : Meets (Builtin.«enumerate.__new__» ⟨[.type "enumerate", v], []⟩) (fun _ R s => G s.heap ∧
      R (.ok (.ret (.ref (s.heap.push o).objs.size))) { s with heap := (s.heap.push o).push { cls := .type "enumerate", data := .fields #[.none, .bool false, .ref s.heap.objs.size, rawInt 0, .none, .none] } }) :=
  .of_wp fun prog w A R s h => by
    obtain ⟨hp, g, d, tk, os⟩ := s
    obtain ⟨h1, h⟩ := h
    have hsub := sub_enumerate
    have step : ∀ {A' : Around} {E : Value → Shared → Prop} {Q : Value → Shared → Prop}, Q (.ref hp.objs.size) ⟨hp.push o, g, d, tk, os⟩ → wpAny (model prog w) A' (pyIter v) Q E ⟨hp, g, d, tk, os⟩ := fun q => B.iter prog w _ _ ⟨hp, g, d, tk, os⟩ _ h1 q
    wp_walk using step
    refine wpAny_stack_any fun st => wpAny_pure ?_
    split
    · rename_i c _ _ _ _ _
      cases (c == Value.type "enumerate") <;> (wp_walk using step; exact ⟨_, rfl, h⟩)
    · wp_walk using step
      exact ⟨_, rfl, h⟩
theorem enum_call {v : Value} {o : Obj} {G : Heap → Prop} {Q : Value → Shared → Prop} (B : Begins v o G) (h1 : G s.heap)
    (h : ∀ h', IsEnum h' (s.heap.objs.size + 1) s.heap.objs.size 0 .none → h'.get? s.heap.objs.size = some o → (∀ b o, s.heap.get? b = some o → h'.get? b = some o) → Q (.ref (s.heap.objs.size + 1)) { s with heap := h' }) :
    wpAny (model prog w) A (call (.type "enumerate") [v]) Q E s := by
  refine callType_new F.called_enumerate (by decide) (F.typeCall_enumerate_1 _) (F.newCall_enumerate_1 _) (fun obj => F.args_object_init_2 obj _) F.entry_enumerate_new (enum_new1 B) ⟨h1, ?_⟩
  have hz : (s.heap.push o).objs.size = s.heap.objs.size + 1 := Heap.size_push ..
  have he := Heap.get?_push_size (s.heap.push o) (o := { cls := .type "enumerate", data := .fields #[.none, .bool false, .ref s.heap.objs.size, rawInt 0, .none, .none] }) rfl
  rw [hz] at he ⊢
  exact ⟨⟨_, he, rfl⟩, h _ he (Heap.get?_push_of_some _ (Heap.get?_push_size _ B.free)) fun b o x => Heap.get?_push_of_some _ (Heap.get?_push_of_some _ x)⟩
end
end DL
set_option Elab.async false
set_option linter.all false
set_option maxRecDepth 100000
set_option maxHeartbeats 4000000
/-! DLEnum: enumerate of a tuple, a list. -/
namespace DL
open PySem L2
/-- (0, x0), (1, x1), .. of a tuple -/
def IteT (K : Fg) (a : Addr) : It :=
  ⟨fun i H => ∃ xs x, SqT K H a xs ∧ xs[i]? = some x, fun i H v H' => ∃ T x, v = .ref T ∧ H T = none ∧ H' = upd H T (.tup [.int (i : Nat), x]) ∧ ∀ xs, SqT K H a xs → xs[i]? = some x, fun i H => ∃ xs, SqT K H a xs ∧ xs.length = i⟩
theorem turn_enumT {P : Program} {w : World} {K : Fg} {elts : List Expr} {kk : Nat} {tpos : Pos} (a e it : Addr) :
    Turn P w K (.Tuple elts kk tpos) (IteT K a) [e, it] e (fun i h => (∃ old, IsEnum h e it ((0 : Int) + (i : Nat)) old) ∧ h.IsTupleIter it a i ∧ e ≠ it ∧ a ≠ it ∧ a ≠ e) where
  mem := by simp
  obj := fun i h st b hb => by
    obtain ⟨⟨old, he⟩, ⟨o, ho, hc, hd⟩, _⟩ := st
    rcases (show b = e ∨ b = it by simpa using hb) with z | z
    · rw [z]; exact ⟨_, he, fun v q => by cases q⟩
    · rw [z]; exact ⟨o, ho, fun v q => by rw [hd] at q; cases q⟩
  keep := fun i h h' st k => let ⟨⟨old, he⟩, hi, hne⟩ := st; ⟨⟨old, k e (by simp) _ he⟩, hi.at fun o q => k it (by simp) o q, hne⟩
  item := by
    intro X hP hw hK hc i pins s σ H E I hf st hg
    subst hP hw hK
    obtain ⟨he, hit, n1, n2, n3⟩ := st
    obtain ⟨xs, x, hq, hx⟩ := hg
    obtain ⟨its, rv, p, hz⟩ := I.tuple hq
    obtain ⟨u, hu, ru⟩ := rv.get hx
    have hlt : i < its.toArray.size := by
      rcases Nat.lt_or_ge i its.length with z | z
      · simpa using z
      · rw [List.getElem?_eq_none z] at hu; cases hu
    have G := GoesN.enumFrom (prog := X.prog) (w := X.w) (elts := elts) (x1 := kk) (pos := tpos) 0 (Draws.tuple (prog := X.prog) (w := X.w) (A := X.A.in1) (I.ok.hd hc) it a n2 its.toArray) e n1 (by simp [n1, Ne.symm n3]) (by simp)
    refine wpAny_mono (G.goes i s (fun v s2 => ∃ x H', Inv X pins σ H' s2 ∧ RelV x v ∧ (IteT X.K a).yld i H x H' ∧ ((∃ old, IsEnum s2.heap e it ((0 : Int) + ((i + 1 : Nat) : Int)) old) ∧ s2.heap.IsTupleIter it a (i + 1) ∧ e ≠ it ∧ a ≠ it ∧ a ≠ e) ∧ ∀ b ∈ [e, it], H' b = none) E hlt ⟨he, hit, p⟩ fun v h' tk hy st' hk htk => ?_)
      (fun r s1 ⟨v, hr, hq⟩ => ⟨v, hr, hq⟩) fun _ _ z => z
    obtain ⟨T, t, x2, rfl, hT, hx2, hTt⟩ := hy
    have e2 : x2 = u := by
      have : its.toArray[i]? = some u := by simpa using hu
      rw [this] at hx2; exact (Option.some.inj hx2).symm
    subst e2
    have fresh : H T = none := I.hok.fresh hT
    have new : ObjOk X.prog X.w (upd H T (.tup [.int (i : Nat), x])) h' T (.tup [.int (i : Nat), x]) := by
      refine ⟨by show 2 ≤ sizeLine; rw [sizeLine_eq]; decide, [.int ((0 : Int) + (i : Nat)) t, x2], .cons ⟨t, by rw [Int.zero_add]⟩ (.cons ru .nil), ?_⟩
      exact hTt
    refine ⟨.ref T, _, I.turnedNew (t' := tk) (ch := [e, it]) (fun b ob hb q => hk b ob (by simpa using hb) q) hf hT new, rfl, ⟨T, x, rfl, fresh, rfl, fun ys hy => by rw [I.tuple_inj hy hq]; exact hx⟩, ⟨st'.1, st'.2.1, n1, n2, n3⟩, fun b hb => ?_⟩
    rw [upd_ne]
    · exact (hf b hb).1
    · rintro rfl
      obtain ⟨_, he'⟩ := he
      obtain ⟨_, hi', _⟩ := hit
      rcases (show b = e ∨ b = it by simpa using hb) with z | z
      · rw [z] at hT; exact absurd (Nat.lt_of_lt_of_le (Heap.lt_size he') hT) (Nat.lt_irrefl _)
      · rw [z] at hT; exact absurd (Nat.lt_of_lt_of_le (Heap.lt_size hi') hT) (Nat.lt_irrefl _)
  done := by
    intro X hP hw hK hc i pins s σ H E I hf st hg
    subst hP hw hK
    obtain ⟨he, hit, n1, n2, n3⟩ := st
    obtain ⟨xs, hq, hx⟩ := hg
    obtain ⟨its, rv, p, hz⟩ := I.tuple hq
    have hn : i = its.toArray.size := by rw [List.size_toArray, ← rv.length, hx]
    subst hn
    have G := GoesN.enumFrom (prog := X.prog) (w := X.w) (elts := elts) (x1 := kk) (pos := tpos) 0 (Draws.tuple (prog := X.prog) (w := X.w) (A := X.A.in1) (I.ok.hd hc) it a n2 its.toArray) e n1 (by simp [n1, Ne.symm n3]) (by simp)
    exact G.stops s (fun s1 => Inv X pins σ H s1) E ⟨he, hit, p⟩ fun h' tk hk htk => I.turnedL (t' := tk) (ch := [e, it]) (fun b o h1 q => hk b o (by simpa using h1) q) hf
  self := fun A i s Q E st h => let ⟨⟨_, he⟩, _⟩ := st; wpAny_pyIter_enum he h
theorem it_enumT {X : Cx} {pins : List (Addr × Obj)} {σ : L2.St} {H : Hp} {s : Shared} {a : Addr} {xs : List V} {elts : List Expr} {kk : Nat} {tpos : Pos} {R : It → Hp → Prop} {E : Value → Shared → Prop} (I : Inv X pins σ H s) (hq : SqT X.K H a xs) (h : R (IteT X.K a) H) :
    wpAny (model X.prog X.w) X.A (call (.type "enumerate") [.ref a]) (fun v s1 => wpAny (model X.prog X.w) X.A (pyIter v) (PIE X pins σ (.Tuple elts kk tpos) R) E s1) E s := by
  obtain ⟨its, rv, p, hz⟩ := I.tuple hq
  have hlt : a < s.heap.objs.size := by obtain ⟨o, ho, _⟩ := p; exact Heap.lt_size ho
  refine enum_call (begins_tuple a its.toArray) (show s.heap.IsTuple a its.toArray from p) fun h' he hit hk => wpAny_pyIter_enum he ?_
  have I2 : Inv X pins σ H { s with heap := h' } := I.kept (t' := s.toks) hk
  refine ⟨s.heap.objs.size + 1, [s.heap.objs.size + 1, s.heap.objs.size], _, _, H, rfl, I2, turn_enumT a (s.heap.objs.size + 1) s.heap.objs.size, ⟨⟨.none, he⟩, ⟨_, hit, rfl, rfl⟩, Nat.succ_ne_self _, Nat.ne_of_lt hlt, Nat.ne_of_lt (Nat.lt_succ_of_lt hlt)⟩, fun b hb => ?_, h⟩
  have hle : s.heap.objs.size ≤ b := by
    rcases (show b = s.heap.objs.size + 1 ∨ b = s.heap.objs.size by simpa using hb) with z | z
    · rw [z]; exact Nat.le_succ _
    · rw [z]; exact Nat.le_refl _
  exact I.fpOk hle (I.hok.fresh hle)
theorem it_enumL {X : Cx} {pins : List (Addr × Obj)} {σ : L2.St} {H : Hp} {s : Shared} {a : Addr} {xs : List V} {elts : List Expr} {kk : Nat} {tpos : Pos} {R : It → Hp → Prop} {E : Value → Shared → Prop} (I : Inv X pins σ H s) (hq : SqL X.K H a xs) (h : R (Ite X.K a) H) :
    wpAny (model X.prog X.w) X.A (call (.type "enumerate") [.ref a]) (fun v s1 => wpAny (model X.prog X.w) X.A (pyIter v) (PIE X pins σ (.Tuple elts kk tpos) R) E s1) E s := by
  obtain ⟨its, rv, p, hz⟩ := I.list hq
  refine call_enumerate_list p.isList fun h' he hit hsz hk => wpAny_pyIter_enum he ?_
  have I2 : Inv X pins σ H { s with heap := h' } := I.kept (t' := s.toks) hk
  refine ⟨s.heap.objs.size + 1, [s.heap.objs.size + 1, s.heap.objs.size], _, _, H, rfl, I2, turn_enum a (s.heap.objs.size + 1) s.heap.objs.size, ⟨⟨.none, he⟩, hit, Nat.succ_ne_self _⟩, fun b hb => ?_, h⟩
  have hle : s.heap.objs.size ≤ b := by
    rcases (show b = s.heap.objs.size + 1 ∨ b = s.heap.objs.size by simpa using hb) with z | z
    · rw [z]; exact Nat.le_succ _
    · rw [z]; exact Nat.le_refl _
  exact I.fpOk hle (I.hok.fresh hle)
/-- what enumerate's argument may be: a list, a tuple -/
def enumR (K : Fg) (R : It → Hp → Prop) (x : V) (H1 : Hp) : Prop := ∃ a, x = .ref a ∧ ((∃ xs, SqL K H1 a xs ∧ R (Ite K a) H1) ∨ ∃ xs, SqT K H1 a xs ∧ R (IteT K a) H1)
def enumRs (K : Fg) (R : It → Hp → Prop) (vs : List V) (H1 : Hp) : Prop := match vs with | [x] => enumR K R x H1 | _ => False
def iEnumA (K : Fg) (te : TE) : TI := fun σ H R => te σ H (enumR K R)
theorem pi_enumA {X : Cx} {e : Expr} {te : TE} {p pos tpos : Pos} {elts : List Expr} {kk : Nat} (hg : Gl X "enumerate") (hm : X.mg "enumerate" = none) (he : PE X e te) (hs : starEach [e] X.env = (false, eval e X.env) :: starEach [] X.env := by rfl) (hpl : (backTo pos (starEach [] X.env)).any (·.1) = false := by rfl) :
    PI X (.Tuple elts kk tpos) (.Call (.Name "enumerate" p) [e] [] pos) (iEnumA X.K te) := by
  refine ⟨fun pins s σ H R I h => ?_⟩
  refine PyProof.Rows.Call_ (ld_blt I hg hm PyProof.Rows.boot_enumerate (PyProof.Rows.callWith_type1 (thn ((pa_cons he pa_nil hs).run pos pins s σ H (enumRs X.K R) I h) fun us s1 ⟨vs, H1, I1, r1, q1⟩ => ?_) hs hpl))
  match vs, q1 with
  | [x], q1 =>
    obtain ⟨a, rfl, q⟩ := q1
    obtain ⟨u, rfl, ru⟩ := vals1 r1
    obtain rfl : u = Value.ref a := ru
    rcases q with ⟨xs, hq, q⟩ | ⟨xs, hq, q⟩
    · exact it_enumL I1 hq q
    · exact it_enumT I1 hq q
/-! ### as data: the pairs (0, x0), (1, x1), .. -/
def enD (ds : List D) : List D := (List.range ds.length).zipWith (fun i d => .tup [.int (i : Nat), d]) ds
theorem enD_len {ds : List D} : (enD ds).length = ds.length := by unfold enD; simp
theorem enD_get {ds : List D} {i : Nat} {d : D} (h : ds[i]? = some d) : (enD ds)[i]? = some (.tup [.int (i : Nat), d]) := by
  have hi : i < ds.length := by
    rcases Nat.lt_or_ge i ds.length with z | z
    · exact z
    · rw [List.getElem?_eq_none z] at h; cases h
  unfold enD
  rw [List.getElem?_zipWith, h, List.getElem?_range hi]
def wkEnum (d : D) (m : Mem) : Out Wk := (wkOf d m).bind fun w m1 => .ok ⟨enD w.ds, w.at_⟩ m1
def iEnumD (f : EFn) : IFn := fun ρ m => (f ρ m).bind wkEnum
section
variable {C : Ct} {H : Hp} {φ : List Addr} {a : Addr} {ds : List D} {vs : List V}
theorem en_yld {H' : Hp} {φ' : List Addr} {m : Mem} {i : Nat} {T : Addr} {x : V} {d : D} (s : Sim C H' φ' m) (hT : H' T = none) (hd : ds[i]? = some d) (r : Rep C.K H' φ' d x) :
    Ext C.K H' (upd H' T (.tup [.int (i : Nat), x])) ∧ (∀ b ∈ φ', upd H' T (.tup [.int (i : Nat), x]) b = H' b) ∧ ∃ d', (enD ds)[i]? = some d' ∧ Rep C.K (upd H' T (.tup [.int (i : Nat), x])) φ' d' (.ref T) :=
  ⟨Ext.new hT, fun b hb => upd_ne fun z => by subst z; exact s.notin hT hb, _, enD_get hd, Rep.tup_new (by show 2 ≤ sizeLine; rw [sizeLine_eq]; decide) hT (.cons (.int _) (.cons r .nil))⟩
theorem j_enT (hq : SqT C.K H a vs) (r : Reps C.K H φ ds vs) : JOk C ⟨enD ds, none⟩ H φ (IteT C.K a) where
  go := fun i H' φ' m e p s k hi => by
    obtain ⟨d, hd⟩ := get_lt (l := ds) (by simpa [enD_len] using hi)
    obtain ⟨v, hv, _⟩ := Paired.get r hd
    exact ⟨vs, v, e.t _ _ hq, hv⟩
  yld := fun i H' φ' m v H2 e p s k hi ⟨T, x, y1, y2, y3, y4⟩ => by
    subst y1 y3
    obtain ⟨d, hd, hr⟩ := Paired.get' r (y4 vs (e.t _ _ hq))
    exact en_yld s y2 hd (hr.mono e p)
  stop := fun H' φ' m e p s k => ⟨vs, e.t _ _ hq, by rw [enD_len]; exact (Paired.len r).symm⟩
theorem j_enR (hq : SqF C.K H a vs) (r : Reps C.K H φ ds vs) : JOk C ⟨enD ds, none⟩ H φ (Ite C.K a) where
  go := fun i H' φ' m e p s k hi => by
    obtain ⟨d, hd⟩ := get_lt (l := ds) (by simpa [enD_len] using hi)
    obtain ⟨v, hv, _⟩ := Paired.get r hd
    exact ⟨vs, v, (e.f _ _ hq).sq, hv⟩
  yld := fun i H' φ' m v H2 e p s k hi ⟨T, x, y1, y2, y3, y4⟩ => by
    subst y1 y3
    obtain ⟨d, hd, hr⟩ := Paired.get' r (y4 vs (e.f _ _ hq).sq)
    exact en_yld s y2 hd (hr.mono e p)
  stop := fun H' φ' m e p s k => ⟨vs, (e.f _ _ hq).sq, by rw [enD_len, ← Paired.len r]; exact Nat.le_refl _⟩
theorem j_enL {k : Nat} (hk : φ[k]? = some a) : JOk C ⟨enD ds, some (k, ds)⟩ H φ (Ite C.K a) where
  go := fun i H' φ' m e p s w hi => by
    obtain ⟨vs, g1, g2, g3⟩ := s.lst (pre_get p hk) w
    obtain ⟨d, hd⟩ := get_lt (l := ds) (by simpa [enD_len] using hi)
    obtain ⟨v, hv, _⟩ := Paired.get g3 hd
    exact ⟨vs, v, SqL.of g1, hv⟩
  yld := fun i H' φ' m v H2 e p s w hi ⟨T, x, y1, y2, y3, y4⟩ => by
    subst y1 y3
    obtain ⟨vs, g1, g2, g3⟩ := s.lst (pre_get p hk) w
    obtain ⟨d, hd, hr⟩ := Paired.get' g3 (y4 vs (SqL.of g1))
    exact en_yld s y2 hd hr
  stop := fun H' φ' m e p s w => by
    obtain ⟨vs, g1, g2, g3⟩ := s.lst (pre_get p hk) w
    exact ⟨vs, SqL.of g1, by rw [enD_len, ← Paired.len g3]; exact Nat.le_refl _⟩
end
theorem ix_enum {X : Cx} {W : WX} {e : Expr} {f : EFn} {p pos tpos : Pos} {elts : List Expr} {kk : Nat} (hg : Gl X "enumerate") (hm : X.mg "enumerate" = none) (h : EX X W e f) (hs : starEach [e] X.env = (false, eval e X.env) :: starEach [] X.env := by rfl) (hpl : (backTo pos (starEach [] X.env)).any (·.1) = false := by rfl) :
    IX X W (.Tuple elts kk tpos) (.Call (.Name "enumerate" p) [e] [] pos) (iEnumD f) := PI.imp (pi_enumA hg hm h hs hpl) fun σ H R ⟨ρ, φ, m, hρ, hs, q⟩ => bindI hρ hs q fun d m1 v H1 φ1 e1 p1 hρ1 hs1 r1 q1 => by
  cases r1 with
  | non => exact (show False from q1).elim
  | exo _ => exact (show False from q1).elim
  | bl _ => exact (show False from q1).elim
  | int _ => exact (show False from q1).elim
  | str _ _ => exact (show False from q1).elim
  | tup h1 h2 h3 => exact ⟨_, rfl, .inr ⟨_, SqT.of h2, PostI.here (C := ct X) (W := W) (σ := σ) (φ := φ1) (m := m1) q1 hs1 (j_enT (C := ct X) (SqT.of h2) h3)⟩⟩
  | rot h1 h2 h3 => exact ⟨_, rfl, .inr ⟨_, h2, PostI.here (C := ct X) (W := W) (σ := σ) (φ := φ1) (m := m1) q1 hs1 (j_enT (C := ct X) h2 h3)⟩⟩
  | rol h1 h2 h3 => exact ⟨_, rfl, .inl ⟨_, h2.sq, PostI.here (C := ct X) (W := W) (σ := σ) (φ := φ1) (m := m1) q1 hs1 (j_enR (C := ct X) h2 h3)⟩⟩
  | @ref k a hk =>
    have q' : PostI (ct X) W σ H1 φ1 ((match m1[k]? with
      | some (.lst ds) => Out.ok (⟨ds, some (k, ds)⟩ : Wk) m1
      | _ => .bad).bind fun w m1 => .ok ⟨enD w.ds, w.at_⟩ m1) R := q1
    split at q'
    · rename_i ds hm
      obtain ⟨vs, g1, g2, g3⟩ := hs1.lst hk hm
      exact ⟨_, rfl, .inl ⟨vs, SqL.of g1, PostI.here (C := ct X) (W := W) (σ := σ) (φ := φ1) (m := m1) q' hs1 (j_enL (C := ct X) hk)⟩⟩
    · exact q'.elim
end DL
set_option Elab.async false
set_option linter.all false
set_option maxRecDepth 100000
set_option maxHeartbeats 4000000
/-! DLTop: a program's defs, and law(script). -/
namespace DL
open PySem L2
theorem fn_at {P : Program} {w : World} {K : Fg} {mg : Str → Option Value} {base : Heap} {x qual : Str} {st : Stmt} {f : Addr} {fd : FuncData} {N ps : List Str} {k n : Nat} {g : SFn} (F : Fun K x qual st f fd) (S : FnScope N ps (defScope st)) (hn : ps.length = n)
    (hb : ∀ (cdv : Value) (A : Around) (outer : List Env) (s : Shared) (H : Hp) (E : XK), Room k (A.deeper (PyProof.Rows.envOfC qual (defScope st) s.heap.objs.size f cdv)) → SXs (cxOf (L2.CX P w) P w K mg base N qual (defScope st) f cdv A outer s H E) (fun cls dx _ H => E cls dx H) (defBody st) g) :
    FnOk P w K mg base (L2.CX P w) (k + 1) f fd ps (spD ⟨K, mg⟩ n (runF N n g)) := by
  refine F.okX S (fun vs H Q E h => by rw [hn]; exact h.1) fun cdv A outer s H vs Q E hr h => ?_
  obtain ⟨hl, φ, m, ds, r, hs, q⟩ := h
  refine ⟨_, hb cdv A outer s H E hr, ?_⟩
  have hd : ds.length = n := by rw [Paired.len r]; exact hl
  refine ⟨envOf N ds, φ, m, RepE.start r, hs, ?_⟩
  unfold runF at q
  rw [if_pos hd] at q
  revert q
  show Post ⟨K, mg⟩ _ _ _ H φ _ Q → PostS ⟨K, mg⟩ _ H φ (g (envOf N ds) m) _
  cases g (envOf N ds) m with
  | next ρ m' => exact fun q σ1 H1 φ1 e p _ s1 => Post.gc hs q .non H1 φ1 e p .non s1
  | ret d m' => exact fun q v H1 φ1 e p r1 s1 => Post.gc hs q v H1 φ1 e p r1 s1
  | exc x ρ m' => exact fun q cls dx σ1 H1 φ1 e p r1 _ s1 => q cls dx H1 φ1 e p r1 s1
  | brk ρ m' => exact fun q => q.elim
  | cont ρ m' => exact fun q => q.elim
  | bad => exact fun q => q
/-- a def of the top, at its name -/
def Df (K : Fg) (mg : Str → Option Value) (x : Str) (st : Stmt) : Prop := ∃ f fd, mg x = some (.ref f) ∧ Fun K x x st f fd
/-- .. and what its calls are worth -/
def Cl (P : Program) (w : World) (K : Fg) (mg : Str → Option Value) (base : Heap) (k : Nat) (x : Str) (st : Stmt) (ps : List Str) (F : Fn) : Prop :=
  ∃ f fd, mg x = some (.ref f) ∧ Fun K x x st f fd ∧ Binds K fd ps [] ∧ FnOk P w K mg base (L2.CX P w) k f fd ps (spD ⟨K, mg⟩ ps.length F) ∧ Ar ps.length F
theorem cl_mk {P : Program} {w : World} {K : Fg} {mg : Str → Option Value} {base : Heap} {x : Str} {st : Stmt} {N ps : List Str} {k : Nat} {g : SFn} (D : Df K mg x st) (S : FnScope N ps (defScope st))
    (hbind : ∀ (kV doc pm : Value) (an : Option Addr) (cdv ct : Value) (us : List Value), us.length = ps.length → bindArgs (PySem.W.fnOf x x (defArgs st) (defBody st) (defScope st) .none kV doc pm an cdv ct) ⟨us, []⟩ = pure (ps.zip us))
    (hb : ∀ (f : Addr) (cdv : Value) (A : Around) (outer : List Env) (s : Shared) (H : Hp) (E : XK), Room k (A.deeper (PyProof.Rows.envOfC x (defScope st) s.heap.objs.size f cdv)) → SXs (cxOf (L2.CX P w) P w K mg base N x (defScope st) f cdv A outer s H E) (fun cls dx _ H => E cls dx H) (defBody st) g) :
    Cl P w K mg base (k + 1) x st ps (runF N ps.length g) := by
  obtain ⟨f, fd, hm, F⟩ := D
  exact ⟨f, fd, hm, F, F.binds hbind, fn_at F S rfl fun cdv A outer s H E hr => hb f cdv A outer s H E hr, ar_run⟩
theorem Cl.up {P : Program} {w : World} {K : Fg} {mg : Str → Option Value} {base : Heap} {x : Str} {st : Stmt} {ps : List Str} {j k : Nat} {F : Fn} (c : Cl P w K mg base j x st ps F) (h : j ≤ k) : Cl P w K mg base k x st ps F :=
  let ⟨f, fd, h1, h2, h3, h4, h5⟩ := c; ⟨f, fd, h1, h2, h3, h4.mono h, h5⟩
theorem ex_call {X : Cx} {W : WX} {e : Expr} {es : List Expr} {x : Str} {p pos : Pos} {k : Nat} {st : Stmt} {ps : List Str} {F : Fn} {fa : AFn} (G : Cl X.prog X.w X.K X.mg X.base k x st ps F) (hr : Room k X.A) (hg : Gl X x) (tk : Takes X W) (ha : AX X W (e :: es) fa) (hdb : (x == ("__debug__" : Str)) = false := by decide)
    (he : starEach (e :: es) X.env = (false, eval e X.env) :: starEach es X.env := by rfl) (hpl : (backTo pos (starEach es X.env)).any (·.1) = false := by rfl) : EX X W (.Call (.Name x p) (e :: es) [] pos) (eArgs F fa) := by
  obtain ⟨f, fd, h1, h2, h3, h4, h5⟩ := G
  exact ex_fn h4 h5 hr hg h1 h2.kp h3 tk ha hdb he hpl
theorem ex_call0 {X : Cx} {W : WX} {x : Str} {p pos : Pos} {k : Nat} {st : Stmt} {F : Fn} (G : Cl X.prog X.w X.K X.mg X.base k x st [] F) (hr : Room k X.A) (hg : Gl X x) (hdb : (x == ("__debug__" : Str)) = false := by decide) : EX X W (.Call (.Name x p) [] [] pos) (fun _ m => noExc (F [] m)) := by
  obtain ⟨f, fd, h1, h2, h3, h4, h5⟩ := G
  exact ex_fn0 h4 hr hg h1 h2.kp h3 hdb
theorem ex_callK {X : Cx} {W : WX} {kws : List Keyword} {x : Str} {p pos : Pos} {k n : Nat} {st : Stmt} {ps ks : List Str} {idx : List Nat} {F : Fn} {fk : AFn} (G : Cl X.prog X.w X.K X.mg X.base k x st ps F) (hn : ps.length = n) (hr : Room k X.A) (hg : Gl X x) (tk : Takes X W)
    (hbind : ∀ (kV doc pm : Value) (an : Option Addr) (cdv ct : Value) (ws : List Value), ws.length = n → bindArgs (PySem.W.fnOf x x (defArgs st) (defBody st) (defScope st) .none kV doc pm an cdv ct) ⟨[], ks.zip ws⟩ = pure (ps.zip (pick idx ws)))
    (hkw : KX X W kws fk) (hall : (backToKw pos (keywordEach kws X.env)).all (·.1.isSome) = true := by rfl) (hks : (backToKw pos (keywordEach kws X.env)).filterMap (·.1) = ks := by rfl)
    (hpl : ((backTo pos (starEach [] X.env)).any (·.1) || (backToKw pos (keywordEach kws X.env)).any (·.1.isNone)) = false := by rfl) (hdb : (x == ("__debug__" : Str)) = false := by decide) :
    EX X W (.Call (.Name x p) [] kws pos) (eArgs (onN n idx F) fk) := by
  subst hn
  obtain ⟨f, fd, h1, h2, h3, h4, h5⟩ := G
  exact ex_fnK h4 h5 hr hg h1 h2.kp (fun_bindsK h2 hbind) tk hkw hall hks hpl hdb
theorem ty_of {X : Cx} {x : Str} {n : String} {p : Pos} (hg : Gl X x) (hm : X.mg x = none) (hv : bootBuiltins x = some (.type n) := by decide +kernel) (hn : x ≠ "__name__" := by decide) (hd : (x == ("__debug__" : Str)) = false := by decide) : PE X (.Name x p) (tC (.ty n)) := pe_bltn hg hm hv rfl hn hd
/-- law(script) answers True -/
def spLaw (K : Fg) : Sp := fun vs H Q _ => ∃ (a : Addr) (ns : List Int), vs = [.ref a] ∧ SqL K H a (ns.map V.int) ∧ Only H ∧ ns.length ≤ 63 ∧ ∀ H', Q (.bl true) H'
theorem reps_ints {K : Fg} {H : Hp} {φ : List Addr} : ∀ ns : List Int, Reps K H φ (ns.map D.int) (ns.map V.int)
  | [] => .nil
  | i :: r => .cons (.int i) (reps_ints r)
theorem law_sp {P : Program} {w : World} {K : Fg} {mg : Str → Option Value} {base : Heap} {k : Nat} {f : Addr} {fd : FuncData} {x : Str} {F : Fn} (G : FnOk P w K mg base (L2.CX P w) k f fd [x] (spD ⟨K, mg⟩ 1 F))
    (law : ∀ ns : List Int, ns.length ≤ 63 → ∃ m, F [.rol (ns.map D.int)] [] = .ok (.bl true) m) : FnOk P w K mg base (L2.CX P w) k f fd [x] (spLaw K) :=
  G.imp fun vs H Q E ⟨a, ns, h1, h2, h3, h4, h5⟩ => by
    subst h1
    obtain ⟨m, hm⟩ := law ns h4
    refine ⟨rfl, [], [], [.rol (ns.map D.int)], .cons (.rol ?_ (SqF.of h2 h3) (reps_ints ns)) .nil, ⟨rfl, List.nodup_nil, (fun k c z => nomatch z)⟩, ?_⟩
    · rw [List.length_map]
      show ns.length ≤ sizeLine
      rw [sizeLine_eq]; omega
    · rw [hm]
      intro v H1 φ1 e p r s
      cases r
      exact h5 H1
abbrev LawT (F : Fn) : Prop := ∀ ns : List Int, ns.length ≤ 63 → ∃ m, F [.rol (ns.map D.int)] [] = .ok (.bl true) m
theorem law_at {P : Program} {w : World} {K : Fg} {mg : Str → Option Value} {base : Heap} {k : Nat} {fa : Addr} {fd : FuncData} {x p : Str} {st : Stmt} {F : Fn} (c : Cl P w K mg base k x st [p] F) (hfa : mg x = some (.ref fa)) (G : Fun K x x st fa fd) (law : LawT F) : FnOk P w K mg base (L2.CX P w) k fa fd [p] (spLaw K) := by
  obtain ⟨f, fd', h1, h2, h3, h4, h5⟩ := c
  cases h1.symm.trans hfa
  obtain ⟨oc, od, kV, doc, pm, an, cdv, ct, osl, rfl, lk, hcd⟩ := G.ex
  obtain ⟨oc', od', kV', doc', pm', an', cdv', ct', osl', rfl, lk', hcd'⟩ := h2.ex
  have e := lk'.symm.trans lk
  have e2 := Option.some.inj e
  injection e2 with e3 e4 e5 e6
  injection e5 with e7
  rw [← e7]
  exact law_sp h4 law
/-! ### a, b = e, f -/
def sPar (i j : Nat) (g : AFn) : SFn := fun ρ m => (g ρ m).so ρ fun ds m1 => match ds with | [d, e] => .next ((ρ.set i (some d)).set j (some e)) m1 | _ => .bad
theorem sx_par {X : Cx} {W : WX} {pos : Pos} (i j : Nat) {x y : Str} {a b : Expr} {g : AFn} {px py pt : Pos} {kt k2 pt2} (hc : X.calm = true) (hN : X.N.Nodup) (ha : AX X W [a, b] g) (hi : X.N[i]? = some x := by rfl) (hj : X.N[j]? = some y := by rfl) (hij : i ≠ j := by decide)
    (hx : X.env.scope.names.lookup x = some .local := by rfl) (hy : X.env.scope.names.lookup y = some .local := by rfl)
    (hw : swappedStores [.Tuple [.Name x px, .Name y py] kt pt] (.Tuple [a, b] k2 pt2) X.env = pure (some [x, y]) := by rfl)
    (hs : swapsWithSole [.Tuple [.Name x px, .Name y py] kt pt] (.Tuple [a, b] k2 pt2) pos.line X.env = pure false := by rfl) :
    SX X W (.Assign [.Tuple [.Name x px, .Name y py] kt pt] (.Tuple [a, b] k2 pt2) pos) (sPar i j g) :=
  PS.imp (ps_par hc hN hi hj hij hx hy ha hw hs) fun D σ H ⟨ρ, φ, m, hρ, hs, q⟩ => bindS hρ hs q fun ds m1 vs H1 φ1 e p hρ1 hs1 r1 q1 => by
    match ds, r1, q1 with
    | [d, e], .cons ra (.cons rb .nil), q1 => exact ⟨_, _, rfl, PostS.nx (C := ct X) (W := W) (φ := φ1) (m := m1) q1 ((hρ1.set ra).set rb) hs1⟩
    | [], _, q1 => exact q1.elim
    | [_], _, q1 => exact q1.elim
    | _ :: _ :: _ :: _, _, q1 => exact q1.elim
end DL
set_option Elab.async false
set_option linter.all false
set_option maxRecDepth 100000
set_option maxHeartbeats 4000000
/-! DLSpec: what mirrors compute: evaluation by simp, weakest preconditions, loops. -/
namespace DL
open PySem L2
section
variable {α β : Type}
def Ev (o : Out α) (P : α → Mem → Prop) : Prop := match o with | .ok a m => P a m | _ => False
structure Kt where
  nx : Rho → Mem → Prop
  bk : Rho → Mem → Prop
  ct : Rho → Mem → Prop
  rt : D → Mem → Prop
def SEv (o : SO) (k : Kt) : Prop := match o with
  | .next ρ m => k.nx ρ m
  | .brk ρ m => k.bk ρ m
  | .cont ρ m => k.ct ρ m
  | .ret d m => k.rt d m
  | _ => False
@[simp] theorem bind_ok {a : α} {m : Mem} {k : α → Mem → Out β} : (Out.ok a m).bind k = k a m := id rfl
@[simp] theorem bind_bad {k : α → Mem → Out β} : (Out.bad).bind k = .bad := id rfl
@[simp] theorem so_ok {a : α} {m : Mem} {ρ : Rho} {k : α → Mem → SO} : (Out.ok a m).so ρ k = k a m := id rfl
@[simp] theorem so_bad {ρ : Rho} {k : α → Mem → SO} : (Out.bad : Out α).so ρ k = .bad := id rfl
@[simp] theorem seq_next {ρ : Rho} {m : Mem} {k : Rho → Mem → SO} : (SO.next ρ m).seq k = k ρ m := id rfl
@[simp] theorem seq_ret {d : D} {m : Mem} {k : Rho → Mem → SO} : (SO.ret d m).seq k = .ret d m := id rfl
@[simp] theorem seq_brk {ρ : Rho} {m : Mem} {k : Rho → Mem → SO} : (SO.brk ρ m).seq k = .brk ρ m := id rfl
@[simp] theorem seq_cont {ρ : Rho} {m : Mem} {k : Rho → Mem → SO} : (SO.cont ρ m).seq k = .cont ρ m := id rfl
@[simp] theorem ev_ok {a : α} {m : Mem} {P : α → Mem → Prop} : Ev (.ok a m) P = P a m := id rfl
@[simp] theorem ev_bad {P : α → Mem → Prop} : Ev (.bad : Out α) P = False := id rfl
@[simp] theorem ev_bind {o : Out α} {k : α → Mem → Out β} {P : β → Mem → Prop} : Ev (o.bind k) P = Ev o fun a m => Ev (k a m) P := by cases o <;> rfl
@[simp] theorem sev_next {ρ : Rho} {m : Mem} {k : Kt} : SEv (.next ρ m) k = k.nx ρ m := id rfl
@[simp] theorem sev_brk {ρ : Rho} {m : Mem} {k : Kt} : SEv (.brk ρ m) k = k.bk ρ m := id rfl
@[simp] theorem sev_cont {ρ : Rho} {m : Mem} {k : Kt} : SEv (.cont ρ m) k = k.ct ρ m := id rfl
@[simp] theorem sev_ret {d : D} {m : Mem} {k : Kt} : SEv (.ret d m) k = k.rt d m := id rfl
@[simp] theorem sev_bad {k : Kt} : SEv .bad k = False := id rfl
@[simp] theorem sev_so {o : Out α} {ρ : Rho} {k : α → Mem → SO} {K : Kt} : SEv (o.so ρ k) K = Ev o fun a m => SEv (k a m) K := by cases o <;> rfl
@[simp] theorem sev_seq {o : SO} {k : Rho → Mem → SO} {K : Kt} : SEv (o.seq k) K = SEv o ⟨fun ρ m => SEv (k ρ m) K, K.bk, K.ct, K.rt⟩ := by cases o <;> rfl
theorem Ev.mono {o : Out α} {P Q : α → Mem → Prop} (h : Ev o P) (i : ∀ a m, P a m → Q a m) : Ev o Q := by
  cases o with
  | ok a m => exact i a m h
  | exc x m => exact h
  | bad => exact h
theorem Ev.eq {o : Out α} {a : α} {m : Mem} (h : Ev o fun b m' => b = a ∧ m' = m) : o = .ok a m := by
  cases o with
  | ok b m' => obtain ⟨rfl, rfl⟩ := h; rfl
  | exc x m => exact h.elim
  | bad => exact h.elim
theorem Ev.of {o : Out α} {a : α} {m : Mem} {P : α → Mem → Prop} (e : o = .ok a m) (h : P a m) : Ev o P := by rw [e]; exact h
theorem SEv.mono {o : SO} {k k' : Kt} (h : SEv o k) (h1 : ∀ ρ m, k.nx ρ m → k'.nx ρ m) (h2 : ∀ ρ m, k.bk ρ m → k'.bk ρ m) (h3 : ∀ ρ m, k.ct ρ m → k'.ct ρ m) (h4 : ∀ d m, k.rt d m → k'.rt d m) : SEv o k' := by
  cases o with
  | next ρ m => exact h1 _ _ h
  | brk ρ m => exact h2 _ _ h
  | cont ρ m => exact h3 _ _ h
  | ret d m => exact h4 _ _ h
  | exc x ρ m => exact h
  | bad => exact h
end

/-! ### the combinators, at work -/
def bsel (d : D) (a b : Out D) : Out D := match d with | .bl true => a | .bl false => b | _ => .bad
@[simp] theorem bsel_bl {b : Bool} {o p : Out D} : bsel (.bl b) o p = if b = true then o else p := by cases b <;> rfl
section
variable {ρ : Rho} {m : Mem} {f g h : EFn} {t u : TFn} {a : AFn} {i : Nat}
@[simp] theorem eVar_ap : eVar i ρ m = match ρ[i]? with | some (some d) => .ok d m | _ => .bad := id rfl
@[simp] theorem eC_ap {d : D} : eC d ρ m = .ok d m := id rfl
@[simp] theorem eBin_ap {k : G2} : eBin k f g ρ m = (f ρ m).bind fun x m1 => (g ρ m1).bind fun y m2 => k x y m2 := id rfl
@[simp] theorem eUn_ap {k : G1} : eUn k f ρ m = (f ρ m).bind k := id rfl
@[simp] theorem eTst_ap : eTst f ρ m = (f ρ m).bind fun x m1 => match x with | .bl k => .ok k m1 | _ => .bad := id rfl
@[simp] theorem eTru_ap : eTru f ρ m = (f ρ m).bind truth := id rfl
@[simp] theorem eChain_ap {k k' : G2} : eChain k k' f g h ρ m = (f ρ m).bind fun x m1 => (g ρ m1).bind fun y m2 => (k x y m2).bind fun z m3 => bsel z ((h ρ m3).bind fun u m4 => k' y u m4) (.ok (.bl false) m3) := id rfl
@[simp] theorem tAndF_ap : tAndF t u ρ m = (t ρ m).bind fun c m1 => if c = true then u ρ m1 else .ok false m1 := id rfl
@[simp] theorem tOrF_ap : tOrF t u ρ m = (t ρ m).bind fun c m1 => if c = true then .ok true m1 else u ρ m1 := id rfl
@[simp] theorem tNotF_ap : tNotF t ρ m = (t ρ m).bind fun c m1 => .ok (!c) m1 := id rfl
@[simp] theorem eAnd_ap : eAnd f g ρ m = (f ρ m).bind fun x m1 => bsel x (g ρ m1) (.ok (.bl false) m1) := id rfl
@[simp] theorem eOr_ap : eOr f g ρ m = (f ρ m).bind fun x m1 => bsel x (.ok (.bl true) m1) (g ρ m1) := by
  show _ = _
  unfold eOr
  congr 1
  funext x m1
  cases x with
  | bl b => cases b <;> rfl
  | _ => rfl
@[simp] theorem eNot_ap : eNot f ρ m = (f ρ m).bind fun x m1 => match x with | .bl k => .ok (.bl (!k)) m1 | _ => .bad := id rfl
@[simp] theorem eIf_ap : eIf t f g ρ m = (t ρ m).bind fun k m1 => if k = true then f ρ m1 else g ρ m1 := id rfl
@[simp] theorem aNil_ap : aNil ρ m = .ok [] m := id rfl
@[simp] theorem aCons_ap : aCons f a ρ m = (f ρ m).bind fun x m1 => (a ρ m1).bind fun xs m2 => .ok (x :: xs) m2 := id rfl
@[simp] theorem eArgs_ap {k : List D → Mem → Out D} : eArgs k a ρ m = (a ρ m).bind k := id rfl
@[simp] theorem oNone_ap : oNone ρ m = .ok none m := id rfl
@[simp] theorem oSome_ap : oSome f ρ m = (f ρ m).bind fun x m1 => match x with | .int i => .ok (some i) m1 | _ => .bad := id rfl
@[simp] theorem eSl_ap {l u : OFn} : eSl f l u ρ m = (f ρ m).bind fun x m1 => (l ρ m1).bind fun lo m2 => (u ρ m2).bind fun hi m3 => gSl x lo hi m3 := id rfl
@[simp] theorem eMeth_ap {k : GM} : eMeth k f a ρ m = (f ρ m).bind fun x m1 => match lstAt x m1 with
  | some _ => (a ρ m1).bind fun xs m2 => k x xs m2
  | none => .bad := id rfl
@[simp] theorem iOf_ap : iOf f ρ m = (f ρ m).bind wkOf := id rfl
@[simp] theorem iEnumD_ap : iEnumD f ρ m = (f ρ m).bind wkEnum := id rfl
@[simp] theorem iRng1_ap : iRng1 f ρ m = (f ρ m).bind wkRng1 := id rfl
@[simp] theorem iRng2_ap : iRng2 f g ρ m = (f ρ m).bind fun x m1 => (g ρ m1).bind fun y m2 => wkRng2 x y m2 := id rfl
@[simp] theorem fYes_ap : fYes ρ m = .ok true m := id rfl
@[simp] theorem on1_ap {k : D → Mem → Out D} {d : D} : on1 k [d] m = k d m := id rfl
@[simp] theorem eDictK_ap : eDictK ρ m = .ok (.ref m.length) (m ++ [.dK []]) := id rfl
@[simp] theorem eDictT_ap : eDictT ρ m = .ok (.ref m.length) (m ++ [.dT []]) := id rfl
@[simp] theorem prNil_ap : prNil ρ m = .ok [] m := id rfl
@[simp] theorem prCons_ap {r : PrFn} : prCons f g r ρ m = (f ρ m).bind fun k m1 => (g ρ m1).bind fun d m2 => (r ρ m2).bind fun l m3 => match keyOf k with
  | some z => .ok ((z, d) :: l) m3
  | none => .bad := id rfl
@[simp] theorem tgN_ap {d : D} : tgN i d ρ = some (ρ.set i (some d)) := id rfl
@[simp] theorem tgNil_ap : tgNil [] ρ = some ρ := id rfl
@[simp] theorem tgCons_ap {f : TgFn} {g : TgsFn} {d : D} {r : List D} : tgCons f g (d :: r) ρ = (f d ρ).bind (g r) := id rfl
@[simp] theorem tgTup_tup {g : TgsFn} {ds : List D} : tgTup g (.tup ds) ρ = g ds ρ := id rfl
@[simp] theorem tgTup_rot {g : TgsFn} {ds : List D} : tgTup g (.rot ds) ρ = g ds ρ := id rfl
end
section
variable {ρ : Rho} {m : Mem} {f g h : EFn} {t : TFn} {s1 s2 : SFn} {a : AFn} {i j : Nat}
@[simp] theorem sSkip_ap : sSkip ρ m = .next ρ m := id rfl
@[simp] theorem sBrk_ap : sBrk ρ m = .brk ρ m := id rfl
@[simp] theorem sCont_ap : sCont ρ m = .cont ρ m := id rfl
@[simp] theorem sSeq_ap : sSeq s1 s2 ρ m = (s1 ρ m).seq s2 := id rfl
@[simp] theorem sIf_ap : sIf t s1 s2 ρ m = (t ρ m).so ρ fun k m1 => if k = true then s1 ρ m1 else s2 ρ m1 := id rfl
@[simp] theorem sRet_ap : sRet f ρ m = (f ρ m).so ρ fun d m1 => .ret d m1 := id rfl
@[simp] theorem sRetN_ap : sRetN ρ m = .ret .non m := id rfl
@[simp] theorem sExpr_ap : sExpr f ρ m = (f ρ m).so ρ fun _ m1 => .next ρ m1 := id rfl
@[simp] theorem sSet_ap : sSet i f ρ m = (f ρ m).so ρ fun d m1 => .next (ρ.set i (some d)) m1 := id rfl
@[simp] theorem sAsg_ap {k : TgFn} : sAsg k f ρ m = (f ρ m).so ρ fun d m1 => match k d ρ with | some ρ' => .next ρ' m1 | none => .bad := id rfl
@[simp] theorem sPar_ap : sPar i j a ρ m = (a ρ m).so ρ fun ds m1 => match ds with | [d, e] => .next ((ρ.set i (some d)).set j (some e)) m1 | _ => .bad := id rfl
@[simp] theorem sSub_ap : sSub f g h ρ m = (h ρ m).so ρ fun d m1 => (f ρ m1).so ρ fun x m2 => (g ρ m2).so ρ fun y m3 => match putI x y d m3 with | some m4 => .next ρ m4 | none => .bad := id rfl
@[simp] theorem sAug_ap {k : G2} : sAug i k f ρ m = match ρ[i]? with
  | some (some d) => (f ρ m).so ρ fun y m1 => (k d y m1).so ρ fun z m2 => .next (ρ.set i (some z)) m2
  | _ => .bad := id rfl
@[simp] theorem sFor_ap {it : IFn} {tg : TgFn} : sFor it tg s1 ρ m = (it ρ m).so ρ fun w m1 => forGo w tg s1 w.ds ρ m1 := id rfl
end

/-! ### operations on plain things -/
section
variable {m : Mem} {i j : Int} {x y : Str} {b c : Bool} {ds es : List D}
@[simp] theorem gAdd_int : gAdd (.int i) (.int j) m = .ok (.int (i + j)) m := id rfl
@[simp] theorem gAdd_tup : gAdd (.tup ds) (.tup es) m = if ds.length + es.length ≤ sizeLine then .ok (.tup (ds ++ es)) m else .bad := id rfl
@[simp] theorem gSub_int : gSub (.int i) (.int j) m = .ok (.int (i - j)) m := id rfl
@[simp] theorem gIAdd_int : gIAdd (.int i) (.int j) m = .ok (.int (i + j)) m := id rfl
@[simp] theorem gMul_int : gMul (.int i) (.int j) m = if (sm64 i || sm64 j) = true then .ok (.int (i * j)) m else .bad := id rfl
@[simp] theorem gMod_int : gMod (.int i) (.int j) m = if j ≠ 0 then .ok (.int (i.fmod j)) m else .bad := by simp [gMod, gI]
@[simp] theorem gFdiv_int : gFdiv (.int i) (.int j) m = if j ≠ 0 ∧ j.natAbs < 1073741824 then .ok (.int (i.fdiv j)) m else .bad := by simp [gFdiv, gI]
@[simp] theorem gPow_int : gPow (.int i) (.int j) m = if 0 ≤ j ∧ j.natAbs ≤ 1000000 ∧ i.natAbs < 18446744073709551616 then .ok (.int (i ^ j.toNat)) m else .bad := by simp only [gPow, gI, powOk, decide_eq_true_eq]
@[simp] theorem gShl_int : gShl (.int i) (.int j) m = if 0 ≤ j ∧ j.natAbs ≤ 1000000 ∧ i.natAbs < 18446744073709551616 then .ok (.int (i * 2 ^ j.toNat)) m else .bad := by simp only [gShl, gI, powOk, decide_eq_true_eq]
@[simp] theorem gShr_int : gShr (.int i) (.int j) m = if 0 ≤ j then .ok (.int (i / 2 ^ j.toNat)) m else .bad := by simp only [gShr, gI, decide_eq_true_eq]
@[simp] theorem gNeg_int : gNeg (.int i) m = .ok (.int (-i)) m := id rfl
@[simp] theorem gLt_int : gLt (.int i) (.int j) m = .ok (.bl (decide (i < j))) m := id rfl
@[simp] theorem gLe_int : gLe (.int i) (.int j) m = .ok (.bl (decide (i ≤ j))) m := id rfl
@[simp] theorem gGt_int : gGt (.int i) (.int j) m = .ok (.bl (decide (j < i))) m := id rfl
@[simp] theorem gGe_int : gGe (.int i) (.int j) m = .ok (.bl (decide (j ≤ i))) m := id rfl
@[simp] theorem gEq_int {n : Bool} : gEqP n (.int i) (.int j) m = .ok (.bl (if n then !decide (i = j) else decide (i = j))) m := by
  have : (D.int i).eqv (.int j) = decide (i = j) := by simp [D.eqv, D.py, PyData.eqv]; rfl
  unfold gEqP; rw [this]; simp [D.flat, D.plain, D.py, PyData.depth]
@[simp] theorem gEq_str {n : Bool} : gEqP n (.str x) (.str y) m = .ok (.bl (if n then !decide (x = y) else decide (x = y))) m := by
  have : (D.str x).eqv (.str y) = decide (x = y) := by simp [D.eqv, D.py, PyData.eqv]; exact (Bool.beq_eq_decide_eq x y)
  unfold gEqP; rw [this]; simp [D.flat, D.plain, D.py, PyData.depth]
@[simp] theorem gEq_bl {n : Bool} : gEqP n (.bl b) (.bl c) m = .ok (.bl (if n then !decide (b = c) else decide (b = c))) m := by
  have : (D.bl b).eqv (.bl c) = decide (b = c) := by simp [D.eqv, D.py, PyData.eqv]; cases b <;> cases c <;> rfl
  unfold gEqP; rw [this]; simp [D.flat, D.plain, D.py, PyData.depth]
@[simp] theorem gIs_non {d : D} : gIs d .non m = .ok (.bl (isNon d)) m := id rfl
@[simp] theorem gIsNot_non {d : D} : gIsNot d .non m = .ok (.bl (!isNon d)) m := id rfl
@[simp] theorem gIsB_bl {n : Bool} : gIsB n (.bl b) (.bl c) m = .ok (.bl (negB n (decide (b = c)))) m := id rfl
@[simp] theorem gLen_tup : gLen1 (.tup ds) m = .ok (.int ds.length) m := id rfl
@[simp] theorem gLen_rol : gLen1 (.rol ds) m = .ok (.int ds.length) m := id rfl
@[simp] theorem gLen_str : gLen1 (.str x) m = .ok (.int x.length) m := id rfl
@[simp] theorem gAbs_int : gAbs (.int i) m = .ok (.int (if i < 0 then -i else i)) m := id rfl
@[simp] theorem gInt_int : gInt (.int i) m = .ok (.int i) m := id rfl
@[simp] theorem gInt_bl : gInt (.bl b) m = .ok (.int (if b then 1 else 0)) m := id rfl
@[simp] theorem gTuple_tup : gTuple (.tup ds) m = .ok (.tup ds) m := id rfl
@[simp] theorem gTuple_rol : gTuple (.rol ds) m = .ok (.tup ds) m := id rfl
@[simp] theorem gList_tup : gList (.tup ds) m = .ok (.ref m.length) (m ++ [.lst ds]) := id rfl
@[simp] theorem gSl_tup {lo hi : Option Int} : gSl (.tup ds) lo hi m = .ok (.tup (cut ds lo hi)) m := id rfl
@[simp] theorem gRev_tup : gRev (.tup ds) m = .ok (.tup ds.reverse) m := id rfl
@[simp] theorem gIx_tup {d : D} : gIx (.tup ds) d m = sqIx ds d m := id rfl
@[simp] theorem gIx_rol {d : D} : gIx (.rol ds) d m = sqIx ds d m := id rfl
@[simp] theorem sqIx_int : sqIx ds (.int i) m = ofO (atI ds i) m := id rfl
@[simp] theorem ofO_s {d : D} : ofO (some d) m = .ok d m := id rfl
theorem atI_of {α : Type} {xs : List α} {k : Nat} (h : k < xs.length) : atI xs (k : Int) = some xs[k] := by
  unfold atI ixN
  rw [if_pos (Int.natCast_nonneg k), if_pos (Int.ofNat_lt.mpr h)]
  simp [h]
theorem atI_get {α : Type} {xs : List α} {k : Nat} {x : α} (h : xs[k]? = some x) : atI xs (k : Int) = some x := atI_nat h
@[simp] theorem atI_zero {α : Type} {x : α} {xs : List α} : atI (x :: xs) 0 = some x := atI_get (k := 0) rfl
@[simp] theorem atI_one {α : Type} {x y : α} {xs : List α} : atI (x :: y :: xs) 1 = some y := atI_get (k := 1) rfl
@[simp] theorem atI_two {α : Type} {x y z : α} {xs : List α} : atI (x :: y :: z :: xs) 2 = some z := atI_get (k := 2) rfl
@[simp] theorem atI_three {α : Type} {x y z u : α} {xs : List α} : atI (x :: y :: z :: u :: xs) 3 = some u := atI_get (k := 3) rfl
@[simp] theorem wkOf_tup : wkOf (.tup ds) m = .ok ⟨ds, none⟩ m := id rfl
@[simp] theorem wkOf_rol : wkOf (.rol ds) m = .ok ⟨ds, none⟩ m := id rfl
@[simp] theorem wkEnum_tup : wkEnum (.tup ds) m = .ok ⟨enD ds, none⟩ m := id rfl
theorem mkTup_small (h : ds.length ≤ 1000) : mkTup ds m = .ok (.tup ds) m := if_pos h
@[simp] theorem mkTup_nil : mkTup [] m = .ok (.tup []) m := id rfl
@[simp] theorem mkLst_nil : mkLst [] m = .ok (.ref m.length) (m ++ [.lst []]) := id rfl
end
@[simp] theorem mkTup_cons {d : D} {m : Mem} {ds : List D} : mkTup (d :: ds) m = if ds.length + 1 ≤ 1000 then .ok (.tup (d :: ds)) m else .bad := id rfl
@[simp] theorem mkLst_cons {d : D} {m : Mem} {ds : List D} : mkLst (d :: ds) m = if ds.length + 1 ≤ 1000 then .ok (.ref m.length) (m ++ [.lst (d :: ds)]) else .bad := id rfl
/-- is it an int, not a bool -/
def isI : D → Bool | .int _ => true | _ => false
def rngI (lo hi : Int) : D → Bool | .int i => decide (lo ≤ i) && decide (i < hi) | _ => false
def isB : D → Bool | .bl _ => true | _ => false
def isT : D → Bool | .tup _ => true | .rot _ => true | _ => false
def isS : D → Bool | .str _ => true | _ => false
section
variable {m : Mem}
/-- it has a kind here -/
def Kdd (d : D) (m : Mem) : Prop := ∃ k, kdOf d m = some k
@[simp] theorem isi_int {i : Int} {k : Kd} : gIsi k (.int i) m = .ok (.bl (Kd.int.is k)) m := id rfl
@[simp] theorem isi_bl {i : Bool} {k : Kd} : gIsi k (.bl i) m = .ok (.bl (Kd.bl.is k)) m := id rfl
@[simp] theorem isi_str {i : Str} {k : Kd} : gIsi k (.str i) m = .ok (.bl (Kd.str.is k)) m := id rfl
@[simp] theorem isi_non {k : Kd} : gIsi k .non m = .ok (.bl (Kd.non.is k)) m := id rfl
@[simp] theorem isi_tup {ds : List D} {k : Kd} : gIsi k (.tup ds) m = .ok (.bl (Kd.tup.is k)) m := id rfl
@[simp] theorem isi_rot {ds : List D} {k : Kd} : gIsi k (.rot ds) m = .ok (.bl (Kd.tup.is k)) m := id rfl
@[simp] theorem isi_rol {ds : List D} {k : Kd} : gIsi k (.rol ds) m = .ok (.bl (Kd.lst.is k)) m := id rfl
theorem isi_lst {r : Nat} {ds : List D} {k : Kd} (h : m[r]? = some (.lst ds)) : gIsi k (.ref r) m = .ok (.bl (Kd.lst.is k)) m := by unfold gIsi kdOf; simp only [h]
@[simp] theorem kis1 : Kd.int.is .int = true := id rfl
@[simp] theorem kis2 : Kd.int.is .bl = false := id rfl
@[simp] theorem kis3 : Kd.bl.is .int = true := id rfl
@[simp] theorem kis4 : Kd.bl.is .bl = true := id rfl
@[simp] theorem kis5 : Kd.tup.is .tup = true := id rfl
@[simp] theorem kis6 : Kd.str.is .str = true := id rfl
@[simp] theorem kis7 : Kd.lst.is .lst = true := id rfl
@[simp] theorem kis8 {k : Kd} : Kd.non.is k = match k with | .non => true | _ => false := by cases k <;> rfl
@[simp] theorem kis9 : Kd.tup.is .int = false := id rfl
@[simp] theorem kis10 : Kd.tup.is .bl = false := id rfl
@[simp] theorem kis11 : Kd.tup.is .str = false := id rfl
@[simp] theorem kis12 : Kd.str.is .int = false := id rfl
@[simp] theorem kis13 : Kd.str.is .bl = false := id rfl
@[simp] theorem kis14 : Kd.str.is .tup = false := id rfl
@[simp] theorem kis15 : Kd.int.is .tup = false := id rfl
@[simp] theorem kis16 : Kd.int.is .str = false := id rfl
@[simp] theorem kis17 : Kd.bl.is .tup = false := id rfl
@[simp] theorem kis18 : Kd.bl.is .str = false := id rfl
@[simp] theorem kis19 : Kd.lst.is .int = false := id rfl
@[simp] theorem kis20 : Kd.lst.is .bl = false := id rfl
@[simp] theorem kis21 : Kd.lst.is .tup = false := id rfl
@[simp] theorem kis22 : Kd.lst.is .str = false := id rfl
end

/-! ### defs -/
section
variable {N : List Str} {n : Nat} {g : SFn} {ds : List D} {m : Mem}
/-- a def answers d and leaves the memory as it was, but for junk -/
theorem run_pure {d : D} (hl : ds.length = n) (hd : d.plain = true) (hh : ∀ K : Kt, K.rt d m → (∀ j, K.rt d (m ++ j)) → SEv (g (envOf N ds) m) K) : runF N n g ds m = .ok d m := by
  have h := hh ⟨fun _ _ => False, fun _ _ => False, fun _ _ => False, fun d' m' => d' = d ∧ ∃ j, m' = m ++ j⟩ ⟨rfl, [], by simp⟩ fun j => ⟨rfl, j, rfl⟩
  unfold runF
  rw [if_pos hl]
  revert h
  cases g (envOf N ds) m with
  | ret d' m' => rintro ⟨rfl, j, rfl⟩; exact gcD_pure (D.bel_plain _ hd)
  | next ρ m' => exact fun h => h.elim
  | brk ρ m' => exact fun h => h.elim
  | cont ρ m' => exact fun h => h.elim
  | exc x ρ m' => exact fun h => h.elim
  | bad => exact fun h => h.elim
/-- .. some plain d with P, cells of the memory may have changed -/
theorem run_ev {P : D → Mem → Prop} (hl : ds.length = n) (hh : ∀ K : Kt, (∀ ρ m', GcOk m.length m m' → P .non (m'.take m.length) → K.nx ρ m') → (∀ d m', d.bel m.length = true → GcOk m.length m m' → P d (m'.take m.length) → K.rt d m') → SEv (g (envOf N ds) m) K) : Ev (runF N n g ds m) P := by
  have h := hh ⟨fun _ m' => GcOk m.length m m' ∧ P .non (m'.take m.length), fun _ _ => False, fun _ _ => False, fun d m' => (d.bel m.length = true ∧ GcOk m.length m m') ∧ P d (m'.take m.length)⟩ (fun _ _ a b => ⟨a, b⟩) (fun _ _ a b c => ⟨⟨a, b⟩, c⟩)
  unfold runF
  rw [if_pos hl]
  revert h
  cases g (envOf N ds) m with
  | ret d' m' => intro h; show Ev (gcD _ _ _) _; unfold gcD; rw [if_pos h.1]; exact h.2
  | next ρ m' => intro h; show Ev (gcD _ _ _) _; unfold gcD; rw [if_pos ⟨by simp [D.bel], h.1⟩]; exact h.2
  | brk ρ m' => exact fun h => h.elim
  | cont ρ m' => exact fun h => h.elim
  | exc x ρ m' => exact fun h => h.elim
  | bad => exact fun h => h.elim
/-- the memory as it was with junk behind -/
theorem eGc_pure {f : EFn} {ρ : Rho} {d : D} {j : Mem} (h : f ρ m = .ok d (m ++ j)) (hd : d.bel m.length = true) : eGc f ρ m = .ok d m := by unfold eGc; rw [h]; exact gcD_pure hd
theorem eGc_ev {f : EFn} {ρ : Rho} {P : D → Mem → Prop} (hh : ∀ Q : D → Mem → Prop, (∀ d m', d.bel m.length = true → GcOk m.length m m' → P d (m'.take m.length) → Q d m') → Ev (f ρ m) Q) : Ev (eGc f ρ m) P := by
  have h := hh (fun d m' => (d.bel m.length = true ∧ GcOk m.length m m') ∧ P d (m'.take m.length)) (fun _ _ a b c => ⟨⟨a, b⟩, c⟩)
  unfold eGc
  revert h
  cases f ρ m with
  | ok d m' => intro h; show Ev (gcD _ _ _) _; unfold gcD; rw [if_pos h.1]; exact h.2
  | exc x m' => exact fun h => h
  | bad => exact fun h => h
end

theorem gcD_to {M M1 j : Mem} {d : D} (hd : d.bel M.length = true) (hl : M1.length = M.length) (hc : ∀ (k : Nat) (c : Cell), M1[k]? = some c → M[k]? = some c ∨ c.bel M.length = true) : gcD M d (M1 ++ j) = .ok d M1 := by
  unfold gcD
  rw [if_pos]
  · rw [← hl, List.take_left]
  · exact ⟨hd, by simp [hl], fun k c hk e => hc k c (by rw [List.getElem?_append_left (by omega)] at e; exact e)⟩
theorem eGc_to {f : EFn} {ρ : Rho} {d : D} {M M1 : Mem} (j : Mem) (h : f ρ M = .ok d (M1 ++ j)) (hd : d.bel M.length = true) (hl : M1.length = M.length) (hc : ∀ (k : Nat) (c : Cell), M1[k]? = some c → M[k]? = some c ∨ c.bel M.length = true) : eGc f ρ M = .ok d M1 := by unfold eGc; rw [h]; exact gcD_to hd hl hc
theorem lst_bel {n : Nat} {ds : List D} (h : D.plains ds = true) : (Cell.lst ds).bel n = true := D.bels_plain ds h
/-- the last cell is new -/
theorem eGc_last {f : EFn} {ρ : Rho} {d : D} {m : Mem} {c c' : Cell} (j : Mem) (h : f ρ (m ++ [c]) = .ok d (m ++ [c'] ++ j)) (hd : d.bel (m.length + 1) = true) (hc : c'.bel (m.length + 1) = true) : eGc f ρ (m ++ [c]) = .ok d (m ++ [c']) :=
  eGc_to j h (by simpa using hd) (by simp) fun k x e => by
    rcases Nat.lt_or_ge k m.length with z | z
    · rw [List.getElem?_append_left z] at e ⊢; exact .inl e
    · rw [List.getElem?_append_right z] at e
      refine .inr ?_
      cases hk : k - m.length with
      | zero => rw [hk] at e; cases e; simpa using hc
      | succ n => rw [hk] at e; simp at e

/-! ### loops -/
theorem for_rule {w : Wk} {tg : TgFn} {body : SFn} {K : Kt} (I : Nat → Rho → Mem → Prop) {ρ : Rho} {m : Mem} (h0 : I 0 ρ m) (hw : ∀ i ρ m, I i ρ m → w.ok m)
    (hs : ∀ i d ρ m, w.ds[i]? = some d → I i ρ m → ∃ ρ1, tg d ρ = some ρ1 ∧ ∀ K' : Kt, (∀ ρ m, I (i + 1) ρ m → K'.nx ρ m) → (∀ ρ m, I (i + 1) ρ m → K'.ct ρ m) → (∀ ρ m, K.nx ρ m → K'.bk ρ m) → (∀ d m, K.rt d m → K'.rt d m) → SEv (body ρ1 m) K') (he : ∀ ρ m, I w.ds.length ρ m → K.nx ρ m) : SEv (forGo w tg body w.ds ρ m) K := by
  have go : ∀ (ds : List D) (i : Nat) (ρ : Rho) (m : Mem), w.ds.drop i = ds → I i ρ m → i ≤ w.ds.length → SEv (forGo w tg body ds ρ m) K := by
    intro ds
    induction ds with
    | nil =>
      intro i ρ m e h hi
      unfold forGo
      rw [if_pos (hw i ρ m h)]
      have : w.ds.length ≤ i := List.drop_eq_nil_iff.mp e
      have : i = w.ds.length := by omega
      subst this
      exact he ρ m h
    | cons d ds ih =>
      intro i ρ m e h hi
      unfold forGo
      rw [if_pos (hw i ρ m h)]
      have hlt : i < w.ds.length := by
        rcases Nat.lt_or_ge i w.ds.length with z | z
        · exact z
        · rw [List.drop_eq_nil_of_le z] at e; cases e
      have hd : w.ds[i]? = some d := by
        have := List.getElem?_drop (xs := w.ds) (i := i) (j := 0)
        rw [e] at this
        simpa using this.symm
      have e' : w.ds.drop (i + 1) = ds := by
        rw [← List.tail_drop, e]; rfl
      obtain ⟨ρ1, ht, hb0⟩ := hs i d ρ m hd h
      have hb := hb0 ⟨I (i + 1), K.nx, I (i + 1), K.rt⟩ (fun _ _ z => z) (fun _ _ z => z) (fun _ _ z => z) (fun _ _ z => z)
      rw [ht]
      show SEv (match body ρ1 m with
        | .next ρ2 m2 => forGo w tg body ds ρ2 m2
        | .cont ρ2 m2 => forGo w tg body ds ρ2 m2
        | .brk ρ2 m2 => .next ρ2 m2
        | .ret v m2 => .ret v m2
        | .exc x ρ2 m2 => .exc x ρ2 m2
        | .bad => .bad) K
      revert hb
      cases body ρ1 m with
      | next ρ2 m2 => exact fun hb => ih (i + 1) ρ2 m2 e' hb hlt
      | cont ρ2 m2 => exact fun hb => ih (i + 1) ρ2 m2 e' hb hlt
      | brk ρ2 m2 => exact fun hb => hb
      | ret v m2 => exact fun hb => hb
      | exc x ρ2 m2 => exact fun hb => hb.elim
      | bad => exact fun hb => hb.elim
  exact go w.ds 0 ρ m rfl h0 (Nat.zero_le _)
theorem Wk.ok_app {w : Wk} {M j : Mem} (h : w.ok M) : w.ok (M ++ j) := by
  unfold Wk.ok at h ⊢
  split <;> rename_i q
  · trivial
  · rename_i p
    rw [q] at h
    have h' : M[p.1]? = some (.lst p.2) := h
    have : p.1 < M.length := by
      rcases Nat.lt_or_ge p.1 M.length with z | z
      · exact z
      · rw [List.getElem?_eq_none z] at h'; cases h'
    rw [List.getElem?_append_left this]; exact h'
/-- a comprehension whose test and element leave the memory as it is -/
theorem lc_pure {α : Type} {w : Wk} {tg : TgFn} {cond : TFn} {elt : EFn} {ρ : Rho} {M : Mem} (xs : List α) (f : α → D) (c : α → Bool) (e : α → D) (hx : w.ds = xs.map f) (hw : w.ok M) (hs : ∀ x ∈ xs, ∀ l, ∃ ρ1, tg (f x) ρ = some ρ1 ∧ cond ρ1 (M ++ [.lst l]) = .ok (c x) (M ++ [.lst l]) ∧ (c x = true → elt ρ1 (M ++ [.lst l]) = .ok (e x) (M ++ [.lst l]))) :
    lcGo w tg cond elt ρ M.length [] w.ds (M ++ [.lst []]) = .ok (.ref M.length) (M ++ [.lst ((xs.filter c).map e)]) := by
  have go : ∀ (ys : List α) (acc : List D), (∀ d ∈ ys, d ∈ xs) → lcGo w tg cond elt ρ M.length acc (ys.map f) (M ++ [.lst acc]) = .ok (.ref M.length) (M ++ [.lst (acc ++ (ys.filter c).map e)]) := by
    intro ys
    induction ys with
    | nil => intro acc _; rw [List.map_nil]; unfold lcGo; rw [if_pos (Wk.ok_app hw)]; simp
    | cons d ds ih =>
      intro acc hm
      obtain ⟨ρ1, h1, h2, h3⟩ := hs d (hm d List.mem_cons_self) acc
      have hk : (M ++ [Cell.lst acc])[M.length]? = some (.lst acc) := by simp
      rw [List.map_cons]
      unfold lcGo
      rw [if_pos (Wk.ok_app hw), h1]
      simp only [h2]
      cases hc : c d with
      | false => simp only [hk, if_true]; rw [ih acc fun x hx => hm x (List.mem_cons_of_mem _ hx)]; simp [hc]
      | true => simp only [h3 hc, hk, if_true]; rw [show (M ++ [Cell.lst acc]).set M.length (.lst (acc ++ [e d])) = M ++ [.lst (acc ++ [e d])] by simp, ih (acc ++ [e d]) fun x hx => hm x (List.mem_cons_of_mem _ hx)]; simp [hc]
  have := go xs [] fun d h => h
  rw [hx]
  simpa using this
theorem eLc_pure {α : Type} {it : IFn} {w : Wk} {tg : TgFn} {cond : TFn} {elt : EFn} {own : List Nat} {ρ : Rho} {M : Mem} (xs : List α) (f : α → D) (c : α → Bool) (e : α → D) (hi : it ρ M = .ok w M) (hx : w.ds = xs.map f) (hl : xs.length ≤ sizeLine) (hw : w.ok M)
    (hs : ∀ x ∈ xs, ∀ l, ∃ ρ1, tg (f x) (wipeR ρ own) = some ρ1 ∧ cond ρ1 (M ++ [.lst l]) = .ok (c x) (M ++ [.lst l]) ∧ (c x = true → elt ρ1 (M ++ [.lst l]) = .ok (e x) (M ++ [.lst l]))) :
    eLc it tg cond elt own ρ M = .ok (.ref M.length) (M ++ [.lst ((xs.filter c).map e)]) := by
  unfold eLc
  rw [hi, bind_ok, if_pos (by rw [hx, List.length_map]; exact hl)]
  exact lc_pure xs f c e hx hw hs
/-- tuple([..]) -/
theorem tlc {α : Type} {it : IFn} {w : Wk} {tg : TgFn} {cond : TFn} {elt : EFn} {own : List Nat} {ρ : Rho} {M : Mem} (xs : List α) (f : α → D) (c : α → Bool) (e : α → D) (hi : it ρ M = .ok w M) (hx : w.ds = xs.map f) (hl : xs.length ≤ sizeLine) (hw : w.ok M) (hp : ∀ x ∈ xs, c x = true → (e x).bel M.length = true)
    (hs : ∀ x ∈ xs, ∀ l, ∃ ρ1, tg (f x) (wipeR ρ own) = some ρ1 ∧ cond ρ1 (M ++ [.lst l]) = .ok (c x) (M ++ [.lst l]) ∧ (c x = true → elt ρ1 (M ++ [.lst l]) = .ok (e x) (M ++ [.lst l]))) :
    eGc (eArgs (on1 gTuple) (aCons (eLc it tg cond elt own) aNil)) ρ M = .ok (.tup ((xs.filter c).map e)) M := by
  refine eGc_pure (j := [.lst ((xs.filter c).map e)]) ?_ ?_
  · simp [eLc_pure xs f c e hi hx hl hw hs, gTuple]
  · simp only [D.bel]
    have : ∀ ys : List α, (∀ y ∈ ys, y ∈ xs) → D.bels M.length ((ys.filter c).map e) = true := by
      intro ys
      induction ys with
      | nil => intro _; simp [D.bels]
      | cons y ys ih =>
        intro h
        have q := ih fun z hz => h z (List.mem_cons_of_mem _ hz)
        cases hc : c y with
        | false => simpa [hc] using q
        | true => simp [hc, D.bels, hp y (h y List.mem_cons_self) hc, q]
    exact this xs fun _ h => h
/-- len([..]) -/
theorem nlc {α : Type} {it : IFn} {w : Wk} {tg : TgFn} {cond : TFn} {elt : EFn} {own : List Nat} {ρ : Rho} {M : Mem} (xs : List α) (f : α → D) (c : α → Bool) (e : α → D) (hi : it ρ M = .ok w M) (hx : w.ds = xs.map f) (hl : xs.length ≤ sizeLine) (hw : w.ok M)
    (hs : ∀ x ∈ xs, ∀ l, ∃ ρ1, tg (f x) (wipeR ρ own) = some ρ1 ∧ cond ρ1 (M ++ [.lst l]) = .ok (c x) (M ++ [.lst l]) ∧ (c x = true → elt ρ1 (M ++ [.lst l]) = .ok (e x) (M ++ [.lst l]))) :
    eGc (eArgs (on1 gLen1) (aCons (eLc it tg cond elt own) aNil)) ρ M = .ok (.int ((xs.filter c).length : Nat)) M := by
  refine eGc_pure (j := [.lst ((xs.filter c).map e)]) ?_ (by simp [D.bel])
  simp [eLc_pure xs f c e hi hx hl hw hs, gLen1]
theorem enD_inv {ds : List D} {i : Nat} {d : D} (h : (enD ds)[i]? = some d) : ∃ x, ds[i]? = some x ∧ d = .tup [.int (i : Nat), x] := by
  have hi : i < ds.length := by
    rcases Nat.lt_or_ge i ds.length with z | z
    · exact z
    · rw [List.getElem?_eq_none (by rw [enD_len]; exact z)] at h; cases h
  have hx : ds[i]? = some ds[i] := List.getElem?_eq_getElem hi
  rw [enD_get hx] at h
  exact ⟨_, hx, (Option.some.inj h).symm⟩
theorem map_get {α β : Type} {f : α → β} {xs : List α} {i : Nat} {y : β} (h : (xs.map f)[i]? = some y) : ∃ x, xs[i]? = some x ∧ y = f x := by
  rw [List.getElem?_map] at h
  cases hx : xs[i]? with
  | none => rw [hx] at h; cases h
  | some x => rw [hx] at h; exact ⟨x, rfl, (Option.some.inj h).symm⟩
theorem get_lt' {α : Type} {xs : List α} {i : Nat} {x : α} (h : xs[i]? = some x) : i < xs.length := by
  rcases Nat.lt_or_ge i xs.length with z | z
  · exact z
  · rw [List.getElem?_eq_none z] at h; cases h
theorem take_snoc {α : Type} {xs : List α} {i : Nat} {x : α} (h : xs[i]? = some x) : xs.take (i + 1) = xs.take i ++ [x] := by
  rw [List.take_add_one, h]; rfl
@[simp] theorem mem_last {M : Mem} {c : Cell} : (M ++ [c])[M.length]? = some c := by simp
@[simp] theorem set_last {M : Mem} {c c' : Cell} : (M ++ [c]).set M.length c' = M ++ [c'] := by simp
theorem rgD_inv {lo : Int} {n i : Nat} {d : D} (h : (rgD lo n)[i]? = some d) : d = .int (lo + (i : Nat)) ∧ i < n := by
  have hi : i < n := by have := get_lt' h; rwa [rgD_len] at this
  rw [rgD_get hi] at h
  exact ⟨(Option.some.inj h).symm, hi⟩
theorem plains_all {ds : List D} : D.plains ds = ds.all D.plain := by
  induction ds with
  | nil => simp [D.plains]
  | cons d ds ih => simp [D.plains, ih]
theorem plains_map {α : Type} {f : α → D} (h : ∀ a, (f a).plain = true) (l : List α) : D.plains (l.map f) = true := by rw [plains_all]; simp [h]
theorem tup_plain {α : Type} {f : α → D} (h : ∀ a, (f a).plain = true) (l : List α) : (D.tup (l.map f)).plain = true := by simp only [D.plain]; exact plains_map h l
theorem szl : sizeLine = 16777216 := sizeLine_eq
@[simp] theorem wkRng1_nat {n : Nat} {m : Mem} : wkRng1 (.int (n : Nat)) m = if in62 n = true then .ok ⟨rgD 0 n, none⟩ m else .bad := id rfl
theorem in62_of {i : Int} (h : i.natAbs ≤ 4611686018427387903) : in62 i = true := Nat.ble_eq_true_of_le h
/-- .. one that may change it: I tells of what is told so far -/
theorem lc_rule {w : Wk} {tg : TgFn} {cond : TFn} {elt : EFn} {ρ : Rho} {k : Nat} {P : D → Mem → Prop} {m : Mem} (I : Nat → List D → Mem → Prop) (h0 : I 0 [] m) (hw : ∀ i acc m, I i acc m → w.ok m ∧ m[k]? = some (.lst acc))
    (hs : ∀ i d acc m, w.ds[i]? = some d → I i acc m → ∃ ρ1, tg d ρ = some ρ1 ∧ ∀ Q : D → Mem → Prop, (∀ y m3, m3[k]? = some (.lst acc) → I (i + 1) (acc ++ [y]) (m3.set k (.lst (acc ++ [y]))) → Q y m3) → Ev (cond ρ1 m) fun c m2 => if c = true then Ev (elt ρ1 m2) Q else m2[k]? = some (.lst acc) ∧ I (i + 1) acc m2)
    (he : ∀ acc m, I w.ds.length acc m → P (.ref k) m) : Ev (lcGo w tg cond elt ρ k [] w.ds m) P := by
  have go : ∀ (ds : List D) (i : Nat) (acc : List D) (m : Mem), w.ds.drop i = ds → I i acc m → i ≤ w.ds.length → Ev (lcGo w tg cond elt ρ k acc ds m) P := by
    intro ds
    induction ds with
    | nil =>
      intro i acc m e h hi
      unfold lcGo
      rw [if_pos (hw i acc m h).1]
      have : w.ds.length ≤ i := List.drop_eq_nil_iff.mp e
      have : i = w.ds.length := by omega
      subst this
      exact he acc m h
    | cons d ds ih =>
      intro i acc m e h hi
      unfold lcGo
      rw [if_pos (hw i acc m h).1]
      have hlt : i < w.ds.length := by
        rcases Nat.lt_or_ge i w.ds.length with z | z
        · exact z
        · rw [List.drop_eq_nil_of_le z] at e; cases e
      have hd : w.ds[i]? = some d := by
        have := List.getElem?_drop (xs := w.ds) (i := i) (j := 0)
        rw [e] at this
        simpa using this.symm
      have e' : w.ds.drop (i + 1) = ds := by rw [← List.tail_drop, e]; rfl
      obtain ⟨ρ1, ht, hb0⟩ := hs i d acc m hd h
      have hb := hb0 (fun y m3 => m3[k]? = some (.lst acc) ∧ I (i + 1) (acc ++ [y]) (m3.set k (.lst (acc ++ [y])))) (fun _ _ a b => ⟨a, b⟩)
      rw [ht]
      simp only
      revert hb
      cases cond ρ1 m with
      | exc x m2 => exact fun hb => hb.elim
      | bad => exact fun hb => hb.elim
      | ok c m2 =>
        cases c with
        | false =>
          intro hb
          have hb' : m2[k]? = some (.lst acc) ∧ I (i + 1) acc m2 := hb
          simp only [hb'.1, if_true]
          exact ih (i + 1) acc m2 e' hb'.2 hlt
        | true =>
          intro hb
          have hb' : Ev (elt ρ1 m2) fun y m3 => m3[k]? = some (.lst acc) ∧ I (i + 1) (acc ++ [y]) (m3.set k (.lst (acc ++ [y]))) := hb
          revert hb'
          simp only
          cases elt ρ1 m2 with
          | exc x m3 => exact fun hb => hb.elim
          | bad => exact fun hb => hb.elim
          | ok y m3 =>
            intro hb'
            have hb2 : m3[k]? = some (.lst acc) ∧ I (i + 1) (acc ++ [y]) (m3.set k (.lst (acc ++ [y]))) := hb'
            simp only [hb2.1, if_true]
            exact ih (i + 1) _ _ e' hb2.2 hlt
  exact go w.ds 0 [] m rfl h0 (Nat.zero_le _)
end DL
set_option Elab.async false
set_option linter.all false
set_option maxRecDepth 100000
set_option maxHeartbeats 4000000
/-! DLOrd: sorted rows of ints. -/
namespace DL
open PySem PySem.W L2
def itup (is : List Int) : D := .tup (is.map .int)
def ltI : List Int → List Int → Bool
  | [], [] => false
  | [], _ :: _ => true
  | _ :: _, [] => false
  | x :: xs, y :: ys => if x = y then ltI xs ys else decide (x < y)
def toksI : List Int → List (Int ⊕ List Nat)
  | [] => [.inl 0]
  | x :: xs => .inl 1 :: .inl x :: toksI xs
theorem toksI_eq (is : List Int) : keyToks (itup is).py = toksI is := by
  show keyToks (.tuple (D.pys (is.map .int))) = _
  rw [keyToks]
  induction is with
  | nil => rfl
  | cons x xs ih =>
    show keyToksAll (.int x :: D.pys (xs.map .int)) = _
    rw [keyToksAll, ih]; rfl
theorem toksI_lt : ∀ a b : List Int, PyProof.Rows.lexLt PyProof.Rows.itemOrd (toksI a) (toksI b) = ltI a b
  | [], [] => by rw [toksI, PyProof.Rows.lex_self (O := PyProof.Rows.itemOrd)]; rfl
  | [], y :: ys => by rw [toksI, toksI, PyProof.Rows.lex_diff (O := PyProof.Rows.itemOrd) (by intro h; cases h)]; rfl
  | x :: xs, [] => by rw [toksI, toksI, PyProof.Rows.lex_diff (O := PyProof.Rows.itemOrd) (by intro h; cases h)]; rfl
  | x :: xs, y :: ys => by
    rw [toksI, toksI, PyProof.Rows.lex_self (O := PyProof.Rows.itemOrd), ltI]
    split
    · rename_i h; subst h; rw [PyProof.Rows.lex_self (O := PyProof.Rows.itemOrd), toksI_lt xs ys]
    · rename_i h
      rw [PyProof.Rows.lex_diff (O := PyProof.Rows.itemOrd) (by intro z; exact h (Sum.inl.inj z))]; rfl
theorem dle_itup (a b : List Int) : dle (itup a) (itup b) = !ltI b a := by
  show (!(PyProof.Rows.lexLt PyProof.Rows.itemOrd (keyToks (itup b).py) (keyToks (itup a).py))) = _
  rw [toksI_eq, toksI_eq, toksI_lt]
theorem ltI_total : ∀ a b : List Int, ltI a b = false → ltI b a = false → a = b
  | [], [], _, _ => rfl
  | [], _ :: _, h, _ => by simp [ltI] at h
  | _ :: _, [], _, h => by simp [ltI] at h
  | x :: xs, y :: ys, h1, h2 => by
    unfold ltI at h1 h2
    by_cases e : x = y
    · subst e; rw [if_pos rfl] at h1 h2; rw [ltI_total xs ys h1 h2]
    · rw [if_neg e] at h1; rw [if_neg (Ne.symm e)] at h2
      have := of_decide_eq_false h1
      have := of_decide_eq_false h2
      omega
theorem dle_total (a b : D) : (dle a b || dle b a) = true := by
  have := (sortLe_total (PyProof.Rows.listOrd PyProof.Rows.itemOrd) false fun d : D => keyToks d.py).total a b
  rw [Bool.or_eq_true]; exact this
theorem dle_trans (a b c : D) (h1 : dle a b = true) (h2 : dle b c = true) : dle a c = true := (sortLe_total (PyProof.Rows.listOrd PyProof.Rows.itemOrd) false fun d : D => keyToks d.py).trans a b c h1 h2
/-- what is sorted already, in any row -/
theorem sort_to {L T : List D} (hp : L.Perm T) (hT : T.Pairwise fun a b => dle a b = true) (ha : ∀ a ∈ T, ∀ b ∈ T, dle a b = true → dle b a = true → a = b) : D.sort L = T := by
  refine List.Perm.eq_of_pairwise (le := fun a b => dle a b = true) (fun a b h1 h2 => ha a ?_ b h2) (List.pairwise_mergeSort (fun a b c => dle_trans a b c) dle_total L) hT ((List.mergeSort_perm L dle).trans hp)
  exact hp.mem_iff.mp ((List.mergeSort_perm L dle).mem_iff.mp h1)
theorem sort_itup {L T : List (List Int)} (hp : L.Perm T) (hT : T.Pairwise fun a b => ltI b a = false) : D.sort (L.map itup) = T.map itup := by
  refine sort_to (hp.map itup) ?_ ?_
  · rw [List.pairwise_map]
    exact hT.imp fun {a b} h => by rw [dle_itup, h]; rfl
  · intro a h1 b h2 h3 h4
    obtain ⟨x, hx, rfl⟩ := List.mem_map.mp h1
    obtain ⟨y, hy, rfl⟩ := List.mem_map.mp h2
    rw [dle_itup] at h3 h4
    rw [ltI_total x y (by simpa using h4) (by simpa using h3)]
theorem itup_plain (is : List Int) : (itup is).plain = true := tup_plain (fun _ => rfl) is
theorem itup_flat (is : List Int) : (itup is).flat = true := by
  unfold D.flat
  rw [itup_plain]
  have : (itup is).py.depth = 1 := by
    show (PyData.tuple (D.pys (is.map .int))).depth = 1
    rw [PyData.depth]
    have : PyData.depthAll (D.pys (is.map .int)) = 0 := by
      induction is with
      | nil => rfl
      | cons x xs ih =>
        show PyData.depthAll (.int x :: D.pys (xs.map .int)) = 0
        rw [PyData.depthAll, ih]; rfl
    rw [this]
  rw [this]; rfl
theorem alike_ints : ∀ a b : List Int, alikeAll (D.pys (a.map .int)) (D.pys (b.map .int)) = true
  | [], _ => by simp [D.pys, alikeAll]
  | _ :: _, [] => by simp [D.pys, alikeAll]
  | x :: xs, y :: ys => by
    show alikeAll (.int x :: D.pys (xs.map .int)) (.int y :: D.pys (ys.map .int)) = true
    rw [alikeAll, alike_ints xs ys]; rfl
theorem okSort_itup {L : List (List Int)} (h : ∀ l ∈ L, l ≠ []) : okSort (L.map itup) = true := by
  unfold okSort
  simp only [Bool.and_eq_true, List.all_map, Bool.or_eq_true]
  refine ⟨⟨?_, ?_⟩, .inl ?_⟩
  · simp [itup_flat]
  · simp only [List.all_eq_true, Function.comp]
    intro a _ b _
    exact alike_ints a b
  · simp only [List.all_eq_true, Function.comp]
    intro a ha
    cases a with
    | nil => exact absurd rfl (h _ ha)
    | cons x xs => rfl
end DL
set_option Elab.async false
set_option linter.all false
set_option maxRecDepth 100000
set_option maxHeartbeats 4000000
/-! DLWhile: while; names of the top that stand for an int or a text. -/
namespace DL
open PySem L2
/-- n turns at most -/
def whileN (c : TFn) (f : SFn) : Nat → Rho → Mem → SO
  | 0, _, _ => .bad
  | n + 1, ρ, m => (c ρ m).so ρ fun b m1 => if b = true then match f ρ m1 with
      | .next ρ2 m2 => whileN c f n ρ2 m2
      | .cont ρ2 m2 => whileN c f n ρ2 m2
      | .brk ρ2 m2 => .next ρ2 m2
      | .ret v m2 => .ret v m2
      | .exc x ρ2 m2 => .exc x ρ2 m2
      | .bad => .bad
    else .next ρ m1
open Classical in
noncomputable def sWhile (c : TFn) (f : SFn) : SFn := fun ρ m => if h : ∃ n, whileN c f n ρ m ≠ .bad then whileN c f (Classical.choose h) ρ m else .bad
theorem while_post {C : Ct} {W : WX} {H : Hp} {φ : List Addr} {ρ : Rho} {m : Mem} {c : TFn} {f : SFn} {D : Ends} (h : PostS C W H φ (sWhile c f ρ m) D) : ∃ n, PostS C W H φ (whileN c f n ρ m) D := by
  unfold sWhile at h
  split at h
  · exact ⟨_, h⟩
  · exact h.elim
section
variable {X : Cx} {W : WX} {f : SFn} {pos : Pos}
theorem sx_while {c : Expr} {t : TFn} {body : List Stmt} (hp : PassesOwn (model X.prog X.w) X.A X.env X.xe) (hc : TX X W c t) (hb : SXs X W body f) : SX X W (.While c body [] pos) (sWhile t f) :=
  PS.imp (ps_while hp hc hb) fun D σ H ⟨ρ, φ, m, hρ, hs, q⟩ => by
    obtain ⟨n, q⟩ := while_post q
    refine ⟨fun n σ H => ∃ ρ φ m, RepE (ct X).K H φ ρ σ ∧ Sim (ct X) H φ m ∧ PostS (ct X) W H φ (whileN t f n ρ m) D, ⟨n, ρ, φ, m, hρ, hs, q⟩, ?_⟩
    rintro n σ1 H1 ⟨ρ1, φ1, m1, hρ1, hs1, q1⟩
    cases n with
    | zero => exact (show False from q1).elim
    | succ n =>
      refine bindS (C := ct X) (W := W) (R := RB) hρ1 hs1 (show PostS (ct X) W H1 φ1 ((t ρ1 m1).so ρ1 _) D from q1) fun b m2 b' H2 φ2 e2 p2 hρ2 hs2 r2 q2 => ?_
      have r2' : b = b' := r2
      subst r2'
      cases b with
      | false => rw [if_neg Bool.false_ne_true] at q2 ⊢; exact PostS.nx (C := ct X) (W := W) (φ := φ2) (m := m2) q2 hρ2 hs2
      | true =>
        rw [if_pos rfl] at q2 ⊢
        refine ⟨fun σ' H' => ∃ ρ φ m, RepE (ct X).K H' φ ρ σ' ∧ Sim (ct X) H' φ m ∧ PostS (ct X) W H' φ (whileN t f n ρ m) D, fun σ' H' hh => ⟨n, Nat.lt_succ_self n, hh⟩, ρ1, φ2, m2, hρ2, hs2, ?_⟩
        revert q2
        cases f ρ1 m2 with
        | next ρ5 m5 => exact fun q3 σ5 H5 φ5 e5 p5 r5 s5 => ⟨ρ5, φ5, m5, r5, s5, PostS.shift q3 e5 p5⟩
        | cont ρ5 m5 => exact fun q3 σ5 H5 φ5 e5 p5 r5 s5 => ⟨ρ5, φ5, m5, r5, s5, PostS.shift q3 e5 p5⟩
        | brk ρ5 m5 => exact fun q3 => q3
        | ret v5 m5 => exact fun q3 => q3
        | exc x ρ5 m5 => exact fun q3 => q3
        | bad => exact fun q3 => q3
end
theorem while_mono {c : TFn} {f : SFn} : ∀ (n : Nat) (ρ : Rho) (m : Mem), whileN c f n ρ m ≠ .bad → ∀ k, n ≤ k → whileN c f k ρ m = whileN c f n ρ m
  | 0, _, _, h, _, _ => absurd rfl h
  | n + 1, ρ, m, h, 0, hk => absurd hk (by omega)
  | n + 1, ρ, m, h, k + 1, hk => by
    unfold whileN at h ⊢
    cases hc : c ρ m with
    | exc x m1 => rfl
    | bad => rfl
    | ok b m1 =>
      rw [hc] at h
      simp only [so_ok] at h ⊢
      cases b with
      | false => rfl
      | true =>
        rw [if_pos rfl] at h ⊢
        rw [if_pos rfl]
        cases hf : f ρ m1 with
        | next ρ2 m2 => rw [hf] at h; exact while_mono n ρ2 m2 h k (by omega)
        | cont ρ2 m2 => rw [hf] at h; exact while_mono n ρ2 m2 h k (by omega)
        | _ => rfl
theorem while_is {c : TFn} {f : SFn} {ρ : Rho} {m : Mem} {n : Nat} (h : whileN c f n ρ m ≠ .bad) : sWhile c f ρ m = whileN c f n ρ m := by
  have h' : ∃ n, whileN c f n ρ m ≠ .bad := ⟨n, h⟩
  unfold sWhile
  rw [dif_pos h']
  have hc := Classical.choose_spec h'
  rcases Nat.le_total n (Classical.choose h') with z | z
  · exact while_mono n ρ m h _ z
  · exact (while_mono _ ρ m hc n z).symm
/-- I n: n more turns are enough -/
theorem while_rule {c : TFn} {f : SFn} {K : Kt} (I : Nat → Rho → Mem → Prop) {n : Nat} {ρ : Rho} {m : Mem} (h0 : I n ρ m)
    (hs : ∀ n ρ m, I n ρ m → Ev (c ρ m) fun b m1 => if b = true then ∀ K' : Kt, (∀ k ρ m, k < n → I k ρ m → K'.nx ρ m) → (∀ k ρ m, k < n → I k ρ m → K'.ct ρ m) → (∀ ρ m, K.nx ρ m → K'.bk ρ m) → (∀ d m, K.rt d m → K'.rt d m) → SEv (f ρ m1) K' else K.nx ρ m1) : SEv (sWhile c f ρ m) K := by
  have go : ∀ (n : Nat) (ρ : Rho) (m : Mem), I n ρ m → ∃ k, SEv (whileN c f k ρ m) K := by
    intro n
    induction n using Nat.strongRecOn with
    | ind n ih =>
      intro ρ m h
      have h1 := hs n ρ m h
      cases hc : c ρ m with
      | exc x m1 => rw [hc] at h1; exact h1.elim
      | bad => rw [hc] at h1; exact h1.elim
      | ok b m1 =>
        rw [hc, ev_ok] at h1
        cases b with
        | false => exact ⟨1, by unfold whileN; rw [hc]; exact h1⟩
        | true =>
          rw [if_pos rfl] at h1
          have h2 := h1 ⟨fun ρ m => ∃ k, k < n ∧ I k ρ m, K.nx, fun ρ m => ∃ k, k < n ∧ I k ρ m, K.rt⟩ (fun k ρ m a b => ⟨k, a, b⟩) (fun k ρ m a b => ⟨k, a, b⟩) (fun _ _ z => z) (fun _ _ z => z)
          cases hf : f ρ m1 with
          | next ρ2 m2 =>
            rw [hf] at h2
            obtain ⟨k, k1, k2⟩ := h2
            obtain ⟨j, hj⟩ := ih k k1 ρ2 m2 k2
            exact ⟨j + 1, by unfold whileN; rw [hc]; rw [so_ok, if_pos rfl, hf]; exact hj⟩
          | cont ρ2 m2 =>
            rw [hf] at h2
            obtain ⟨k, k1, k2⟩ := h2
            obtain ⟨j, hj⟩ := ih k k1 ρ2 m2 k2
            exact ⟨j + 1, by unfold whileN; rw [hc]; rw [so_ok, if_pos rfl, hf]; exact hj⟩
          | brk ρ2 m2 => rw [hf] at h2; exact ⟨1, by unfold whileN; rw [hc]; rw [so_ok, if_pos rfl, hf]; exact h2⟩
          | ret v m2 => rw [hf] at h2; exact ⟨1, by unfold whileN; rw [hc]; rw [so_ok, if_pos rfl, hf]; exact h2⟩
          | exc x ρ2 m2 => rw [hf] at h2; exact h2.elim
          | bad => rw [hf] at h2; exact h2.elim
  obtain ⟨k, hk⟩ := go n ρ m h0
  rw [while_is (n := k) fun z => by rw [z] at hk; exact hk]
  exact hk
/-! ### names of the top -/
theorem ex_globE {X : Cx} {W : WX} {x : Str} {i : Int} {pos : Pos} (hg : Gl X x) (hm : ∃ t, X.mg x = some (.int i t)) (hd : (x == ("__debug__" : Str)) = false := by decide) : EX X W (.Name x pos) (eC (.int i)) := by
  obtain ⟨t, h⟩ := hm
  exact ex_globI hg h hd
theorem ex_globT {X : Cx} {W : WX} {x y : Str} {pos : Pos} (hg : Gl X x) (hm : ∃ t, X.mg x = some (.str y t)) (h : (decide (y.length ≤ 16777216) && PySem.PyData.strOk y) = true := by decide +kernel) (hd : (x == ("__debug__" : Str)) = false := by decide) : EX X W (.Name x pos) (eC (.str y)) := by
  obtain ⟨t, h1⟩ := hm
  exact ex_globS hg h1 h hd
end DL
set_option Elab.async false
set_option linter.all false
set_option maxRecDepth 100000
set_option maxHeartbeats 4000000
/-! DLRec: defs that call themselves or one another: nothing is said of the call that is one too many; max, min of two. -/
namespace DL
open PySem L2
def fBad : Fn := fun _ _ => .bad
theorem cl_bad {P : Program} {w : World} {K : Fg} {mg : Str → Option Value} {base : Heap} {x : Str} {st : Stmt} {ps : List Str} {k : Nat} (D : Df K mg x st)
    (hbind : ∀ (kV doc pm : Value) (an : Option Addr) (cdv ct : Value) (us : List Value), us.length = ps.length → bindArgs (PySem.W.fnOf x x (defArgs st) (defBody st) (defScope st) .none kV doc pm an cdv ct) ⟨us, []⟩ = pure (ps.zip us)) : Cl P w K mg base k x st ps fBad := by
  obtain ⟨f, fd, hm, F⟩ := D
  have no : ∀ vs H Q E, ¬ spD ⟨K, mg⟩ ps.length fBad vs H Q E := fun vs H Q E ⟨_, _, _, _, _, _, q⟩ => q
  exact ⟨f, fd, hm, F, F.binds hbind, ⟨fun vs H Q E h => absurd h (no vs H Q E), fun A outer s H args us vs Q E _ _ _ _ h => absurd h (no vs H Q E)⟩, fun _ _ _ => rfl⟩
def on2I (f : Int → Int → Int) : GN := fun ds m => match ds with | [.int i, .int j] => .ok (.int (f i j)) m | _ => .bad
abbrev gMax2 : GN := on2I fun i j => if j > i then j else i
abbrev gMin2 : GN := on2I fun i j => if j < i then j else i
theorem two_ints {C : Ct} {W : WX} {σ : L2.St} {H : Hp} {φ : List Addr} {m : Mem} {f : Int → Int → Int} {ds : List D} {vs : List V} {Q : VK} (hs : Sim C H φ m) (r : Reps C.K H φ ds vs) (q : Post C W (RD C) σ H φ (on2I f ds m) Q) : ∃ i j, vs = [.int i, .int j] ∧ Q (.int (f i j)) H := by
  match ds, r, q with
  | [.int i, .int j], .cons r1 (.cons r2 .nil), q =>
    cases r1; cases r2
    exact ⟨i, j, rfl, Post.here (C := C) (W := W) (R := RD C) (σ := σ) (φ := φ) (m := m) q hs (.int _)⟩
  | [], _, q => exact (show False from q).elim
  | [_], _, q => exact (show False from (by revert q; cases ‹D› <;> exact fun q => q)).elim
  | d :: e :: _ :: _, _, q => exact (show False from (by revert q; cases d <;> cases e <;> exact fun q => q)).elim
theorem bMax {X : Cx} (hc : X.calm = true) : Bn X "max" (.builtin "max") gMax2 := ⟨_, call_max2 hc, fun W σ H φ m ds vs Q hs r q => two_ints (C := ct X) (W := W) (σ := σ) hs r q⟩
theorem bMin {X : Cx} (hc : X.calm = true) : Bn X "min" (.builtin "min") gMin2 := ⟨_, call_min2 hc, fun W σ H φ m ds vs Q hs r q => two_ints (C := ct X) (W := W) (σ := σ) hs r q⟩
end DL
set_option Elab.async false
set_option linter.all false
set_option maxRecDepth 100000
set_option maxHeartbeats 4000000
/-! DLExt: list.extend by a tuple, < of tuples, tuple * int, sum of a list. -/
namespace DL
section
open PySem L2 PySem.AutoSeq1
theorem ext_tup (l b : Addr) (items items2 : Array Value) (n n2 : Nat) (dct : Option Addr) (sl : Array (Option Value)) (hs0 : ¬(!items.isEmpty && Builtin.List.listTooLong (items.size + items2.size)) = true) (hs1 : items.size ≤ sizeLine) (hs2 : items.size + items2.size ≤ sizeLine + 1) :
    Meets (Builtin.«list.extend» ⟨[.ref l, .ref b], []⟩) (fun _ R s => s.heap.get? l = some { cls := .type "list", dict := none, data := .seq items n, slots := #[] } ∧ s.heap.get? b = some { cls := .type "tuple", dict := dct, data := .seq items2 n2, slots := sl } ∧ R (.ok (.ret Value.none)) { s with heap := s.heap.update l (Obj.mapSeq fun x => x ++ items2), toks := s.toks }) :=
  .of_wp fun prog w A R s h => by
    obtain ⟨hp, g, d, tk, os⟩ := s
    obtain ⟨hl, hb, h⟩ := h
    have f2 := sub_tuple_tuple
    have f3 := sub_list_list
    have f4 := sub_tuple_list
    have f5 := sub_list_tuple
    have hz' : (items ++ items2).size ≤ sizeLine + 1 := by rw [Array.size_append]; exact hs2
    wp_walk using (wpAny_updateSeq hl rfl (hz := hs1) (_hz' := hz')), wpAny_loadPart' hl, wpAny_loadPart' hb
    exact ⟨_, rfl, h⟩
end
open PySem L2
/-! ### list.extend(tuple) -/
def rExtT (K : Fg) : V → List V → Hp → VK → Prop := fun x vs H Q => ∃ l b xs zs, x = .ref l ∧ vs = [.ref b] ∧ H l = some (.lst xs) ∧ SqT K H b zs ∧ xs.length + zs.length ≤ sizeLine ∧ Q .non (upd H l (.lst (xs ++ zs)))
theorem mt_extT {X : Cx} : MtM X "list.extend" (rExtT X.K) := by
  intro pins s σ H x vs v us Q I rx rv h
  obtain ⟨l, b, xs, zs, rfl, rfl, hH, hB, hz, q⟩ := h
  cases rx
  obtain ⟨u, rfl, ru⟩ := rv.one
  cases ru
  obtain ⟨z, its, n, r, hl, e⟩ := I.lstM hH
  obtain ⟨its2, r2, ⟨⟨cls, dd, data, sl⟩, ho, hc, n2, hd⟩, z2⟩ := I.tuple hB
  simp only at hc hd
  subst hc hd
  have e1 := r.length
  have e2 := r2.length
  have hsz : its.toArray.size + its2.toArray.size ≤ sizeLine := by rw [List.size_toArray, List.size_toArray]; omega
  have hlong : ¬ (!its.toArray.isEmpty && Builtin.List.listTooLong (its.toArray.size + its2.toArray.size)) = true := by
    rw [notLongL hsz, Bool.and_false]
    exact Bool.false_ne_true
  refine call_meets F.slot_list_extend ⟨_, e, rfl⟩ F.entry_list_extend (F.args_list_extend_2 _ _)
    (ext_tup l b its.toArray its2.toArray n n2 dd sl hlong (by rw [List.size_toArray]; omega) (by omega)) ⟨e, ho, ?_⟩
  refine ⟨.non, _, I.lset (its' := its ++ its2) hH e (by simp) (r.append r2) ?_, rfl, q⟩
  rw [List.length_append]
  omega
def seqAt (d : D) (m : Mem) : Option (List D) := match d with
  | .tup ds => some ds
  | .rot ds => some ds
  | d => (lstAt d m).map (·.2)
def gExtA : GM := fun x xs m => match lstAt x m, xs with
  | some (k, ds), [y] => match seqAt y m with
    | some es => if ds.length + es.length ≤ sizeLine then .ok .non (m.set k (.lst (ds ++ es))) else .bad
    | none => .bad
  | _, _ => .bad
abbrev rExtA (K : Fg) : V → List V → Hp → VK → Prop := fun x vs H Q => rExtT K x vs H Q ∨ rExtend x vs H Q
theorem mt_extA {X : Cx} : MtM X "list.extend" (rExtA X.K) := by
  intro pins s σ H x vs v us Q I rx rv h
  rcases h with h | h
  · exact mt_extT pins s σ H x vs v us Q I rx rv h
  · exact mt_extend pins s σ H x vs v us Q I rx rv h
theorem ad_extA {C : Ct} : AdM C (rExtA C.K) gExtA := by
  intro W σ H φ m d xs v vs Q hs r rs q
  unfold gExtA at q
  split at q
  · rename_i k ds y he
    obtain ⟨rfl, a, ws, rfl, h2, h3, h4, h5, h6⟩ := lstAt_inv hs r he
    obtain ⟨u, rfl, ru⟩ := Paired.one_l rs
    split at q
    · rename_i es he2
      split at q
      · rename_i hl
        have fin : ∀ zs, Reps C.K H φ es zs → ws.length + zs.length ≤ sizeLine ∧ Q .non (upd H a (.lst (ws ++ zs))) := fun zs rz => by
          refine ⟨by rw [← Paired.len h5, ← Paired.len rz]; exact hl, q.setL hs h2 (by simpa using hl) (Paired.app h5 rz) .non⟩
        have viaL : ∀ k2 es', lstAt y m = some (k2, es') → es' = es → rExtA C.K (.ref a) [u] H Q := fun k2 es' g e => by
          subst e
          obtain ⟨rfl, b, us, rfl, g2, g3, g4, g5, g6⟩ := lstAt_inv hs ru g
          obtain ⟨f1, f2⟩ := fin us g5
          exact .inr ⟨a, b, ws, us, rfl, rfl, h3, g3, f1, f2⟩
        cases ru with
        | tup k1 k2 k3 =>
          cases he2
          obtain ⟨f1, f2⟩ := fin _ k3
          exact .inl ⟨a, _, ws, _, rfl, rfl, h3, SqT.of k2, f1, f2⟩
        | rot k1 k2 k3 =>
          cases he2
          obtain ⟨f1, f2⟩ := fin _ k3
          exact .inl ⟨a, _, ws, _, rfl, rfl, h3, k2, f1, f2⟩
        | ref hk =>
          have he3 : (lstAt (.ref _) m).map (·.2) = some es := he2
          cases hg : lstAt (.ref _) m with
          | none => rw [hg] at he3; cases he3
          | some p => rw [hg] at he3; cases he3; exact viaL p.1 p.2 hg rfl
        | non => cases he2
        | bl _ => cases he2
        | int _ => cases he2
        | str _ _ => cases he2
        | rol _ _ _ => cases he2
        | exo _ => cases he2
      · exact q.elim
    · exact q.elim
  · exact q.elim
section
variable {X : Cx} {W : WX} {o e : Expr} {apos cpos : Pos} {fo fe : EFn}
theorem ex_extendA (ho : EX X W o fo) (he : EX X W e fe) (hbase : attributeBase o "extend" X.env (eval o X.env) = eval o X.env := by rfl)
    (hfew : ((backTo cpos (starEach [e] X.env)).all (fun x => !x.1) && (backToKw cpos (keywordEach [] X.env)).all (fun x => x.1.isSome) && decide ([e].length + ([] : List Keyword).length + (if ([] : List Keyword).isEmpty then 0 else 1) ≤ 30)) = true := by rfl)
    (hline : (apos.endLine == cpos.line) = true := by rfl) (hs : starEach [e] X.env = (false, eval e X.env) :: starEach [] X.env := by rfl) (hplain : (backTo cpos (starEach [] X.env)).any (·.1) = false := by rfl) :
    EX X W (.Call (.Attribute o "extend" apos) [e] [] cpos) (eMeth gExtA fo (aCons fe aNil)) := ex_meth PySem.F.slot_list_extend PySem.F.type_list_extend mt_extA ad_extA ho (ax_cons he ax_nil hs) hbase hfew hline hs hplain
end
/-! ### < of ints, of tuples of ints -/
def intsD : List D → Option (List Int)
  | [] => some []
  | .int i :: r => (intsD r).map (i :: ·)
  | _ :: _ => none
def tupInts (d : D) : Option (List Int) := match d with | .tup ds => intsD ds | .rot ds => intsD ds | _ => none
theorem intsD_rep {K : Fg} {H : Hp} {φ : List Addr} : ∀ {ds : List D} {vs : List V} {ns : List Int}, Reps K H φ ds vs → intsD ds = some ns → vs = ns.map V.int
  | _, _, _, .nil, e => by cases e; rfl
  | _, _, ns, @Paired.cons _ _ _ d v ds vs r t, e => by
    cases d <;> first | (simp [intsD] at e; done) | skip
    rename_i i
    cases r
    cases hq : intsD ds with
    | none => rw [intsD, hq] at e; cases e
    | some ms =>
      rw [intsD, hq] at e
      cases e
      rw [intsD_rep t hq]; rfl
def gLtA : G2 := fun x y m => match x with
  | .int i => match y with | .int j => .ok (.bl (decide (i < j))) m | _ => .bad
  | x => match tupInts x, tupInts y with
    | some ns, some ms => .ok (.bl (HT.lexLt ns ms)) m
    | _, _ => .bad
theorem tupInts_rep {K : Fg} {H : Hp} {φ : List Addr} {d : D} {v : V} {ns : List Int} (r : Rep K H φ d v) (h : tupInts d = some ns) : ∃ a, v = .ref a ∧ SqT K H a (ns.map V.int) := by
  cases r <;> first | (simp [tupInts] at h; done) | skip
  · rename_i h2 h3
    exact ⟨_, rfl, by rw [← intsD_rep h3 h]; exact SqT.of h2⟩
  · rename_i h2 h3
    exact ⟨_, rfl, by rw [← intsD_rep h3 h]; exact h2⟩
theorem gLtA_tup {C : Ct} {x y : D} {m : Mem} {W : WX} {σ : L2.St} {H : Hp} {φ : List Addr} {Q : VK} (hx : ∀ i, x ≠ .int i) (q : Post C W (RD C) σ H φ (gLtA x y m) Q) : ∃ ns ms, tupInts x = some ns ∧ tupInts y = some ms ∧ Post C W (RD C) σ H φ (.ok (.bl (HT.lexLt ns ms)) m) Q := by
  have q' : Post C W (RD C) σ H φ (match tupInts x, tupInts y with
    | some ns, some ms => .ok (.bl (HT.lexLt ns ms)) m
    | _, _ => .bad) Q := by
    cases x <;> first | exact q | exact absurd rfl (hx _)
  split at q'
  · rename_i ns ms h1 h2
    exact ⟨ns, ms, h1, h2, q'⟩
  · exact q'.elim
theorem cLtA {X : Cx} {k : Nat} (hr : Room k X.A) : CmpR X .Lt gLtA := ⟨fun x y H Q => (rI0 fun i j => .bl (decide (i < j))) x y H Q ∨ rLtT X.K x y H Q, op_lt.or (op_ltT hr.units0), by
  intro W σ H φ m d1 d2 v1 v2 Q hs r1 r2 q
  by_cases hd : ∃ i, d1 = .int i
  · obtain ⟨i, rfl⟩ := hd
    cases d2 <;> first | exact (show False from q).elim | skip
    cases r1; cases r2
    exact .inl ⟨_, _, rfl, rfl, Post.here (C := ct X) (W := W) (R := RD (ct X)) (σ := σ) (φ := φ) (m := m) q hs (.bl _)⟩
  · obtain ⟨ns, ms, h1, h2, q'⟩ := gLtA_tup (fun i e => hd ⟨i, e⟩) q
    obtain ⟨a, rfl, g1⟩ := tupInts_rep r1 h1
    obtain ⟨b, rfl, g2⟩ := tupInts_rep r2 h2
    exact .inr ⟨a, b, ns, ms, rfl, rfl, g1, g2, q'.here hs (.bl _)⟩⟩
@[simp] theorem gLtA_int {i j : Int} {m : Mem} : gLtA (.int i) (.int j) m = .ok (.bl (decide (i < j))) m := id rfl
/-! ### tuple * int -/
def gMulT : G2 := fun x y m => match x, y with
  | .tup s, .int j => if s.isEmpty = false ∧ 2 ≤ j ∧ j ≤ 1000 ∧ s.length ≤ 1000 then .ok (.tup (List.replicate j.toNat s).flatten) m else .bad
  | _, _ => .bad
theorem ad_mulT {C : Ct} : Ad2 C (rRepT C.K) gMulT := by
  intro W σ H φ m d1 d2 v1 v2 Q hs r1 r2 q
  cases d1 <;> first | exact (show False from q).elim | skip
  cases d2 <;> first | exact (show False from q).elim | skip
  rename_i s j
  have q' : Post C W (RD C) σ H φ (if s.isEmpty = false ∧ 2 ≤ j ∧ j ≤ 1000 ∧ s.length ≤ 1000 then .ok (.tup (List.replicate j.toNat s).flatten) m else .bad) Q := q
  split at q'
  · rename_i h
    obtain ⟨h1, h2, h3, h4⟩ := h
    cases r1 with
    | tup k1 k2 k3 =>
      cases r2
      rename_i vs
      have hj : j.toNat ≤ 1000 := by omega
      have hz : s.length * j.toNat ≤ 1000 * 1000 := Nat.mul_le_mul h4 hj
      refine ⟨_, j, _, rfl, rfl, SqT.of k2, fun e => ?_, h2, h3, by rw [← Paired.len k3]; exact h4, q'.newTup hs (by rw [rep_len, sizeLine_eq]; omega) (Paired.rep k3 _)⟩
      subst e
      cases k3
      cases h1
  · exact q'.elim
theorem ex_mulT {X : Cx} {W : WX} {a b : Expr} {fa fb : EFn} {pos : Pos} (ha : EX X W a fa) (hb : EX X W b fb) : EX X W (.BinOp a .Mult b pos) (eBin gMulT fa fb) := ex_op op_repT ad_mulT ha hb
/-! ### sum -/
def gSum1 (d : D) (m : Mem) : Out D := match d with
  | .rol ds => match intsD ds with | some ns => .ok (.int ns.sum) m | none => .bad
  | d => match lstAt d m with
    | some (_, ds) => match intsD ds with | some ns => .ok (.int ns.sum) m | none => .bad
    | none => .bad
theorem bSum {X : Cx} (hc : X.calm = true) : Bn X "sum" (.builtin "sum") (on1 gSum1) := ⟨_, cr_sum hc, by
  intro W σ H φ m ds vs Q hs r q
  obtain ⟨d, v, rfl, rfl, r, q⟩ := one_of r q
  by_cases hd : ∃ xs, d = .rol xs
  · obtain ⟨xs, rfl⟩ := hd
    cases r with
    | rol h1 h2 h3 =>
      have q' : Post (ct X) W (RD (ct X)) σ H φ (match intsD xs with | some ns => .ok (.int ns.sum) m | none => .bad) Q := q
      split at q'
      · rename_i ns hn
        exact ⟨_, ns, rfl, by rw [← intsD_rep h3 hn]; exact h2.sq, q'.here hs (.int _)⟩
      · exact q'.elim
  · have q' : Post (ct X) W (RD (ct X)) σ H φ (match lstAt d m with
      | some (_, ds) => match intsD ds with | some ns => .ok (.int ns.sum) m | none => .bad
      | none => .bad) Q := by
      cases d <;> first | exact q | exact absurd ⟨_, rfl⟩ hd
    split at q'
    · rename_i k ds he
      obtain ⟨rfl, a, ws, rfl, h2, h3, h4, h5, h6⟩ := lstAt_inv hs r he
      split at q'
      · rename_i ns hn
        exact ⟨_, ns, rfl, by rw [← intsD_rep h5 hn]; exact SqL.of h3, q'.here hs (.int _)⟩
      · exact q'.elim
    · exact q'.elim⟩
end DL
set_option Elab.async false
set_option linter.all false
set_option maxRecDepth 100000
set_option maxHeartbeats 4000000
/-! DLExc: own classes of exceptions whose __init__ lays its arguments down: raise, try, reading the caught one. -/
namespace DL
open PySem L2 PySem.Spec PyProof.Rows

/-! ### __init__ -/
/-- self.f = f, field by field -/
def tIn (K : Fg) : Nat → List Str → TS
  | _, [] => tNext
  | i, f :: fs => tSeq (tOst K f (tVar 0) (tVar i)) (tIn K (i + 1) fs)
def spI (K : Fg) (fs : List Str) : Sp := fun vs H Q _ => ∃ (a C : Addr) (ws : List V), vs = .ref a :: ws ∧ ws.length = fs.length ∧ fs.length ≤ 900 ∧ fs ≠ [] ∧ OexC K C ∧ (∀ f ∈ fs, PySem.W.findIn K (.ref C) f = some none) ∧ H a = some (exo a C none) ∧
  ∀ (d : Addr) (H' : Hp), H d = none → d ≠ a → H' a = some (exo a C (some d)) → H' d = some (exd d (fs.zip ws).reverse) → (∀ b, b ≠ a → b ≠ d → H' b = H b) → Q .non H'
theorem in_more {K : Fg} {D : Ends} {a C d : Addr} (T : OexC K C) (hda : d ≠ a) : ∀ (fs : List Str) (i : Nat) (ws : List V) (acc : List (Str × V)) (σ : L2.St) (H : Hp), ws.length = fs.length → σ[0]? = some (some (.ref a)) → (∀ j w, ws[j]? = some w → σ[i + j]? = some (some w)) →
    (∀ f ∈ fs, PySem.W.findIn K (.ref C) f = some none) → H a = some (exo a C (some d)) → H d = some (exd d acc) → acc.length + fs.length ≤ 900 →
    (∀ H', H' a = some (exo a C (some d)) → H' d = some (exd d ((fs.zip ws).reverse ++ acc)) → (∀ b, b ≠ a → b ≠ d → H' b = H b) → D.nx σ H') → tIn K i fs D σ H
  | [], i, ws, acc, σ, H, hl, h0, hw, hf, ha, hd, hz, k => by
    cases ws with
    | nil => exact k H ha (by simpa using hd) fun _ _ _ => rfl
    | cons _ _ => cases hl
  | f :: fs, i, [], acc, σ, H, hl, _, _, _, _, _, _, _ => nomatch hl
  | f :: fs, i, w :: ws, acc, σ, H, hl, h0, hw, hf, ha, hd, hz, k => by
    refine ⟨w, by have := hw 0 w rfl; simpa using this, .ref a, h0, a, C, rfl, T, hf f (List.mem_cons_self ..), .inr ⟨d, acc, ha, hd, by simp at hz; omega, ?_⟩⟩
    refine in_more T hda fs (i + 1) ws ((f, w) :: acc) σ _ (by simpa using hl) h0 (fun j u hu => ?_) (fun g hg => hf g (List.mem_cons_of_mem _ hg)) (by rw [upd_ne (Ne.symm hda)]; exact ha) upd_same (by simp at hz ⊢; omega) fun H' h1 h2 h3 => ?_
    · have := hw (j + 1) u (by simpa using hu)
      rw [show i + (j + 1) = i + 1 + j from by omega] at this
      exact this
    · refine k H' h1 (by simpa using h2) fun b hb hb' => ?_
      rw [h3 b hb hb', upd_ne hb']
theorem in_ok {K : Fg} {fs : List Str} {vs : List V} {H : Hp} {Q : VK} {E : XK} (h : spI K fs vs H Q E) : tIn K 1 fs { nx := fun _ H' => Q .non H', rt := Q } (L2.start (("self" : Str) :: fs) vs) H := by
  obtain ⟨a, C, ws, rfl, hl, hz, hne, T, hf, ha, k⟩ := h
  cases fs with
  | nil => exact absurd rfl hne
  | cons f fs =>
    cases ws with
    | nil => cases hl
    | cons w ws =>
      have hs : ∀ j u, (w :: ws)[j]? = some u → (L2.start (("self" : Str) :: f :: fs) (.ref a :: w :: ws))[1 + j]? = some (some u) := fun j u hu => by
        have hj : j < (w :: ws).length := by
          rcases Nat.lt_or_ge j (w :: ws).length with z | z
          · exact z
          · rw [List.getElem?_eq_none z] at hu; cases hu
        unfold L2.start
        rw [List.getElem?_append_left (by simp at hj ⊢; omega), List.getElem?_map, Nat.add_comm 1 j, List.getElem?_cons_succ, hu]; rfl
      have h0 : (L2.start (("self" : Str) :: f :: fs) (.ref a :: w :: ws))[0]? = some (some (.ref a)) := rfl
      refine ⟨w, hs 0 w rfl, .ref a, h0, a, C, rfl, T, hf f (List.mem_cons_self ..), .inl ⟨ha, fun d hd hda => ?_⟩⟩
      refine in_more T hda fs 2 ws [(f, w)] _ _ (by simpa using hl) h0 (fun j u hu => ?_) (fun g hg => hf g (List.mem_cons_of_mem _ hg)) upd_same (by rw [upd_ne hda]; exact upd_same) (by simp at hz ⊢; omega) fun H' h1 h2 h3 => ?_
      · have := hs (j + 1) u (by simpa using hu)
        rw [show 1 + (j + 1) = 2 + j from by omega] at this
        exact this
      · refine k d H' hd hda h1 (by simpa using h2) fun b hb hb' => ?_
        rw [h3 b hb hb', upd_ne hb, upd_ne hb']
/-- a class statement's first def -/
def clsDef (st : Stmt) : Stmt := match st with | .ClassDef _ _ _ body _ _ _ _ _ _ _ => body.getD 0 (.Pass ⟨0, 0, 0, 0⟩) | _ => .Pass ⟨0, 0, 0, 0⟩
theorem fn_init {P : Program} {w : World} {K : Fg} {mg : Str → Option Value} {base : Heap} {qual : Str} {st : Stmt} {f : Addr} {fd : FuncData} {fs : List Str} (F : Fun K "__init__" qual st f fd) (S : FnScope (("self" : Str) :: fs) (("self" : Str) :: fs) (defScope st))
    (hb : ∀ (cdv : Value) (A : Around) (outer : List Env) (s : Shared) (H : Hp) (E : XK), PSs (cxOf (L2.CX P w) P w K mg base (("self" : Str) :: fs) qual (defScope st) f cdv A outer s H E) (defBody st) (tIn K 1 fs)) :
    FnOk P w K mg base (L2.CX P w) 1 f fd (("self" : Str) :: fs) (spI K fs) := by
  refine F.okX (k := 0) S (fun vs H Q E h => ?_) fun cdv A outer s H vs Q E hr h => ⟨_, hb cdv A outer s H E, in_ok h⟩
  obtain ⟨a, C, ws, rfl, hl, _⟩ := h
  simpa using hl

/-! ### what is known of the classes -/
structure XC (K : Fg) (mg : Str → Option Value) (x : Str) (C : Addr) : Prop where
  g : mg x = some (.ref C)
  sb : PySem.W.subIn K (.ref C) (.type "BaseException") = some true
  ty : PySem.W.typeIn K (.ref C) = some (.type "type")
  hd : PySem.W.hasDictIn K C = true
  me : PySem.W.subIn K (.ref C) (.ref C) = some true
/-- a class that is raised -/
structure XR (K : Fg) (C : Addr) (fs : List Str) : Prop where
  ox : OexC K C
  ga : PySem.W.findIn K (.ref C) "__getattribute__" = some (some (.builtin "BaseException.__getattribute__"))
  gg : PySem.W.findIn K (.ref C) "__getattr__" = some none
  cl : PySem.W.findIn K (.ref C) "__class__" = some (some (.builtin "object.__class__"))
  gs : PySem.W.specialIn K (.builtin "object.__class__") "__get__" = some (some (.builtin "getset_descriptor.__get__"))
  tk : PySem.W.takesIn K (.builtin "object.__class__") = some true
  mo : PySem.W.mroIn K C (.type "object") = some true
  no : ∀ f ∈ fs, PySem.W.findIn K (.ref C) f = some none
/-- the class x can be made: its __init__ lays down fs -/
def Mk (P : Program) (w : World) (K : Fg) (mg : Str → Option Value) (base : Heap) (x : Str) (fs : List Str) : Prop := ∃ C, XC K mg x C ∧ XR K C fs ∧ ∃ fI fd, PySem.W.findIn K (.ref C) "__init__" = some (some (.ref fI)) ∧ PySem.W.typeIn K (.ref fI) = some (.type "function") ∧
  FnOk P w K mg base (L2.CX P w) 1 fI fd (("self" : Str) :: fs) (spI K fs) ∧ Binds K fd (("self" : Str) :: fs) []
theorem oexC_of {K : Fg} {C : Addr} {nm q : Str} {N : Addr} {bs bm : List Value} {sn : List Str} {sub : List Value} {ab : Bool} {col : Option Bool} {dd : Option Addr} {m0 m1 m2 m3 m5 : Option Value} (l : K.lookup C = some (excClassObj nm q C N bs bm true sn sub ab col dd m0 m1 m2 m3 m5 "ValueError.__new__")) (h : PySem.HandSPX.refsVE bm = true)
    (sa : PySem.W.findIn K (.ref C) "__setattr__" = some (some (.builtin "object.__setattr__"))) (sb : PySem.W.subIn K (.ref C) (.type "BaseException") = some true) (ty : PySem.W.typeIn K (.ref C) = some (.type "type")) (kp : PySem.W.keepIn K (.ref C) = true) : OexC K C :=
  ⟨⟨nm, q, N, bs, bm, sn, sub, ab, col, dd, m0, m1, m2, m3, m5, l, h⟩, sa, sb, ty, kp⟩
theorem mk_init {P : Program} {w : World} {K : Fg} {mg : Str → Option Value} {base : Heap} {x qual : Str} {C fI : Addr} {st : Stmt} {fd : FuncData} {fs : List Str} (c : XC K mg x C) (r : XR K C fs) (hi : PySem.W.findIn K (.ref C) "__init__" = some (some (.ref fI))) (ti : PySem.W.typeIn K (.ref fI) = some (.type "function"))
    (F : Fun K "__init__" qual st fI fd) (S : FnScope (("self" : Str) :: fs) (("self" : Str) :: fs) (defScope st))
    (hbind : ∀ (kV doc pm : Value) (an : Option Addr) (cdv ct : Value) (us : List Value), us.length = (("self" : Str) :: fs).length → bindArgs (PySem.W.fnOf "__init__" qual (defArgs st) (defBody st) (defScope st) .none kV doc pm an cdv ct) ⟨us, []⟩ = pure ((("self" : Str) :: fs).zip us))
    (hb : ∀ (cdv : Value) (A : Around) (outer : List Env) (s : Shared) (H : Hp) (E : XK), PSs (cxOf (L2.CX P w) P w K mg base (("self" : Str) :: fs) qual (defScope st) fI cdv A outer s H E) (defBody st) (tIn K 1 fs)) : Mk P w K mg base x fs :=
  ⟨C, c, r, fI, fd, hi, ti, fn_init F S hb, F.binds hbind⟩
theorem exm_of {K : Fg} {C D : Addr} {b : Bool} {mg : Str → Option Value} {y : Str} (d : XC K mg y D) (s : PySem.W.subIn K (.ref C) (.ref D) = some b) : PySem.W.exmOne K (.ref C) (.ref D) = some b := PySem.W.exm_ref d.sb d.hd d.ty s
theorem kit_of {K : Fg} {C D : Addr} {b : Bool} {mg : Str → Option Value} {y : Str} (d : XC K mg y D) (s : PySem.W.subIn K (.ref C) (.ref D) = some b) : PySem.W.kitOne K (.ref C) (.ref D) = some b := by
  obtain ⟨cd, hc, _⟩ := PySem.W.any_some d.hd
  unfold PySem.W.kitOne
  by_cases e : (Value.ref C == Value.ref D) = true
  · rw [if_pos e]
    have e' : C = D := Value.ref.inj (beq_iff_eq.mp e)
    subst e'
    rw [d.me] at s
    exact s
  · rw [if_neg e]
    have e2 : ((PySem.W.clsIn K D).isSome && PySem.W.typeIn K (.ref D) == some (.type "type")) = true := by rw [hc, d.ty] <;> rfl
    show (if ((PySem.W.clsIn K D).isSome && PySem.W.typeIn K (.ref D) == some (.type "type")) = true then PySem.W.subIn K (.ref C) (.ref D) else none) = some b
    rw [if_pos e2]
    exact s
/-- raised classes against one class: which are of it -/
def Tab (K : Fg) (mg : Str → Option Value) (y : Str) (tab : List (Str × Bool)) : Prop := ∃ D, XC K mg y D ∧ ∀ n b, (n, b) ∈ tab → ∃ C, mg n = some (.ref C) ∧ PySem.W.subIn K (.ref C) (.ref D) = some b

/-! ### raise x(..) -/
def sRaise (x : Str) (fs : List Str) (a : AFn) : SFn := fun ρ m => (a ρ m).so ρ fun ds m1 => if ds.length = fs.length then .exc ⟨x, (fs.zip ds).reverse⟩ ρ m1 else .bad
theorem zip_rep {K : Fg} {H : Hp} {φ : List Addr} : ∀ {fs : List Str} {ds : List D} {vs : List V}, Reps K H φ ds vs → RepK K H φ (fs.zip ds) (fs.zip vs)
  | [], _, _, _ => by simpa using Paired.nil
  | _ :: _, _, _, .nil => by simpa using Paired.nil
  | f :: fs, _, _, .cons r t => .cons ⟨rfl, r⟩ (zip_rep t)
theorem RepK.mono' {K : Fg} {H H' : Hp} {φ : List Addr} {l : List (Str × D)} {l' : List (Str × V)} (e : Ext K H H') (h : RepK K H φ l l') : RepK K H' φ l l' := RepK.mono e (List.prefix_refl _) h
theorem sx_raise {X : Cx} {W : WX} {e : Expr} {es : List Expr} {x : Str} {p pos pos2 : Pos} {fs : List Str} {fa : AFn} (M : Mk X.prog X.w X.K X.mg X.base x fs) (hn : fs.length ≤ 900 ∧ fs ≠ []) (hc : X.calm = true) (hr : Room 2 X.A) (tk : Takes X W) (hg : Gl X x) (ha : AX X W (e :: es) fa)
    (hdb : (x == ("__debug__" : Str)) = false := by decide) (he : starEach (e :: es) X.env = (false, eval e X.env) :: starEach es X.env := by rfl) (hpl : (backTo pos (starEach es X.env)).any (·.1) = false := by rfl) :
    SX X W (.Raise (some (.Call (.Name x p) (e :: es) [] pos)) none pos2) (sRaise x fs fa) := by
  obtain ⟨C, xc, xr, fI, fd, hi, ti, F1, hb⟩ := M
  refine PS.imp (ps_raise hc tk (pmk_oex (k := 1) xr.ox hi ti F1 hr hb .nil passL hg xc.g ha hdb he hpl)) fun D σ H ⟨ρ, φ, m, hρ, hs, q⟩ => bindS hρ hs q fun ds m1 vs H1 φ1 e1 p1 hρ1 hs1 r1 q1 => ?_
  have q1' : PostS (ct X) W H1 φ1 (if ds.length = fs.length then .exc ⟨x, (fs.zip ds).reverse⟩ ρ m1 else .bad) D := q1
  split at q1'
  · rename_i hl
    have hv : vs.length = fs.length := by rw [← Paired.len r1]; exact hl
    refine ⟨by rw [hv]; omega, fun a hna => ?_⟩
    have ua : ∀ b, b ≠ a → upd H1 a (exo a C none) b = H1 b := fun b hb => upd_ne hb
    refine ⟨a, C, vs, by rw [List.append_nil], hv, hn.1, hn.2, xr.ox, xr.no, upd_same, fun d H' hd hda h1 h2 h3 => ?_⟩
    rw [ua d hda] at hd
    refine ⟨rfl, d, _, h1, h2, hd, ?_⟩
    have eH : upd (del H' a) d (.xd (fs.zip vs).reverse) = upd H1 d (.xd (fs.zip vs).reverse) := by
      funext b
      by_cases hb : b = d
      · rw [hb, upd_same, upd_same]
      · rw [upd_ne hb, upd_ne hb]
        by_cases hb2 : b = a
        · rw [hb2, del_same, hna]
        · rw [del_ne hb2, h3 b hb2 hb, ua b hb2]
    rw [eH]
    have ex : Ext X.K H1 (upd H1 d (.xd (fs.zip vs).reverse)) := Ext.new hd
    exact q1' (.ref C) (some d) σ _ φ1 ex (List.prefix_refl _) ⟨xc.g, d, _, rfl, hs1.notin hd, upd_same, RepK.mono' ex (Paired.rv (zip_rep r1))⟩ (hρ1.mono ex (List.prefix_refl _)) (hs1.side hd)
  · exact q1'.elim

/-! ### clauses -/
section
variable {X : Cx}
/-- an exception has come down where it is caught -/
structure Landed (X : Cx) (pins : List (Addr × Obj)) (σ : L2.St) (H : Hp) (a : Addr) (cls : Value) (d : Option Addr) (s : Shared) : Prop where
  ex : ∃ (B : Heap) (sI : Shared), Inv X pins σ H sI ∧ (∀ b o, sI.heap.get? b = some o → b ∉ frs X.stack → B.get? b = some o) ∧ sI.heap.UpToSlots s.heap ∧ HandSPX.FlyingZ B (X.env :: X.outer) a (Zc cls d) s.heap ∧ H a = none ∧ s.os = sI.os ∧ AllBare s.gens
/-- what a row of clauses makes of it -/
def HB (X : Cx) (hds : List ExceptHandler) (w : Ends → WX) : Prop := ∀ (D : Ends) (pins : List (Addr × Obj)) (σ : L2.St) (H : Hp) (a : Addr) (cls : Value) (d : Option Addr) (s : Shared), Landed X pins σ H a cls d s → w D cls d σ H →
  wpAny (model X.prog X.w) X.A (handleBy (.ref a) X.env hds) (SP X pins D) X.xe s
theorem ps_tryX {body : List Stmt} {h₀ : ExceptHandler} {hds : List ExceptHandler} {pos : Pos} {tb : WX → TS} {w : Ends → WX} (hs : X.stack = X.env :: X.outer) (hf : X.env.frame = some X.env.locals)
    (hb : ∀ (W : WX) (pn : List (Addr × Obj)) (xe : Value → Shared → Prop), Takes (X.tr pn xe) W → PassesOwn (model X.prog X.w) X.A X.env xe → PSs (X.tr pn xe) body (tb W)) (hh : HB X (h₀ :: hds) w) :
    PS X (.Try body (h₀ :: hds) [] [] pos) (fun D σ H => tb (w D) D σ H) := by
  refine ⟨fun pins s σ H D I h => wpAny_Try_except ?_⟩
  have ok := I.ok
  have hfr : X.A.frames = some (X.env :: X.outer) := by rw [ok.frames, hs]
  refine wpAny_mono ((hb (w D) (X.pn ++ pins) _ (fun u s' xx => ?_) PassesOwn.looking).run [] s σ H D (I.toTry _) h) (fun f s1 hsp => ?_) (fun e s1 he => he)
  · obtain ⟨a, B, sI, pins', σ', H', cls, d, rfl, J', nb, up, sky, na, os, ag, q⟩ := xx
    have sky' : Sky B (X.env :: X.outer) a (Zc cls d) X.env.locals s'.heap := by rw [← hs]; exact sky
    show wpAny (model X.prog X.w) X.A (noteFrame (.ref a) X.env) _ _ _
    exact Sky.land Zc.steady hfr hf sky' fun h3 fl up3 => hh D pins σ' H' a cls d { s' with heap := h3 } ⟨B, sI, J'.ofTry ok, nb, up.trans up3, fl, na, os, ag⟩ q
  · have out : SP X pins D f s1 := by
      cases f with
      | next =>
        obtain ⟨σ', H', J', q⟩ := hsp
        exact ⟨σ', H', J'.ofTry ok, q⟩
      | brk =>
        obtain ⟨σ', H', J', q⟩ := hsp
        exact ⟨σ', H', J'.ofTry ok, q⟩
      | cont =>
        obtain ⟨σ', H', J', q⟩ := hsp
        exact ⟨σ', H', J'.ofTry ok, q⟩
      | ret u =>
        obtain ⟨v, σ', H', J', r, q⟩ := hsp
        exact ⟨v, σ', H', J'.ofTry ok, r, q⟩
    cases f with
    | next => exact wpAny_execs_nil out
    | brk => exact out
    | cont => exact out
    | ret u => exact out
theorem hb_nil {W : WX} (hs : X.stack = X.env :: X.outer) (hf : X.env.frame = some X.env.locals) (tk : Takes X W) : HB X [] (fun _ => W) := by
  intro D pins σ H a cls d s ⟨B, sI, J, nb, up, fl, na, os, ag⟩ w
  refine wpAny_handleBy_nil ?_
  obtain ⟨_, _, _, oe, vs, T, oT, ts', he, hz, hd, h1, hr⟩ := id fl
  unfold PySem.passOn
  refine wpAny_bind (wpAny_field he hd h1 ?_)
  rw [if_neg (show ¬ ((Value.ref T == Value.none) = true) from by simp)]
  have fin : wpAny (model X.prog X.w) X.A (setFlight (.ref a) X.env.frame) (fun _ s4 => wpAny (model X.prog X.w) X.A (throw (.ref a) : Sem Flow) (SP X pins D) X.xe s4) X.xe s := by
    rw [hf]
    exact HandSPX.setFlight_upZ fl fun h4 hh4 up4 => wpAny_throw (tk _ _ ⟨a, B, sI, pins, σ, H, cls, d, rfl, J, nb, up.trans up4, .inr (.inr (by rw [hs]; exact hh4)), na, os, ag, w⟩)
  first
    | exact wpAny_bind (wpAny_pure (wpAny_bind fin))
    | exact wpAny_bind fin
/-- where the suite runs -/
theorem Landed.suite {pins : List (Addr × Obj)} {σ : L2.St} {H : Hp} {a : Addr} {cls : Value} {d : Option Addr} {s : Shared} (hf : X.env.frame = some X.env.locals) {B : Heap} {sI : Shared} (J : Inv X pins σ H sI) (nb : ∀ b o, sI.heap.get? b = some o → b ∉ frs X.stack → B.get? b = some o) (up : sI.heap.UpToSlots s.heap)
    (fl : HandSPX.FlyingZ B (X.env :: X.outer) a (Zc cls d) s.heap) (na : H a = none) (os : s.os = sI.os) (ag : AllBare s.gens) :
    ∃ (oe : Obj) (vs : Array Value), s.heap.get? a = some oe ∧ Zc cls d oe ∧ oe.data = .fields vs ∧ Inv (X.suite a ((a, oe) :: (X.pn ++ pins))) [] σ H s := by
  have J3 : Inv X pins σ H s := J.landed nb fl.1 up os ag
  obtain ⟨oe, vs, he, hz, hd⟩ := fl.there
  have nfr : a ∉ frs (X.env :: X.outer) := fun hm => by
    obtain ⟨_, o', e', hnf⟩ := fl.2.2.1.mem hm
    rw [he] at e'; cases e'
    exact hnf _ hd
  exact ⟨oe, vs, he, hz, hd, J3.suite he hd na (fun z => nfr (List.mem_filterMap.mpr ⟨X.env, List.mem_cons_self, by rw [hf, z]⟩)) fun hm => by
    obtain ⟨e, he, q⟩ := List.mem_filterMap.mp hm
    exact nfr (List.mem_filterMap.mpr ⟨e, List.mem_cons_of_mem _ he, q⟩)⟩
/-- the class is asked for -/
theorem clause_test {pins : List (Addr × Obj)} {σ : L2.St} {H : Hp} {a : Addr} {oe : Obj} {cls c : Value} {b : Bool} {s : Shared} {x : Str} {np : Pos} {Q : Value → Shared → Prop} {E : Value → Shared → Prop} (hc : Names X x c) (S : Inv (X.suite a ((a, oe) :: (X.pn ++ pins))) [] σ H s)
    (q : Q c s) : wpAny (model X.prog X.w) (X.A.mark (some (.ref a))) (eval (.Name x np) X.env) Q E s := by
  obtain ⟨hg, hdbg, hm | ⟨hm, hv, hnn⟩⟩ := hc
  · exact ld_glob (X := X.suite a ((a, oe) :: (X.pn ++ pins))) S hg hm q hdbg
  · exact ld_blt (X := X.suite a ((a, oe) :: (X.pn ++ pins))) S hg hm hv q hnn hdbg
theorem hb_cons {x : Str} {c : Value} {ts : Addr → Value → Option Addr → TS} {b₀ : Stmt} {suite : List Stmt} {np pos' : Pos} {hds : List ExceptHandler} {w : Ends → WX} (hf : X.env.frame = some X.env.locals) (hc : Names X x c)
    (hsu : ∀ (a : Addr) (oe : Obj) (cls : Value) (d : Option Addr) (pn : List (Addr × Obj)), Zc cls d oe → (∃ vs, oe.data = .fields vs) → PSs (X.suite a ((a, oe) :: pn)) (b₀ :: suite) (ts a cls d)) (r : HB X hds w) :
    HB X (.ExceptHandler (some (.Name x np)) none (b₀ :: suite) pos' :: hds) (fun D cls d σ H => ∃ b, PySem.W.exmOne X.K cls c = some b ∧ (b = true → ∀ a, H a = none → ts a cls d D σ H) ∧ (b = false → w D cls d σ H)) := by
  intro D pins σ H a cls d s L ⟨b, hb1, hyes, hno⟩
  obtain ⟨B, sI, J, nb, up, fl, na, os, ag⟩ := L.ex
  obtain ⟨oe3, vs3, he3, hz3, hd3, S3⟩ := Landed.suite hf J nb up fl na os ag
  refine wpAny_handleBy_cons (codeAny_handlers_test ?_) (by intro q; cases q)
  have LT : PySem.W.Looks (model X.prog X.w) s.heap (typeOf (.ref a)) cls := fun A Q E s k q => wpAny_typeOf_ref (k _ _ he3) (by rw [hz3.1]; exact q)
  have LM := PySem.W.exm_one (M := model X.prog X.w) ((S3.unsuite J.ok).kIn) LT hb1
  refine clause_test (b := b) (cls := cls) hc S3 (LM.here ?_)
  cases b with
  | true =>
    refine codeAny_handlers_suite ?_
    refine HandSPX.lands_againZ fl fun h4 fl4 up4 => ?_
    obtain ⟨oe4, vs4, he4, hz4, hd4, S4⟩ := Landed.suite (s := { s with heap := h4 }) hf J nb (up.trans up4) fl4 na os ag
    refine wpAny_mono ((hsu a oe4 cls d (X.pn ++ pins) hz4 ⟨_, hd4⟩).run [] _ _ H _ S4 (hyes rfl a na)) (fun f s6 hsp => ?_) (fun _ _ z => False.elim z)
    cases f with
    | next =>
      obtain ⟨σ6, H6, S6, q6⟩ := hsp
      exact ⟨_, _, S6.unsuite J.ok, q6⟩
    | brk =>
      obtain ⟨σ6, H6, S6, q6⟩ := hsp
      exact ⟨_, _, S6.unsuite J.ok, q6⟩
    | cont =>
      obtain ⟨σ6, H6, S6, q6⟩ := hsp
      exact ⟨_, _, S6.unsuite J.ok, q6⟩
    | ret u =>
      obtain ⟨v6, σ6, H6, S6, r6, q6⟩ := hsp
      exact ⟨_, _, _, S6.unsuite J.ok, r6, q6⟩
  | false => exact r D pins σ H a cls d s L (hno rfl)
theorem hb_as {x n : Str} {i : Nat} {c : Value} {ts : Addr → Value → Option Addr → TS} {b₀ : Stmt} {suite : List Stmt} {np pos' : Pos} {hds : List ExceptHandler} {w : Ends → WX} (hf : X.env.frame = some X.env.locals) (hN : X.N.Nodup) (hi : X.N[i]? = some n) (hln : X.env.kindOf n = some .local) (hc : Names X x c)
    (hsu : ∀ (a : Addr) (oe : Obj) (cls : Value) (d : Option Addr) (pn : List (Addr × Obj)), Zc cls d oe → (∃ vs, oe.data = .fields vs) → PSs (X.suite a ((a, oe) :: pn)) (b₀ :: suite) (ts a cls d)) (r : HB X hds w) :
    HB X (.ExceptHandler (some (.Name x np)) (some n) (b₀ :: suite) pos' :: hds) (fun D cls d σ H => ∃ b, PySem.W.exmOne X.K cls c = some b ∧
      (b = true → ∀ a, H a = none → ts a cls d { nx := fun σ' H' => D.nx (σ'.set i none) H', rt := D.rt, bk := fun σ' H' => D.bk (σ'.set i none) H', ct := fun σ' H' => D.ct (σ'.set i none) H' } (σ.set i (some (.ref a))) H) ∧ (b = false → w D cls d σ H)) := by
  intro D pins σ H a cls d s L ⟨b, hb1, hyes, hno⟩
  obtain ⟨B, sI, J, nb, up, fl, na, os, ag⟩ := L.ex
  have hloc : Loc X.env.scope n := .inl hln
  obtain ⟨oe3, vs3, he3, hz3, hd3, S3⟩ := Landed.suite hf J nb up fl na os ag
  refine wpAny_handleBy_cons (codeAny_handlers_test ?_) (by intro q; cases q)
  have LT : PySem.W.Looks (model X.prog X.w) s.heap (typeOf (.ref a)) cls := fun A Q E s k q => wpAny_typeOf_ref (k _ _ he3) (by rw [hz3.1]; exact q)
  have LM := PySem.W.exm_one (M := model X.prog X.w) ((S3.unsuite J.ok).kIn) LT hb1
  refine clause_test (b := b) (cls := cls) hc S3 (LM.here ?_)
  cases b with
  | true =>
    refine codeAny_handlers_suite_as ?_
    refine HandSPX.lands_againZ fl fun h4 fl4 up4 => ?_
    obtain ⟨oe4, vs4, he4, hz4, hd4, S4⟩ := Landed.suite (s := { s with heap := h4 }) hf J nb (up.trans up4) fl4 na os ag
    refine store_ok (X := X.suite a ((a, oe4) :: (X.pn ++ pins))) (v := .ref a) S4 hN hi hloc rfl (fun s5 S5 => ?_) (.inr hln)
    refine wpAny_mono ((hsu a oe4 cls d (X.pn ++ pins) hz4 ⟨_, hd4⟩).run [] s5 _ H _ S5 (hyes rfl a na)) (fun f s6 hsp => ?_) (fun _ _ z => False.elim z)
    have end_ : ∀ {σ6 : L2.St} {H6 : Hp} {Q : Shared → Prop}, Inv (X.suite a ((a, oe4) :: (X.pn ++ pins))) [] σ6 H6 s6 → (∀ s7, Inv X pins (σ6.set i none) H6 s7 → Q s7) →
        wpAny (model X.prog X.w) X.A (do bindName X.env n .none; unbindBehindTheSuite X.env n pos') (fun _ s7 => Q s7) X.xe s6 := fun {σ6 H6 Q} S6 hq => gone_ok (S6.unsuite J.ok) hN hi hln hq
    cases f with
    | next =>
      obtain ⟨σ6, H6, S6, q6⟩ := hsp
      exact end_ S6 fun s7 J7 => ⟨_, _, J7, q6⟩
    | brk =>
      obtain ⟨σ6, H6, S6, q6⟩ := hsp
      exact end_ S6 fun s7 J7 => ⟨_, _, J7, q6⟩
    | cont =>
      obtain ⟨σ6, H6, S6, q6⟩ := hsp
      exact end_ S6 fun s7 J7 => ⟨_, _, J7, q6⟩
    | ret u =>
      obtain ⟨v6, σ6, H6, S6, r6, q6⟩ := hsp
      exact end_ S6 fun s7 J7 => ⟨_, _, _, J7, r6, q6⟩
  | false => exact r D pins σ H a cls d s L (hno rfl)
end

/-! ### clauses as functions -/
abbrev HFn := Exn → SFn
def HX (X : Cx) (W : WX) (hds : List ExceptHandler) (h : HFn) : Prop := ∃ w, HB X hds w ∧ ∀ (D : Ends) (x : Exn) (cls : Value) (dx : Option Addr) (σ : L2.St) (H : Hp) (φ : List Addr) (ρ : Rho) (m : Mem), RepX (ct X) H φ x cls dx → RepE X.K H φ ρ σ → Sim (ct X) H φ m → PostS (ct X) W H φ (h x ρ m) D → w D cls dx σ H
def hNil : HFn := fun x ρ m => .exc x ρ m
def noX (o : SO) : SO := match o with | .exc _ _ _ => .bad | o => o
def tabGet (tab : List (Str × Bool)) (n : Str) : Option Bool := tab.lookup n
def hOnly (tab : List (Str × Bool)) (g : SFn) (h : HFn) : HFn := fun x ρ m => match tabGet tab x.cls with | some true => noX (g ρ m) | some false => h x ρ m | none => .bad
def SO.wipe (i : Nat) (o : SO) : SO := match o with
  | .next ρ m => .next (ρ.set i none) m
  | .brk ρ m => .brk (ρ.set i none) m
  | .cont ρ m => .cont (ρ.set i none) m
  | .ret d m => .ret d m
  | .exc _ _ _ => .bad
  | .bad => .bad
open Classical in
noncomputable def allSO (f : Addr → Addr → SO) : SO := if ∀ a b, f a b = f 0 0 then f 0 0 else .bad
theorem allSO_ap {f : Addr → Addr → SO} {o : SO} (h : ∀ a b, f a b = o) : allSO f = o := by
  unfold allSO
  rw [if_pos (fun a b => (h a b).trans (h 0 0).symm)]
  exact h 0 0
noncomputable def hAs (i : Nat) (tab : List (Str × Bool)) (g : Str → Addr → Addr → SFn) (h : HFn) : HFn := fun x ρ m => match tabGet tab x.cls with
  | some true => allSO fun a b => (g x.cls a b (ρ.set i (some (.exo a b m.length))) (m ++ [.exn x.cls x.fs])).wipe i
  | some false => h x ρ m
  | none => .bad
theorem tab_mem {tab : List (Str × Bool)} {n : Str} {b : Bool} (h : tabGet tab n = some b) : (n, b) ∈ tab := by
  unfold tabGet at h
  induction tab with
  | nil => cases h
  | cons p t ih =>
    obtain ⟨f, z⟩ := p
    by_cases e : n = f
    · subst e
      have : z = b := by simpa [List.lookup] using h
      subst this
      exact List.mem_cons_self ..
    · have : (n == f) = false := by simpa using e
      exact List.mem_cons_of_mem _ (ih (by simpa [List.lookup, this] using h))
section
variable {X : Cx} {W : WX}
theorem hx_nil (hs : X.stack = X.env :: X.outer) (hf : X.env.frame = some X.env.locals) (tk : Takes X W) : HX X W [] hNil :=
  ⟨fun _ => W, hb_nil hs hf tk, fun D x cls dx σ H φ ρ m rx hρ hs q => q cls dx σ H φ Ext.refl (List.prefix_refl _) rx hρ hs⟩
theorem names_of {y : Str} {D : Addr} (c : XC X.K X.mg y D) (hg : Gl X y) (hd : (y == ("__debug__" : Str)) = false) : Names X y (.ref D) := ⟨hg, hd, .inl c.g⟩
theorem PostS.noX {C : Ct} {W : WX} {H : Hp} {φ : List Addr} {o : SO} {D : Ends} (h : PostS C W H φ (noX o) D) : PostS C (fun _ _ _ _ => False) H φ o D := by
  cases o with
  | exc x ρ m => exact h.elim
  | _ => exact h
theorem hx_only {y : Str} {tab : List (Str × Bool)} {b₀ : Stmt} {suite : List Stmt} {np pos' : Pos} {hds : List ExceptHandler} {g : SFn} {h : HFn} (hf : X.env.frame = some X.env.locals) (T : Tab X.K X.mg y tab) (hg : Gl X y)
    (hsu : ∀ (a : Addr) (oe : Obj) (pn : List (Addr × Obj)), SXs (X.suite a ((a, oe) :: pn)) (fun _ _ _ _ => False) (b₀ :: suite) g) (r : HX X W hds h) (hd : (y == ("__debug__" : Str)) = false := by decide) :
    HX X W (.ExceptHandler (some (.Name y np)) none (b₀ :: suite) pos' :: hds) (hOnly tab g h) := by
  obtain ⟨D0, xc, ht⟩ := T
  obtain ⟨w, hw, hk⟩ := r
  refine ⟨_, hb_cons (ts := fun _ _ _ => tS (ct X) (fun _ _ _ _ => False) g) hf (names_of xc hg hd) (fun a oe cls d pn _ _ => hsu a oe pn) hw, fun D x cls dx σ H φ ρ m rx hρ hs q => ?_⟩
  have q' : PostS (ct X) W H φ (match tabGet tab x.cls with | some true => noX (g ρ m) | some false => h x ρ m | none => .bad) D := q
  have key : ∀ b, tabGet tab x.cls = some b → PySem.W.exmOne X.K cls (.ref D0) = some b := fun b e => by
    obtain ⟨C, g1, g2⟩ := ht _ _ (tab_mem e)
    have e2 : cls = .ref C := by
      have := rx.1.symm.trans g1
      cases this; rfl
    subst e2
    exact exm_of xc g2
  split at q'
  · rename_i e
    exact ⟨true, key _ e, fun _ a _ => ⟨ρ, φ, m, hρ, hs, q'.noX⟩, fun z => nomatch z⟩
  · rename_i e
    exact ⟨false, key _ e, fun z => (nomatch z), fun _ => hk D x cls dx σ H φ ρ m rx hρ hs q'⟩
  · exact q'.elim
theorem PostS.wipe {C : Ct} {W : WX} {H : Hp} {φ : List Addr} {o : SO} {D : Ends} {i : Nat} (h : PostS C W H φ (o.wipe i) D) :
    PostS C (fun _ _ _ _ => False) H φ o { nx := fun σ' H' => D.nx (σ'.set i none) H', rt := D.rt, bk := fun σ' H' => D.bk (σ'.set i none) H', ct := fun σ' H' => D.ct (σ'.set i none) H' } := by
  cases o with
  | next ρ m => exact fun σ H1 φ1 e p hr hs => h (σ.set i none) H1 φ1 e p hr.wipe hs
  | brk ρ m => exact fun σ H1 φ1 e p hr hs => h (σ.set i none) H1 φ1 e p hr.wipe hs
  | cont ρ m => exact fun σ H1 φ1 e p hr hs => h (σ.set i none) H1 φ1 e p hr.wipe hs
  | ret d m => exact fun v H1 φ1 e p hr hs => h v H1 φ1 e p hr hs
  | exc x ρ m => exact h.elim
  | bad => exact h.elim
/-- the caught one's dict becomes a cell -/
theorem Sim.exn {C : Ct} {H : Hp} {φ : List Addr} {m : Mem} {x : Exn} {a : Addr} {fs : List (Str × V)} (s : Sim C H φ m) (hn : a ∉ φ) (h : H a = some (.xd fs)) (r : RepK C.K H φ x.fs fs) : Sim C H (φ ++ [a]) (m ++ [.exn x.cls x.fs]) := by
  refine ⟨by simp [s.len], ?_, fun i c' q => ?_⟩
  · rw [List.nodup_append]
    exact ⟨s.nd, by simp, fun b hb c hc e => by
      have : c = a := by simpa using hc
      subst this; subst e; exact hn hb⟩
  · by_cases hi : i < m.length
    · rw [List.getElem?_append_left hi] at q
      obtain ⟨b, u, h1, h2, h3⟩ := s.at_ i c' q
      exact ⟨b, u, pre_get ⟨_, rfl⟩ h1, h2, h3.mono Ext.refl ⟨_, rfl⟩⟩
    · rw [List.getElem?_append_right (Nat.le_of_not_lt hi)] at q
      have e0 : i - m.length = 0 := by
        rcases Nat.eq_zero_or_pos (i - m.length) with z | z
        · exact z
        · rw [List.getElem?_eq_none (by simp; omega)] at q; cases q
      rw [e0] at q
      have e1 : i = φ.length := by rw [s.len]; omega
      have : Cell.exn x.cls x.fs = c' := by simpa using q
      subst this
      exact ⟨a, _, by rw [e1]; simp, h, ⟨trivial, RepK.mono Ext.refl ⟨_, rfl⟩ r⟩⟩
theorem hx_as {y n : Str} (i : Nat) {tab : List (Str × Bool)} {b₀ : Stmt} {suite : List Stmt} {np pos' : Pos} {hds : List ExceptHandler} {g : Str → Addr → Addr → SFn} {h : HFn} (hf : X.env.frame = some X.env.locals) (hN : X.N.Nodup) (T : Tab X.K X.mg y tab) (hg : Gl X y)
    (hsu : ∀ (a b : Addr) (oe : Obj) (z : Str) (cls : Value) (pn : List (Addr × Obj)), X.mg z = some cls → Zc cls (some b) oe → (∃ vs, oe.data = .fields vs) → SXs (X.suite a ((a, oe) :: pn)) (fun _ _ _ _ => False) (b₀ :: suite) (g z a b)) (r : HX X W hds h)
    (hi : X.N[i]? = some n := by rfl) (hln : X.env.kindOf n = some .local := by rfl) (hd : (y == ("__debug__" : Str)) = false := by decide) :
    HX X W (.ExceptHandler (some (.Name y np)) (some n) (b₀ :: suite) pos' :: hds) (hAs i tab g h) := by
  obtain ⟨D0, xc, ht⟩ := T
  obtain ⟨w, hw, hk⟩ := r
  refine ⟨_, hb_as (ts := fun a cls d => fun D σ H => ∃ b z, d = some b ∧ X.mg z = some cls ∧ tS (ct X) (fun _ _ _ _ => False) (g z a b) D σ H) hf hN hi hln (names_of xc hg hd) (fun a oe cls d pn hz hv => ?_) hw, fun D x cls dx σ H φ ρ m rx hρ hs q => ?_⟩
  · refine ⟨fun pins s σ H D I q => ?_⟩
    obtain ⟨b, z, rfl, hm, q⟩ := q
    exact (hsu a b oe z cls pn hm hz hv).run pins s σ H D I q
  have q' : PostS (ct X) W H φ (match tabGet tab x.cls with
    | some true => allSO fun a b => (g x.cls a b (ρ.set i (some (.exo a b m.length))) (m ++ [.exn x.cls x.fs])).wipe i
    | some false => h x ρ m
    | none => .bad) D := q
  have key : ∀ b, tabGet tab x.cls = some b → PySem.W.exmOne X.K cls (.ref D0) = some b := fun b e => by
    obtain ⟨C, g1, g2⟩ := ht _ _ (tab_mem e)
    have e2 : cls = .ref C := by
      have := rx.1.symm.trans g1
      cases this; rfl
    subst e2
    exact exm_of xc g2
  split at q'
  · rename_i e
    refine ⟨true, key _ e, fun _ a na => ?_, fun z => nomatch z⟩
    unfold allSO at q'
    split at q'
    · rename_i hall
      obtain ⟨b, fs, e1, hnb, hxd, rk⟩ := rx.2
      refine ⟨b, x.cls, e1, rx.1, ?_⟩
      rw [← hall a b] at q'
      have s2 := hs.exn (x := x) hnb hxd rk
      refine ⟨_, φ ++ [b], _, ?_, s2, (q'.shift Ext.refl ⟨_, rfl⟩).wipe⟩
      exact (hρ.mono Ext.refl ⟨_, rfl⟩).set (.exo (by rw [← hs.len]; simp))
    · exact q'.elim
  · rename_i e
    exact ⟨false, key _ e, fun z => (nomatch z), fun _ => hk D x cls dx σ H φ ρ m rx hρ hs q'⟩
  · exact q'.elim
/-! ### try -/
def sTry (g : SFn) (h : HFn) : SFn := fun ρ m => match g ρ m with
  | .exc x ρ' m' => h x ρ' m'
  | o => o
theorem sx_try {body : List Stmt} {h₀ : ExceptHandler} {hds : List ExceptHandler} {pos : Pos} {g : SFn} {h : HFn} (hs : X.stack = X.env :: X.outer) (hf : X.env.frame = some X.env.locals)
    (hb : ∀ (W' : WX) (pn : List (Addr × Obj)) (xe : Value → Shared → Prop), Takes (X.tr pn xe) W' → PassesOwn (model X.prog X.w) X.A X.env xe → SXs (X.tr pn xe) W' body g) (hh : HX X W (h₀ :: hds) h) : SX X W (.Try body (h₀ :: hds) [] [] pos) (sTry g h) := by
  obtain ⟨w, hw, hk⟩ := hh
  refine PS.imp (ps_tryX (tb := fun W' => tS (ct X) W' g) hs hf (fun W' pn xe tk po => hb W' pn xe tk po) hw) fun D σ H ⟨ρ, φ, m, hρ, hs, q⟩ => ⟨ρ, φ, m, hρ, hs, ?_⟩
  have q' : PostS (ct X) W H φ (match g ρ m with | .exc x ρ' m' => h x ρ' m' | o => o) D := q
  cases e : g ρ m with
  | exc x ρ' m' =>
    rw [e] at q'
    exact fun cls dx σ1 H1 φ1 ex p rx hρ1 hs1 => hk D x cls dx σ1 H1 φ1 ρ' m' rx hρ1 hs1 (PostS.shift (o := h x ρ' m') q' ex p)
  | next ρ' m' => rw [e] at q'; exact q'
  | brk ρ' m' => rw [e] at q'; exact q'
  | cont ρ' m' => rw [e] at q'; exact q'
  | ret d m' => rw [e] at q'; exact q'
  | bad => rw [e] at q'; exact q'
/-! ### the caught one's fields, its class -/
/-- the classes (of those that are raised) whose instances have the field -/
def FldOk (K : Fg) (mg : Str → Option Value) (f : Str) (L : List Str) : Prop := ∀ z ∈ L, ∃ C, mg z = some (.ref C) ∧ XfC K C ∧ PySem.W.findIn K (.ref C) f = some none
def gXf (L : List Str) (z : Str) (a b : Addr) (f : Str) (d : D) (m : Mem) : Out D := match d with
  | .exo a' b' k => if (L.contains z = true ∧ a' = a) ∧ b' = b then match m[k]? with
    | some (.exn _ fs) => match fs.lookup f with
      | some y => .ok y m
      | none => .bad
    | _ => .bad
    else .bad
  | _ => .bad
theorem rk_look {K : Fg} {H : Hp} {φ : List Addr} {f : Str} : ∀ {l : List (Str × D)} {l' : List (Str × V)} {d : D}, RepK K H φ l l' → l.lookup f = some d → ∃ v, l'.lookup f = some v ∧ Rep K H φ d v
  | _, _, _, .nil, h => nomatch h
  | (g, x) :: l, (g', x') :: l', d, .cons r t, h => by
    obtain ⟨e, r2⟩ := r
    dsimp only at e r2
    subst e
    by_cases hf : f = g
    · subst hf
      have : x = d := by simpa [List.lookup] using h
      subst this
      exact ⟨x', by simp [List.lookup], r2⟩
    · have hf' : (f == g) = false := by simpa using hf
      have h' : l.lookup f = some d := by simpa [List.lookup, hf'] using h
      obtain ⟨v, h1, h2⟩ := rk_look t h'
      exact ⟨v, by simpa [List.lookup, hf'] using h1, h2⟩
theorem Sim.exnAt {C : Ct} {H : Hp} {φ : List Addr} {m : Mem} {k : Nat} {b : Addr} {c : Str} {fs : List (Str × D)} (s : Sim C H φ m) (h : φ[k]? = some b) (e : m[k]? = some (.exn c fs)) : ∃ fs', H b = some (.xd fs') ∧ RepK C.K H φ fs fs' := by
  obtain ⟨o, h1, h2⟩ := s.look h e
  cases o <;> first | exact h2.elim | exact ⟨_, h1, h2.2⟩
theorem ex_xf {a b : Addr} {oe : Obj} {z : Str} {cls : Value} {pn : List (Addr × Obj)} {e : Expr} {fe : EFn} {pos : Pos} {f : Str} {L : List Str} (F : FldOk X.K X.mg f L) (hm : X.mg z = some cls) (hz : Zc cls (some b) oe) (hv : ∃ vs, oe.data = .fields vs)
    (he : EX (X.suite a ((a, oe) :: pn)) W e fe) (hb : attributeBase e f X.env (eval e X.env) = eval e X.env := by rfl) : EX (X.suite a ((a, oe) :: pn)) W (.Attribute e f pos) (eUn (gXf L z a b f) fe) := by
  by_cases hL : L.contains z = true
  · obtain ⟨C, g1, g2, g3⟩ := F z (by simpa using hL)
    have e2 : cls = .ref C := by
      have := hm.symm.trans g1
      cases this; rfl
    subst e2
    refine PE.imp (pe_xf (n := f) g2 g3 hz hv he hb) fun σ H Q ⟨ρ, φ, m, hρ, hs, q⟩ => bindG hρ hs q fun d m1 v H1 φ1 e1 p1 hρ1 hs1 r1 q1 => ?_
    cases r1 with
    | @exo a' b' k hk =>
      have q' : Post (ct X) W (RD (ct X)) σ H1 φ1 (if (L.contains z = true ∧ a' = a) ∧ b' = b then match m1[k]? with
        | some (.exn _ fs) => match fs.lookup f with
          | some y => .ok y m1
          | none => .bad
        | _ => .bad
        else .bad) Q := q1
      split at q'
      · rename_i hh
        obtain ⟨⟨_, rfl⟩, rfl⟩ := hh
        split at q'
        · rename_i c fs hm1
          split at q'
          · rename_i y hy
            obtain ⟨fs', x1, x2⟩ := hs1.exnAt hk hm1
            obtain ⟨u, y1, y2⟩ := rk_look x2 hy
            exact ⟨rfl, rfl, b', fs', u, rfl, x1, y1, q'.here hs1 y2⟩
          · exact q'.elim
        · exact q'.elim
      · exact q'.elim
    | _ => exact (show False from q1).elim
  · refine ⟨fun pins s σ H Q I ⟨ρ, φ, m, hρ, hs, q⟩ => attr_of hb (thn (he.run pins s σ H (fun _ _ => False) I (bindG hρ hs q fun d m1 v H1 φ1 e1 p1 hρ1 hs1 r1 q1 => ?_)) fun u s1 ⟨_, _, _, _, z⟩ => z.elim)⟩
    cases d <;> first | exact q1 | skip
    have q' : Post (ct X) W (RD (ct X)) σ H1 φ1 (if (L.contains z = true ∧ _ = a) ∧ _ = b then _ else .bad) Q := q1
    rw [if_neg (fun z => hL z.1.1)] at q'
    exact q'
/-- isinstance(e, C), e the caught one -/
def gIsX (tab : List (Str × Bool)) (z : Str) (a b : Addr) (d : D) (m : Mem) : Out D := match d with
  | .exo a' b' k => if a' = a ∧ b' = b then match m[k]? with
    | some (.exn _ _) => match tabGet tab z with
      | some r => .ok (.bl r) m
      | none => .bad
    | _ => .bad
    else .bad
  | _ => .bad
def rIsX (K : Fg) (a b C : Addr) : List V → Hp → VK → Prop := fun xs H Q => ∃ (D : Addr) (r : Bool) (fs : List (Str × V)), xs = [.ref a, .ref D] ∧ H b = some (.xd fs) ∧ PySem.W.kitOne K (.ref C) (.ref D) = some r ∧ Q (.bl r) H
theorem call_isX {a b C : Addr} {oe : Obj} {fs : List Str} {pn : List (Addr × Obj)} (r : XR X.K C fs) (xc : ∃ z, XC X.K X.mg z C) (hz : Zc (.ref C) (some b) oe) (hf : ∃ vs, oe.data = .fields vs) : CallR (X.suite a ((a, oe) :: pn)) (.builtin "isinstance") (rIsX X.K a b C) := by
  intro pins s σ H xs us Q I rr h
  obtain ⟨D0, res, fl, rfl, hb, e, q⟩ := h
  obtain ⟨z, xc⟩ := xc
  cases rr with
  | cons rx rr =>
    cases rr with
    | cons rt rr =>
      cases rr
      cases rx
      cases rt
      obtain ⟨hget, _⟩ := I.pin (a, oe) (List.mem_append.mpr (.inl List.mem_cons_self))
      obtain ⟨vs, hv⟩ := hf
      have hx : ObjOk X.prog X.w H s.heap b (.xd fl) := I.hok b _ hb
      obtain ⟨mA, hns, _⟩ := hx
      obtain ⟨od, ho, hl⟩ := lookIn_ns hns
      have J : PySem.W.InstAt s.heap a oe C (some od) := ⟨hget, hz.1, by unfold PySem.W.notCls; rw [hv] <;> rfl, by rw [hz.2]; exact ho⟩
      obtain ⟨cd, hc, _⟩ := PySem.W.any_some xc.hd
      exact PySem.W.kia_one (PySem.W.kitx_exc (od := some od) (by rw [hc]; rfl) r.ga r.gg r.ox.exC r.cl r.gs r.tk r.mo) I.kIn J e (fun z => nomatch z) fun tk => ⟨.bl res, H, I.kept (t' := tk) fun _ _ z => z, rfl, q⟩
/-- what isinstance needs of the classes that are raised -/
def IsOk (K : Fg) (mg : Str → Option Value) (tab : List (Str × Bool)) : Prop := ∀ z r, (z, r) ∈ tab → ∃ C fs, XC K mg z C ∧ XR K C fs
theorem ex_isX {a b : Addr} {oe : Obj} {z y : Str} {cls : Value} {pn : List (Addr × Obj)} {e : Expr} {fe : EFn} {p p2 pos : Pos} {tab : List (Str × Bool)} (T : Tab X.K X.mg y tab) (O : IsOk X.K X.mg tab) (hm : X.mg z = some cls) (hz : Zc cls (some b) oe) (hv : ∃ vs, oe.data = .fields vs)
    (hgi : Gl X "isinstance") (hmi : X.mg "isinstance" = none) (hg : Gl X y) (he : EX (X.suite a ((a, oe) :: pn)) W e fe) (hd : (y == ("__debug__" : Str)) = false := by decide)
    (hs1 : starEach [e, .Name y p2] X.env = (false, eval e X.env) :: starEach [.Name y p2] X.env := by rfl) (hpl : (backTo pos (starEach [.Name y p2] X.env)).any (·.1) = false := by rfl) (hs2 : starEach [.Name y p2] X.env = (false, eval (.Name y p2) X.env) :: starEach [] X.env := by rfl) :
    EX (X.suite a ((a, oe) :: pn)) W (.Call (.Name "isinstance" p) [e, .Name y p2] [] pos) (eUn (gIsX tab z a b) fe) := by
  obtain ⟨D0, xc, ht⟩ := T
  have hy : PE (X.suite a ((a, oe) :: pn)) (.Name y p2) (fun _ H Q => Q (.ref D0) H) := ⟨fun pins s σ H Q I h => ld_glob I hg xc.g ⟨.ref D0, H, I, rfl, h⟩ hd⟩
  cases hzt : tabGet tab z with
  | none =>
    refine PE.imp (pe_callB (r := fun _ _ _ => False) (fun _ _ _ _ _ _ _ _ _ h => h.elim) hgi hmi (by decide +kernel : bootBuiltins ("isinstance" : Str) = some (.builtin "isinstance")) (pa_cons he (pa_cons hy pa_nil hs2) hs1) (by decide) (by decide) hs1 hpl) fun σ H Q ⟨ρ, φ, m, hρ, hs, q⟩ => bindG hρ hs q fun d m1 v H1 φ1 e1 p1 hρ1 hs1' r1 q1 => ?_
    exfalso
    cases d <;> first | exact q1 | skip
    rename_i a' b' k
    have q' : Post (ct X) W (RD (ct X)) σ H1 φ1 (if a' = a ∧ b' = b then match m1[k]? with
      | some (.exn _ _) => match tabGet tab z with
        | some r => .ok (.bl r) m1
        | none => .bad
      | _ => .bad
      else .bad) Q := q1
    rw [hzt] at q'
    split at q'
    · split at q' <;> exact q'
    · exact q'
  | some res =>
    obtain ⟨C, fs, xz, xr⟩ := O z res (tab_mem hzt)
    obtain ⟨C', g1, g2⟩ := ht z res (tab_mem hzt)
    have e1 : C' = C := by
      have := g1.symm.trans xz.g
      cases this; rfl
    subst e1
    have e2 : cls = .ref C' := by
      have := hm.symm.trans g1
      cases this; rfl
    subst e2
    refine PE.imp (pe_callB (call_isX xr ⟨z, xz⟩ hz hv) hgi hmi (by decide +kernel : bootBuiltins ("isinstance" : Str) = some (.builtin "isinstance")) (pa_cons he (pa_cons hy pa_nil hs2) hs1) (by decide) (by decide) hs1 hpl) fun σ H Q ⟨ρ, φ, m, hρ, hs, q⟩ => bindG hρ hs q fun d m1 v H1 φ1 e1 p1 hρ1 hs1' r1 q1 => ?_
    cases r1 with
    | @exo a' b' k hk =>
      have q' : Post (ct X) W (RD (ct X)) σ H1 φ1 (if a' = a ∧ b' = b then match m1[k]? with
        | some (.exn _ _) => match tabGet tab z with
          | some r => .ok (.bl r) m1
          | none => .bad
        | _ => .bad
        else .bad) Q := q1
      split at q'
      · rename_i hh
        obtain ⟨rfl, rfl⟩ := hh
        split at q'
        · rename_i c fl hm1
          rw [hzt] at q'
          obtain ⟨fs', x1, x2⟩ := hs1'.exnAt hk hm1
          exact ⟨D0, res, fs', rfl, x1, kit_of xc g2, Post.here (C := ct X) (W := W) (R := RD (ct X)) (σ := σ) (φ := φ1) (m := m1) q' hs1' (.bl _)⟩
        · exact q'.elim
      · exact q'.elim
    | _ => exact (show False from q1).elim
end
end DL
set_option Elab.async false
set_option linter.all false
set_option maxRecDepth 100000
set_option maxHeartbeats 4000000
/-! DLFit: data that the laws compare -/
namespace DL
open PySem L2
theorem in62_nat {n : Nat} (h : n ≤ 1000000) : in62 (n : Int) = true := in62_of (by omega)
/-! ### _law_fits of a thing and itself -/
mutual
def D.fit : D → Bool
  | .non => true
  | .bl _ => true
  | .int _ => true
  | .str _ => true
  | .tup ds => D.fits ds
  | _ => false
def D.fits : List D → Bool
  | [] => true
  | d :: ds => d.fit && D.fits ds
end
mutual
def D.nodes : D → Nat
  | .tup ds => D.nodess ds + 1
  | _ => 1
def D.nodess : List D → Nat
  | [] => 0
  | d :: ds => d.nodes + D.nodess ds
end
theorem fits_all {ds : List D} : D.fits ds = ds.all D.fit := by
  induction ds with
  | nil => simp [D.fits]
  | cons d ds ih => simp [D.fits, ih]
theorem nodess_app : ∀ a b : List D, D.nodess (a ++ b) = D.nodess a + D.nodess b
  | [], b => by simp [D.nodess]
  | d :: a, b => by simp only [List.cons_append, D.nodess, nodess_app a b]; omega
theorem nodes_pos (d : D) : 1 ≤ d.nodes := by cases d <;> simp [D.nodes]
theorem nodess_len : ∀ a : List D, a.length ≤ D.nodess a
  | [] => by simp [D.nodess]
  | d :: a => by have := nodess_len a; have := nodes_pos d; simp only [D.nodess, List.length_cons]; omega
def twice (d : D) : D := .tup [d, d]
mutual
theorem fit_plain : ∀ d : D, d.fit = true → d.plain = true
  | .non, _ => rfl
  | .bl _, _ => rfl
  | .int _, _ => rfl
  | .str _, _ => rfl
  | .tup ds, h => by simp only [D.plain]; exact fits_plain ds (by simpa [D.fit] using h)
  | .rot _, h => by simp [D.fit] at h
  | .rol _, h => by simp [D.fit] at h
  | .ref _, h => by simp [D.fit] at h
theorem fits_plain : ∀ ds : List D, D.fits ds = true → D.plains ds = true
  | [], _ => by simp [D.plains]
  | d :: ds, h => by
    have h' : d.fit = true ∧ D.fits ds = true := by simpa [D.fits] using h
    simp only [D.plains, fit_plain d h'.1, fits_plain ds h'.2, Bool.and_self]
end
theorem twice_plains {ds : List D} (h : D.fits ds = true) : D.plains (ds.map twice) = true := by
  induction ds with
  | nil => simp [D.plains]
  | cons d ds ih =>
    have h' : d.fit = true ∧ D.fits ds = true := by simpa [D.fits] using h
    simp [D.plains, twice, D.plain, fit_plain d h'.1, ih h'.2]
theorem range_get {α β : Type} (xs : List α) (g : α → β) (y : α) : (List.range xs.length).map (fun i => g ((xs[i]?).getD y)) = xs.map g := by
  apply List.ext_getElem?
  intro i
  simp only [List.getElem?_map]
  rcases Nat.lt_or_ge i xs.length with h | h
  · simp [h]
  · rw [List.getElem?_eq_none (by simpa using h), List.getElem?_eq_none h]; rfl
@[simp] theorem isNon1 : isNon .non = true := rfl
@[simp] theorem isNon2 {b : Bool} : isNon (.bl b) = false := rfl
@[simp] theorem isNon3 {b : Int} : isNon (.int b) = false := rfl
@[simp] theorem isNon4 {b : Str} : isNon (.str b) = false := rfl
@[simp] theorem isNon5 {b : List D} : isNon (.tup b) = false := rfl
/-! ### the pairs -/
/-- a def that answers a new list -/
theorem run_new {N : List Str} {n : Nat} {g : SFn} {ds : List D} {m m' : Mem} {k : Nat} (hl : ds.length = n) (hk : m.length ≤ k) (hh : ∀ K : Kt, K.rt (.ref k) m' → SEv (g (envOf N ds) m) K) : runF N n g ds m = .ok (.ref k) m' := by
  have h := hh ⟨fun _ _ => False, fun _ _ => False, fun _ _ => False, fun d' m1 => d' = .ref k ∧ m1 = m'⟩ ⟨rfl, rfl⟩
  unfold runF
  rw [if_pos hl]
  revert h
  cases g (envOf N ds) m with
  | ret d' m' =>
    rintro ⟨rfl, rfl⟩
    show gcD _ _ _ = _
    unfold gcD
    rw [if_neg]
    simp [D.bel]; omega
  | next ρ m' => exact fun h => h.elim
  | brk ρ m' => exact fun h => h.elim
  | cont ρ m' => exact fun h => h.elim
  | exc x ρ m' => exact fun h => h.elim
  | bad => exact fun h => h.elim
theorem plain_kd {d : D} {m : Mem} (h : d.plain = true) : (kdOf d m).isSome := by
  cases d <;> first | rfl | (simp [D.plain] at h)
theorem nodess_map {α : Type} {f : α → D} {c : Nat} : ∀ {l : List α}, (∀ x ∈ l, (f x).nodes ≤ c) → D.nodess (l.map f) ≤ l.length * c
  | [], _ => by simp [D.nodess]
  | a :: r, h => by
    have h1 := h a List.mem_cons_self
    have h2 := nodess_map (l := r) fun x hx => h x (List.mem_cons_of_mem _ hx)
    simp only [List.map_cons, D.nodess, List.length_cons, Nat.succ_mul]
    omega
theorem fits_map {α : Type} {f : α → D} (h : ∀ a, (f a).fit = true) (l : List α) : (D.tup (l.map f)).fit = true := by simp [D.fit, fits_all, h]
theorem eLc_pure2 {α : Type} {it : IFn} {w : Wk} {tg : TgFn} {cond : TFn} {elt : EFn} {own : List Nat} {ρ : Rho} {M M1 : Mem} (xs : List α) (f : α → D) (c : α → Bool) (e : α → D) (hi : it ρ M = .ok w M1) (hx : w.ds = xs.map f) (hl : xs.length ≤ sizeLine) (hw : w.ok M1)
    (hs : ∀ x ∈ xs, ∀ l, ∃ ρ1, tg (f x) (wipeR ρ own) = some ρ1 ∧ cond ρ1 (M1 ++ [.lst l]) = .ok (c x) (M1 ++ [.lst l]) ∧ (c x = true → elt ρ1 (M1 ++ [.lst l]) = .ok (e x) (M1 ++ [.lst l]))) :
    eLc it tg cond elt own ρ M = .ok (.ref M1.length) (M1 ++ [.lst ((xs.filter c).map e)]) := by
  unfold eLc
  rw [hi, bind_ok, if_pos (by rw [hx, List.length_map]; exact hl)]
  exact lc_pure xs f c e hx hw hs
end DL
set_option Elab.async false
set_option linter.all false
set_option maxRecDepth 100000
set_option maxHeartbeats 4000000
/-! DLTab: tables, rows, stores as plain lists -/
namespace DL
open PySem L2
/-! ### tables and stores as plain lists -/
structure Tb where
  nm : Str
  fs : List D
  ks : List Nat
def nD (k : Nat) : D := .int k
def Tb.d (t : Tb) : D := .tup [.str t.nm, .tup t.fs, .tup (t.ks.map nD)]
def tabsD (ts : List Tb) : D := .tup (ts.map Tb.d)
def rowD (r : List Int) : D := .tup (r.map .int)
def rowsD (rs : List (List Int)) : D := .tup (rs.map rowD)
def storeD (s : List (List (List Int))) : D := .tup (s.map rowsD)
theorem rows_plain (rs : List (List Int)) : (rowsD rs).plain = true := tup_plain (fun r => tup_plain (fun _ => rfl) r) rs
theorem row_plain (r : List Int) : (rowD r).plain = true := tup_plain (fun _ => rfl) r
theorem ix_row {r : List Int} {k : Nat} {m : Mem} {v : Int} (h : r[k]? = some v) : gIx (rowD r) (.int (k : Nat)) m = .ok (.int v) m := by
  simp [rowD, atI_get (xs := r.map D.int) (x := .int v) (by rw [List.getElem?_map, h]; rfl)]
theorem ix_store {s : List (List (List Int))} {t : Nat} {m : Mem} {rs : List (List Int)} (h : s[t]? = some rs) : gIx (storeD s) (.int (t : Nat)) m = .ok (rowsD rs) m := by
  simp [storeD, atI_get (xs := s.map rowsD) (x := rowsD rs) (by rw [List.getElem?_map, h]; rfl)]
/-- a tuple, or a list of the memory -/
def SeqOf (x : D) (ds : List D) (m : Mem) : Prop := x = .tup ds ∨ ∃ k, x = .ref k ∧ m[k]? = some (.lst ds)
theorem SeqOf.app {x : D} {ds : List D} {m j : Mem} (h : SeqOf x ds m) : SeqOf x ds (m ++ j) := by
  rcases h with h | ⟨k, h1, h2⟩
  · exact .inl h
  · exact .inr ⟨k, h1, by rw [List.getElem?_append_left (get_lt' h2)]; exact h2⟩
theorem SeqOf.wk {x : D} {ds : List D} {m : Mem} (h : SeqOf x ds m) : ∃ w : Wk, wkOf x m = .ok w m ∧ w.ds = ds ∧ w.ok m := by
  rcases h with rfl | ⟨k, rfl, h2⟩
  · exact ⟨_, rfl, rfl, trivial⟩
  · refine ⟨⟨ds, some (k, ds)⟩, ?_, rfl, h2⟩
    show (match m[k]? with | some (.lst ds) => Out.ok (⟨ds, some (k, ds)⟩ : Wk) m | _ => .bad) = _
    rw [h2]
theorem ix_tabs {ts : List Tb} {t : Nat} {m : Mem} {tb : Tb} (h : ts[t]? = some tb) : gIx (tabsD ts) (.int (t : Nat)) m = .ok tb.d m := by
  simp [tabsD, atI_get (xs := ts.map Tb.d) (x := tb.d) (by rw [List.getElem?_map, h]; rfl)]
theorem kd_tup {d : D} {m : Mem} (h : isT d = false) (h2 : (kdOf d m).isSome) : gIsi .tup d m = .ok (.bl false) m := by
  obtain ⟨k, hk⟩ := Option.isSome_iff_exists.mp h2
  unfold gIsi
  rw [hk]
  cases d with
  | tup _ => cases h
  | rot _ => cases h
  | ref r =>
    unfold kdOf at hk
    simp only at hk
    split at hk <;> first | (cases hk <;> rfl) | cases hk
  | _ => cases hk <;> rfl
structure TbOk (t : Tb) : Prop where
  fs1 : 1 ≤ t.fs.length
  fs4 : t.fs.length ≤ 4
  fp : D.plains t.fs = true
  asc : t.ks.Pairwise (· < ·)
  lt : ∀ k ∈ t.ks, k < t.fs.length
theorem asc_len : ∀ {ks : List Nat} {n a : Nat}, ks.Pairwise (· < ·) → (∀ k ∈ ks, a ≤ k ∧ k < a + n) → ks.length ≤ n
  | [], _, _, _, _ => Nat.zero_le _
  | k :: r, n, a, h, hl => by
    have h' := List.pairwise_cons.mp h
    have hk := hl k List.mem_cons_self
    have := asc_len (n := a + n - (k + 1)) (a := k + 1) h'.2 fun x hx => by
      have h1 := h'.1 x hx
      have h2 := hl x (List.mem_cons_of_mem _ hx)
      omega
    rw [List.length_cons]
    omega
theorem TbOk.ks4 {t : Tb} (h : TbOk t) : t.ks.length ≤ 4 := Nat.le_trans (asc_len (n := t.fs.length) (a := 0) h.asc fun k hk => ⟨Nat.zero_le _, by have := h.lt k hk; omega⟩) h.fs4
theorem Tb.plain {t : Tb} (h : D.plains t.fs = true) : t.d.plain = true := by simp [Tb.d, D.plain, D.plains, h, plains_map (f := nD) fun _ => rfl]
structure TsOk (ts : List Tb) : Prop where
  n1 : 1 ≤ ts.length
  n4 : ts.length ≤ 4
  all : ∀ t ∈ ts, TbOk t
theorem tabs_plain {ts : List Tb} (h : ∀ t ∈ ts, TbOk t) : D.plains (ts.map Tb.d) = true := by
  rw [plains_all, List.all_eq_true]
  intro d hd
  obtain ⟨t, ht, rfl⟩ := List.mem_map.mp hd
  exact Tb.plain (h t ht).fp
/-- rows from d0 on, of the same width -/
def fsl (ts : List Tb) (j : Nat) : Nat := ((ts[j]?).map fun t => t.fs.length).getD 0
structure StW (ts : List Tb) (s : List (List (List Int))) (n : Nat) : Prop where
  len : s.length = ts.length
  row : ∀ j rs, s[j]? = some rs → rs.length ≤ n ∧ ∀ r ∈ rs, r.length = fsl ts j
def unI : D → Int | .int i => i | _ => 0
def unT : D → List Int | .tup ds => ds.map unI | _ => []
theorem unT_map (l : List (List Int)) : (l.map itup).map unT = l := by
  rw [List.map_map]
  have : (unT ∘ itup) = id := by
    funext r
    show (r.map D.int).map unI = r
    rw [List.map_map]
    have : (unI ∘ D.int) = id := rfl
    rw [this, List.map_id]
  rw [this, List.map_id]
theorem srt_rows (rs : List (List Int)) : ∃ rs' : List (List Int), D.sort (rs.map itup) = rs'.map itup ∧ rs'.Perm rs := by
  have inv : ∀ l : List D, (∀ d ∈ l, ∃ r, d = itup r) → ∃ rs' : List (List Int), l = rs'.map itup := by
    intro l
    induction l with
    | nil => exact fun _ => ⟨[], rfl⟩
    | cons d l ih =>
      intro h
      obtain ⟨r, rfl⟩ := h _ List.mem_cons_self
      obtain ⟨rs, rfl⟩ := ih fun x hx => h x (List.mem_cons_of_mem _ hx)
      exact ⟨r :: rs, rfl⟩
  have hp := List.mergeSort_perm (rs.map itup) dle
  obtain ⟨rs', e⟩ := inv (D.sort (rs.map itup)) fun d hd => by
    obtain ⟨r, _, rfl⟩ := List.mem_map.mp (hp.mem_iff.mp hd)
    exact ⟨r, rfl⟩
  refine ⟨rs', e, ?_⟩
  have hp' : (rs'.map itup).Perm (rs.map itup) := by rw [← e]; exact hp
  have := hp'.map unT
  rwa [unT_map, unT_map] at this
def refsD (b n : Nat) : List D := (List.range n).map fun j => .ref (b + j)
theorem refs_get {b n j : Nat} (h : j < n) : (refsD b n)[j]? = some (.ref (b + j)) := by unfold refsD; simp [h]
theorem row_fit (r : List Int) : (rowD r).fit = true := fits_map (fun _ => rfl) r
theorem rows_fit (rs : List (List Int)) : (rowsD rs).fit = true := fits_map row_fit rs
theorem row_nodes {r : List Int} : (rowD r).nodes ≤ 1 + r.length := by
  have := nodess_map (f := D.int) (c := 1) (l := r) fun _ _ => by simp [D.nodes]
  simp only [rowD, D.nodes]; omega
theorem rows_nodes {rs : List (List Int)} (h : ∀ r ∈ rs, r.length ≤ 4) (hl : rs.length ≤ 40) : (rowsD rs).nodes ≤ 201 := by
  have := nodess_map (f := rowD) (c := 5) (l := rs) fun r hr => by have := h r hr; have := row_nodes (r := r); omega
  simp only [rowsD, D.nodes]
  omega
end DL
set_option Elab.async false
set_option linter.all false
set_option maxRecDepth 100000
set_option maxHeartbeats 4000000
/-! DLTub: the tub that numbers are drawn from -/
namespace DL
open PySem L2
/-! ### the tub -/
def tubK (s d n : Int) (h : Nat) : List (Key × D) := [(.inr "stir", .int s), (.inr "digits", .int d), (.inr "turns", .int n), (.inr "habits", .ref h)]
theorem get_stir {s d n : Int} {h : Nat} : getK (tubK s d n h) (.inr "stir") = some (.int s) := rfl
theorem get_digits {s d n : Int} {h : Nat} : getK (tubK s d n h) (.inr "digits") = some (.int d) := rfl
theorem get_turns {s d n : Int} {h : Nat} : getK (tubK s d n h) (.inr "turns") = some (.int n) := rfl
theorem get_habits {s d n : Int} {h : Nat} : getK (tubK s d n h) (.inr "habits") = some (.ref h) := rfl
theorem put_stir {s d n x : Int} {h : Nat} : putD (tubK s d n h) (.inr "stir") (.int x) = tubK x d n h := rfl
theorem put_digits {s d n x : Int} {h : Nat} : putD (tubK s d n h) (.inr "digits") (.int x) = tubK s x n h := rfl
theorem put_turns {s d n x : Int} {h : Nat} : putD (tubK s d n h) (.inr "turns") (.int x) = tubK s d x h := rfl
def hab (p : Nat × Int × Int) : Key × D := (.inl p.1, .tup [.int p.2.1, .int p.2.2])
structure HabOk (l : List (Nat × Int × Int)) : Prop where
  nd : (l.map (·.1)).Nodup
  lt : ∀ p ∈ l, p.1 < 64 ∧ 0 ≤ p.2.1
theorem nodup_lt : ∀ (n : Nat) (L : List Nat), L.Nodup → (∀ x ∈ L, x < n) → L.length ≤ n
  | 0, L, _, h => by
    cases L with
    | nil => exact Nat.le_refl _
    | cons x r => exact absurd (h x List.mem_cons_self) (by omega)
  | n + 1, L, nd, h => by
    by_cases hn : n ∈ L
    · have := nodup_lt n (L.erase n) (nd.erase n) fun x hx => by
        have h1 := h x (List.mem_of_mem_erase hx)
        have h2 : x ≠ n := fun e => by subst e; exact (List.Nodup.not_mem_erase nd) hx
        omega
      rw [List.length_erase_of_mem hn] at this
      omega
    · have := nodup_lt n L nd fun x hx => by
        have h1 := h x hx
        have h2 : x ≠ n := fun e => hn (e ▸ hx)
        omega
      omega
theorem HabOk.len {l : List (Nat × Int × Int)} (h : HabOk l) : l.length ≤ 64 := by
  have := nodup_lt 64 (l.map (·.1)) h.nd fun x hx => by obtain ⟨p, hp, rfl⟩ := List.mem_map.mp hx; exact (h.lt p hp).1
  simpa using this
structure Tub (t h : Nat) (m : Mem) : Prop where
  ne : t ≠ h
  c : ∃ s d n, m[t]? = some (.dK (tubK s d n h))
  hb : ∃ l, m[h]? = some (.dK (l.map hab)) ∧ HabOk l
structure Off (t h : Nat) (m m' : Mem) : Prop where
  len : m'.length = m.length
  at_ : ∀ k, k ≠ t → k ≠ h → m'[k]? = m[k]?
theorem Off.refl {t h : Nat} {m : Mem} : Off t h m m := ⟨rfl, fun _ _ _ => rfl⟩
theorem Off.trans {t h : Nat} {m m1 m2 : Mem} (a : Off t h m m1) (b : Off t h m1 m2) : Off t h m m2 := ⟨b.len.trans a.len, fun k h1 h2 => (b.at_ k h1 h2).trans (a.at_ k h1 h2)⟩
theorem Off.set {t h : Nat} {m : Mem} {c : Cell} : Off t h m (m.set t c) := ⟨by simp, fun k h1 _ => by rw [List.getElem?_set_ne (Ne.symm h1)]⟩
theorem Off.set' {t h : Nat} {m : Mem} {c : Cell} : Off t h m (m.set h c) := ⟨by simp, fun k _ h1 => by rw [List.getElem?_set_ne (Ne.symm h1)]⟩
theorem hab_get {l : List (Nat × Int × Int)} {k : Nat} {v : D} (h : getK (l.map hab) (.inl (k : Int)) = some v) : ∃ p ∈ l, p.1 = k ∧ v = .tup [.int p.2.1, .int p.2.2] := by
  unfold getK at h
  cases hf : (l.map hab).find? (fun kv => decide (kv.1 = .inl (k : Int))) with
  | none => rw [hf] at h; cases h
  | some q =>
    rw [hf] at h
    have hm := List.mem_of_find?_eq_some hf
    have hp := List.find?_some hf
    obtain ⟨p, hp1, rfl⟩ := List.mem_map.mp hm
    simp [hab] at hp
    exact ⟨p, hp1, by omega, (Option.some.inj h).symm⟩
theorem hab_none {l : List (Nat × Int × Int)} {k : Nat} (h : getK (l.map hab) (.inl (k : Int)) = none) : k ∉ l.map (·.1) ∧ ∀ v, putD (l.map hab) (.inl (k : Int)) v = l.map hab ++ [(.inl (k : Int), v)] ∧ getK (l.map hab ++ [(.inl (k : Int), v)]) (.inl (k : Int)) = some v := by
  unfold getK at h
  rw [Option.map_eq_none_iff, List.find?_eq_none] at h
  refine ⟨fun z => ?_, fun v => ⟨?_, ?_⟩⟩
  · obtain ⟨p, hp, rfl⟩ := List.mem_map.mp z
    exact h _ (List.mem_map.mpr ⟨p, hp, rfl⟩) (by simp [hab])
  · unfold putD
    rw [if_neg]
    intro z
    obtain ⟨q, hq, hq2⟩ := List.any_eq_true.mp z
    exact h q hq hq2
  · unfold getK
    rw [List.find?_append, List.find?_eq_none.mpr h]
    simp
def DropP (t h : Nat) (many : Int) (m : Mem) (d : D) (m' : Mem) : Prop := ∃ r : Int, d = .int r ∧ 0 ≤ r ∧ (many < 2 → r = 0) ∧ (2 ≤ many → r < many) ∧ Tub t h m' ∧ Off t h m m'
theorem gc_off {t h : Nat} {m m' : Mem} (o : Off t h m m') (tb : Tub t h m') (tb0 : Tub t h m) : GcOk m.length m m' := by
  refine ⟨by rw [o.len]; exact Nat.le_refl _, fun k c hk e => ?_⟩
  obtain ⟨s, d, n, q⟩ := tb.c
  obtain ⟨l, q2, _⟩ := tb.hb
  have hlt : h < m.length := by have := get_lt' q2; rw [o.len] at this; exact this
  by_cases e1 : k = t
  · subst e1; rw [q] at e; cases e; exact .inr (by simp [Cell.bel, tubK, D.bel, hlt])
  · by_cases e2 : k = h
    · subst e2; rw [q2] at e; cases e
      refine .inr ?_
      simp only [Cell.bel, List.all_map, List.all_eq_true]
      intro p hp
      simp [hab, D.bel, D.bels]
    · rw [o.at_ k e1 e2] at e; exact .inl e
theorem fmod_lt {a b : Int} (h : 0 < b) : 0 ≤ a.fmod b ∧ a.fmod b < b := ⟨Int.fmod_nonneg_of_pos a h, Int.fmod_lt_of_pos a h⟩
theorem Off.get {t h k : Nat} {m m' : Mem} (o : Off t h m m') (h1 : k ≠ t) (h2 : k ≠ h) : m'[k]? = m[k]? := o.at_ k h1 h2
theorem tget_stir {t h : Nat} {M : Mem} {s d n : Int} (e : M[t]? = some (.dK (tubK s d n h))) : gIx (.ref t) (.str "stir") M = .ok (.int s) M := by unfold gIx; simp only [e]; rfl
theorem tput_stir {t h : Nat} {M : Mem} {s d n x : Int} (e : M[t]? = some (.dK (tubK s d n h))) : putI (.ref t) (.str "stir") (.int x) M = some (M.set t (.dK (tubK x d n h))) := by unfold putI; simp only [e]; rw [if_pos (by show 4 < sizeLine; rw [szl]; omega)]; rfl
theorem tput_digits {t h : Nat} {M : Mem} {s d n x : Int} (e : M[t]? = some (.dK (tubK s d n h))) : putI (.ref t) (.str "digits") (.int x) M = some (M.set t (.dK (tubK s x n h))) := by unfold putI; simp only [e]; rw [if_pos (by show 4 < sizeLine; rw [szl]; omega)]; rfl
theorem cut_ints {ns : List Int} {lo hi : Option Int} : cut (ns.map D.int) lo hi = (cut ns lo hi).map D.int := by unfold cut; simp [List.map_drop, List.map_take]
theorem shl_ne (n : Nat) : (1 : Int) * 2 ^ n ≠ 0 := by
  have : (0 : Int) < 2 ^ n := Int.pow_pos (by decide)
  rw [Int.one_mul]; omega
/-! ### what is drawn -/
structure Grow (t h : Nat) (m M : Mem) : Prop where
  le : m.length ≤ M.length
  at_ : ∀ k, k < m.length → k ≠ t → k ≠ h → M[k]? = m[k]?
theorem Grow.refl {t h : Nat} {m : Mem} : Grow t h m m := ⟨Nat.le_refl _, fun _ _ _ _ => rfl⟩
theorem Grow.app {t h : Nat} {m M j : Mem} (g : Grow t h m M) : Grow t h m (M ++ j) := ⟨by rw [List.length_append]; exact Nat.le_trans g.le (Nat.le_add_right _ _), fun k h1 h2 h3 => by rw [List.getElem?_append_left (Nat.lt_of_lt_of_le h1 g.le)]; exact g.at_ k h1 h2 h3⟩
theorem Grow.off {t h : Nat} {m M M' : Mem} (g : Grow t h m M) (o : Off t h M M') : Grow t h m M' := ⟨by rw [o.len]; exact g.le, fun k h1 h2 h3 => (o.at_ k h2 h3).trans (g.at_ k h1 h2 h3)⟩
theorem Grow.set {t h k : Nat} {m M : Mem} {c : Cell} (g : Grow t h m M) (hk : m.length ≤ k) : Grow t h m (M.set k c) := ⟨by simpa using g.le, fun i h1 h2 h3 => by rw [List.getElem?_set_ne (by omega)]; exact g.at_ i h1 h2 h3⟩
theorem Tub.app {t h : Nat} {m j : Mem} (tb : Tub t h m) : Tub t h (m ++ j) := by
  obtain ⟨ne, ⟨s, d, n, q⟩, ⟨l, q2, ok⟩⟩ := tb
  exact ⟨ne, ⟨s, d, n, by rw [List.getElem?_append_left (get_lt' q)]; exact q⟩, ⟨l, by rw [List.getElem?_append_left (get_lt' q2)]; exact q2, ok⟩⟩
theorem Tub.lt {t h : Nat} {m : Mem} (tb : Tub t h m) : t < m.length ∧ h < m.length := by
  obtain ⟨ne, ⟨s, d, n, q⟩, ⟨l, q2, ok⟩⟩ := tb
  exact ⟨get_lt' q, get_lt' q2⟩
theorem Tub.set {t h k : Nat} {m : Mem} {c : Cell} (tb : Tub t h m) (h1 : k ≠ t) (h2 : k ≠ h) : Tub t h (m.set k c) := by
  obtain ⟨ne, ⟨s, d, n, q⟩, ⟨l, q2, ok⟩⟩ := tb
  exact ⟨ne, ⟨s, d, n, by rw [List.getElem?_set_ne h1]; exact q⟩, ⟨l, by rw [List.getElem?_set_ne h2]; exact q2, ok⟩⟩
theorem Grow.fin {t h : Nat} {m M : Mem} (g : Grow t h m M) (tb0 : Tub t h m) (tb : Tub t h M) : GcOk m.length m M ∧ Tub t h (M.take m.length) ∧ Off t h m (M.take m.length) := by
  have l := tb0.lt
  obtain ⟨ne, ⟨s, d, n, q⟩, ⟨L, q2, ok⟩⟩ := tb
  refine ⟨⟨g.le, fun k c hk e => ?_⟩, ⟨ne, ⟨s, d, n, by rw [List.getElem?_take_of_lt l.1]; exact q⟩, ⟨L, by rw [List.getElem?_take_of_lt l.2]; exact q2, ok⟩⟩, ⟨by rw [List.length_take]; exact Nat.min_eq_left g.le, fun k h1 h2 => ?_⟩⟩
  · by_cases e1 : k = t
    · subst e1; rw [q] at e; cases e; exact .inr (by simp [Cell.bel, tubK, D.bel, l.2])
    · by_cases e2 : k = h
      · subst e2; rw [q2] at e; cases e
        refine .inr ?_
        simp only [Cell.bel, List.all_map, List.all_eq_true]
        intro p hp
        simp [hab, D.bel, D.bels]
      · rw [g.at_ k hk e1 e2] at e; exact .inl e
  · rcases Nat.lt_or_ge k m.length with z | z
    · rw [List.getElem?_take_of_lt z]; exact g.at_ k z h1 h2
    · rw [List.getElem?_eq_none z, List.getElem?_eq_none (by rw [List.length_take]; omega)]
/-- tuple([..]) of things drawn -/
theorem tlc_tub {t h : Nat} {it : IFn} {w : Wk} {tg : TgFn} {cond : TFn} {elt : EFn} {own : List Nat} {ρ : Rho} {M0 : Mem} (J : Nat → List D → Prop) (tb : Tub t h M0) (hi : it ρ M0 = .ok w M0) (hw : w.at_ = none) (hl : w.ds.length ≤ sizeLine) (j0 : J 0 []) (jp : ∀ acc, J w.ds.length acc → D.plains acc = true)
    (hs : ∀ i d acc M, w.ds[i]? = some d → J i acc → Tub t h M → Grow t h M0 M → ∃ ρ1, tg d (wipeR ρ own) = some ρ1 ∧ Ev (cond ρ1 M) fun c M2 => Tub t h M2 ∧ Off t h M M2 ∧ if c = true then Ev (elt ρ1 M2) fun y M3 => Tub t h M3 ∧ Off t h M2 M3 ∧ J (i + 1) (acc ++ [y]) else J (i + 1) acc) :
    Ev (eGc (eArgs (on1 gTuple) (aCons (eLc it tg cond elt own) aNil)) ρ M0) fun d M => ∃ acc, d = .tup acc ∧ J w.ds.length acc ∧ Tub t h M ∧ Off t h M0 M := by
  refine eGc_ev fun Q hQ => ?_
  have wo : ∀ M, w.ok M := fun M => by unfold Wk.ok; rw [hw]; trivial
  have l := tb.lt
  simp only [eArgs_ap, aCons_ap, aNil_ap, ev_bind, bind_ok, ev_ok, on1_ap]
  unfold eLc
  rw [hi, bind_ok, if_pos hl]
  refine lc_rule (fun i acc M => J i acc ∧ Tub t h M ∧ Grow t h M0 M ∧ M[M0.length]? = some (.lst acc)) ⟨j0, tb.app, Grow.refl.app, mem_last⟩ (fun i acc M hI => ⟨wo M, hI.2.2.2⟩) ?_ ?_
  · rintro i d acc M hd ⟨h1, h2, h3, h4⟩
    obtain ⟨ρ1, g1, g2⟩ := hs i d acc M hd h1 h2 h3
    refine ⟨ρ1, g1, fun Q2 hQ2 => g2.mono ?_⟩
    rintro c M2 ⟨k1, k2, k3⟩
    have h4' : M2[M0.length]? = some (.lst acc) := by rw [k2.at_ _ (by omega) (by omega)]; exact h4
    cases c with
    | false => 
      rw [if_neg Bool.false_ne_true] at k3 ⊢
      exact ⟨h4', k3, k1, h3.off k2, h4'⟩
    | true =>
      rw [if_pos rfl] at k3 ⊢
      refine k3.mono ?_
      rintro y M3 ⟨f1, f2, f3⟩
      have h4'' : M3[M0.length]? = some (.lst acc) := by rw [f2.at_ _ (by omega) (by omega)]; exact h4'
      exact hQ2 y M3 h4'' ⟨f3, f1.set (by omega) (by omega), ((h3.off k2).off f2).set (Nat.le_refl _), by rw [List.getElem?_set_self (get_lt' h4'')]⟩
  · rintro acc M ⟨h1, h2, h3, h4⟩
    have e : gTuple (.ref M0.length) M = .ok (.tup acc) M := by unfold gTuple; simp only [h4]
    rw [e, ev_ok]
    obtain ⟨f1, f2, f3⟩ := h3.fin tb h2
    exact hQ _ _ (D.bel_plain _ (by simp only [D.plain]; exact jp acc h1)) f1 ⟨acc, rfl, h1, f2, f3⟩
theorem gc_step {t h k : Nat} {M2 M3 : Mem} {c : Cell} (o : Off t h M2 M3) (tb : Tub t h M3) (h1 : k ≠ t) (h2 : k ≠ h) (hc : c.bel M2.length = true) : GcOk M2.length M2 (M3.set k c) := by
  have hlt := tb.lt.2
  refine ⟨by rw [List.length_set, o.len]; exact Nat.le_refl _, fun i x hi e => ?_⟩
  by_cases e0 : i = k
  · subst e0
    rw [List.getElem?_set_self (by rw [o.len]; exact hi)] at e
    cases e; exact .inr hc
  · rw [List.getElem?_set_ne (Ne.symm e0)] at e
    obtain ⟨s, d, n, q⟩ := tb.c
    obtain ⟨l, q2, _⟩ := tb.hb
    by_cases e1 : i = t
    · subst e1; rw [q] at e; cases e; exact .inr (by simp [Cell.bel, tubK, D.bel]; rw [← o.len]; exact hlt)
    · by_cases e2 : i = h
      · subst e2; rw [q2] at e; cases e
        refine .inr ?_
        simp only [Cell.bel, List.all_map, List.all_eq_true]
        intro p hp
        simp [hab, D.bel, D.bels]
      · rw [o.at_ i e1 e2] at e; exact .inl e
structure Grow1 (t h k0 : Nat) (M M' : Mem) : Prop where
  le : M.length ≤ M'.length
  at_ : ∀ k, k < M.length → k ≠ t → k ≠ h → k ≠ k0 → M'[k]? = M[k]?
theorem Grow1.fin {t h k0 : Nat} {M M' : Mem} {c : Cell} (g : Grow1 t h k0 M M') (tb0 : Tub t h M) (tb : Tub t h M') (hk : M'[k0]? = some c) (hc : c.bel M.length = true) : GcOk M.length M M' ∧ Tub t h (M'.take M.length) := by
  have l := tb0.lt
  obtain ⟨ne, ⟨s, d, n, q⟩, ⟨L, q2, ok⟩⟩ := tb
  refine ⟨⟨g.le, fun k x hx e => ?_⟩, ⟨ne, ⟨s, d, n, by rw [List.getElem?_take_of_lt l.1]; exact q⟩, ⟨L, by rw [List.getElem?_take_of_lt l.2]; exact q2, ok⟩⟩⟩
  by_cases e0 : k = k0
  · subst e0; rw [hk] at e; cases e; exact .inr hc
  by_cases e1 : k = t
  · subst e1; rw [q] at e; cases e; exact .inr (by simp [Cell.bel, tubK, D.bel, l.2])
  · by_cases e2 : k = h
    · subst e2; rw [q2] at e; cases e
      refine .inr ?_
      simp only [Cell.bel, List.all_map, List.all_eq_true]
      intro p hp
      simp [hab, D.bel, D.bels]
    · rw [g.at_ k hx e1 e2 e0] at e; exact .inl e
/-- .. the iteration may draw too -/
theorem tlc_tub2 {t h : Nat} {it : IFn} {tg : TgFn} {cond : TFn} {elt : EFn} {own : List Nat} {ρ : Rho} {M0 : Mem} (W : List D → Prop) (J : Nat → List D → Prop) (tb : Tub t h M0) (hi : Ev (it ρ M0) fun w M => Tub t h M ∧ Off t h M0 M ∧ w.at_ = none ∧ w.ds.length ≤ 1000 ∧ W w.ds) (j0 : J 0 []) (jp : ∀ ds acc, W ds → J ds.length acc → D.plains acc = true)
    (hs : ∀ ds, W ds → ∀ (i : Nat) (d : D) acc M, ds[i]? = some d → J i acc → Tub t h M → Grow t h M0 M → ∃ ρ1, tg d (wipeR ρ own) = some ρ1 ∧ Ev (cond ρ1 M) fun c M2 => Tub t h M2 ∧ Off t h M M2 ∧ if c = true then Ev (elt ρ1 M2) fun y M3 => Tub t h M3 ∧ Off t h M2 M3 ∧ J (i + 1) (acc ++ [y]) else J (i + 1) acc) :
    Ev (eGc (eArgs (on1 gTuple) (aCons (eLc it tg cond elt own) aNil)) ρ M0) fun d M => ∃ ds acc, d = .tup acc ∧ W ds ∧ J ds.length acc ∧ Tub t h M ∧ Off t h M0 M := by
  refine eGc_ev fun Q hQ => ?_
  have l := tb.lt
  simp only [eArgs_ap, aCons_ap, aNil_ap, ev_bind, bind_ok, ev_ok, on1_ap]
  unfold eLc
  rw [ev_bind]
  refine hi.mono ?_
  rintro w M1 ⟨t1, o1, w1, w2, w3⟩
  have wo : ∀ M, w.ok M := fun M => by unfold Wk.ok; rw [w1]; trivial
  have ln := o1.len
  rw [if_pos (by rw [szl]; omega)]
  refine lc_rule (fun i acc M => J i acc ∧ Tub t h M ∧ Grow t h M0 M ∧ M[M1.length]? = some (.lst acc)) ⟨j0, t1.app, (Grow.refl.off o1).app, mem_last⟩ (fun i acc M hI => ⟨wo M, hI.2.2.2⟩) ?_ ?_
  · rintro i d acc M hd ⟨h1, h2, h3, h4⟩
    obtain ⟨ρ1, g1, g2⟩ := hs w.ds w3 i d acc M hd h1 h2 h3
    refine ⟨ρ1, g1, fun Q2 hQ2 => g2.mono ?_⟩
    rintro c M2 ⟨k1, k2, k3⟩
    have h4' : M2[M1.length]? = some (.lst acc) := by rw [k2.at_ _ (by omega) (by omega)]; exact h4
    cases c with
    | false => 
      rw [if_neg Bool.false_ne_true] at k3 ⊢
      exact ⟨h4', k3, k1, h3.off k2, h4'⟩
    | true =>
      rw [if_pos rfl] at k3 ⊢
      refine k3.mono ?_
      rintro y M3 ⟨f1, f2, f3⟩
      have h4'' : M3[M1.length]? = some (.lst acc) := by rw [f2.at_ _ (by omega) (by omega)]; exact h4'
      exact hQ2 y M3 h4'' ⟨f3, f1.set (by omega) (by omega), ((h3.off k2).off f2).set (by omega), by rw [List.getElem?_set_self (get_lt' h4'')]⟩
  · rintro acc M ⟨h1, h2, h3, h4⟩
    have e : gTuple (.ref M1.length) M = .ok (.tup acc) M := by unfold gTuple; simp only [h4]
    rw [e, ev_ok]
    obtain ⟨f1, f2, f3⟩ := h3.fin tb h2
    exact hQ _ _ (D.bel_plain _ (by simp only [D.plain]; exact jp _ acc w3 h1)) f1 ⟨w.ds, acc, rfl, w3, h1, f2, f3⟩
end DL
set_option Elab.async false
set_option linter.all false
set_option maxRecDepth 100000
set_option maxHeartbeats 4000000
/-! DLSpecX: what mirrors compute, exceptions too. -/
namespace DL
open PySem L2
section
variable {α β : Type} {E : Exn → Mem → Prop}
def XEv (E : Exn → Mem → Prop) (o : Out α) (P : α → Mem → Prop) : Prop := match o with | .ok a m => P a m | .exc x m => E x m | .bad => False
def XSEv (E : Exn → Mem → Prop) (o : SO) (k : Kt) : Prop := match o with
  | .next ρ m => k.nx ρ m
  | .brk ρ m => k.bk ρ m
  | .cont ρ m => k.ct ρ m
  | .ret d m => k.rt d m
  | .exc x _ m => E x m
  | .bad => False
@[simp] theorem xev_ok {a : α} {m : Mem} {P : α → Mem → Prop} : XEv E (.ok a m) P = P a m := id rfl
@[simp] theorem xev_exc {x : Exn} {m : Mem} {P : α → Mem → Prop} : XEv E (.exc x m : Out α) P = E x m := id rfl
@[simp] theorem xev_bad {P : α → Mem → Prop} : XEv E (.bad : Out α) P = False := id rfl
@[simp] theorem xev_bind {o : Out α} {k : α → Mem → Out β} {P : β → Mem → Prop} : XEv E (o.bind k) P = XEv E o fun a m => XEv E (k a m) P := by cases o <;> rfl
@[simp] theorem bind_exc {x : Exn} {m : Mem} {k : α → Mem → Out β} : (Out.exc x m).bind k = .exc x m := id rfl
@[simp] theorem so_exc {x : Exn} {m : Mem} {ρ : Rho} {k : α → Mem → SO} : (Out.exc x m : Out α).so ρ k = .exc x ρ m := id rfl
@[simp] theorem seq_exc {x : Exn} {ρ : Rho} {m : Mem} {k : Rho → Mem → SO} : (SO.exc x ρ m).seq k = .exc x ρ m := id rfl
@[simp] theorem xsev_next {ρ : Rho} {m : Mem} {k : Kt} : XSEv E (.next ρ m) k = k.nx ρ m := id rfl
@[simp] theorem xsev_brk {ρ : Rho} {m : Mem} {k : Kt} : XSEv E (.brk ρ m) k = k.bk ρ m := id rfl
@[simp] theorem xsev_cont {ρ : Rho} {m : Mem} {k : Kt} : XSEv E (.cont ρ m) k = k.ct ρ m := id rfl
@[simp] theorem xsev_ret {d : D} {m : Mem} {k : Kt} : XSEv E (.ret d m) k = k.rt d m := id rfl
@[simp] theorem xsev_exc {x : Exn} {ρ : Rho} {m : Mem} {k : Kt} : XSEv E (.exc x ρ m) k = E x m := id rfl
@[simp] theorem xsev_bad {k : Kt} : XSEv E .bad k = False := id rfl
@[simp] theorem xsev_so {o : Out α} {ρ : Rho} {k : α → Mem → SO} {K : Kt} : XSEv E (o.so ρ k) K = XEv E o fun a m => XSEv E (k a m) K := by cases o <;> rfl
@[simp] theorem xsev_seq {o : SO} {k : Rho → Mem → SO} {K : Kt} : XSEv E (o.seq k) K = XSEv E o ⟨fun ρ m => XSEv E (k ρ m) K, K.bk, K.ct, K.rt⟩ := by cases o <;> rfl
theorem XEv.mono {o : Out α} {P Q : α → Mem → Prop} (h : XEv E o P) (i : ∀ a m, P a m → Q a m) : XEv E o Q := by
  cases o with
  | ok a m => exact i a m h
  | exc x m => exact h
  | bad => exact h
theorem XEv.of {o : Out α} {a : α} {m : Mem} {P : α → Mem → Prop} (e : o = .ok a m) (h : P a m) : XEv E o P := by rw [e]; exact h
theorem XEv.ofx {o : Out α} {x : Exn} {m : Mem} {P : α → Mem → Prop} (e : o = .exc x m) (h : E x m) : XEv E o P := by rw [e]; exact h
theorem Ev.x {o : Out α} {P : α → Mem → Prop} (h : Ev o P) : XEv E o P := by cases o <;> first | exact h | exact h.elim
end
@[simp] theorem sRaise_ap {x : Str} {fs : List Str} {a : AFn} {ρ : Rho} {m : Mem} : sRaise x fs a ρ m = (a ρ m).so ρ fun ds m1 => if ds.length = fs.length then .exc ⟨x, (fs.zip ds).reverse⟩ ρ m1 else .bad := id rfl
theorem sTry_ret {g : SFn} {h : HFn} {ρ : Rho} {m m' : Mem} {d : D} (e : g ρ m = .ret d m') : sTry g h ρ m = .ret d m' := by unfold sTry; rw [e]
theorem sTry_next {g : SFn} {h : HFn} {ρ ρ' : Rho} {m m' : Mem} (e : g ρ m = .next ρ' m') : sTry g h ρ m = .next ρ' m' := by unfold sTry; rw [e]
theorem sTry_exc {g : SFn} {h : HFn} {ρ ρ' : Rho} {m m' : Mem} {x : Exn} (e : g ρ m = .exc x ρ' m') : sTry g h ρ m = h x ρ' m' := by unfold sTry; rw [e]
theorem forX_rule {E : Exn → Mem → Prop} {w : Wk} {tg : TgFn} {body : SFn} {K : Kt} (I : Nat → Rho → Mem → Prop) {ρ : Rho} {m : Mem} (h0 : I 0 ρ m) (hw : ∀ i ρ m, I i ρ m → w.ok m)
    (hs : ∀ i d ρ m, w.ds[i]? = some d → I i ρ m → ∃ ρ1, tg d ρ = some ρ1 ∧ ∀ K' : Kt, (∀ ρ m, I (i + 1) ρ m → K'.nx ρ m) → (∀ ρ m, I (i + 1) ρ m → K'.ct ρ m) → (∀ ρ m, K.nx ρ m → K'.bk ρ m) → (∀ d m, K.rt d m → K'.rt d m) → XSEv E (body ρ1 m) K') (he : ∀ ρ m, I w.ds.length ρ m → K.nx ρ m) : XSEv E (forGo w tg body w.ds ρ m) K := by
  have go : ∀ (ds : List D) (i : Nat) (ρ : Rho) (m : Mem), w.ds.drop i = ds → I i ρ m → i ≤ w.ds.length → XSEv E (forGo w tg body ds ρ m) K := by
    intro ds
    induction ds with
    | nil =>
      intro i ρ m e h hi
      unfold forGo
      rw [if_pos (hw i ρ m h)]
      have : w.ds.length ≤ i := List.drop_eq_nil_iff.mp e
      have : i = w.ds.length := by omega
      subst this
      exact he ρ m h
    | cons d ds ih =>
      intro i ρ m e h hi
      unfold forGo
      rw [if_pos (hw i ρ m h)]
      have hlt : i < w.ds.length := by
        rcases Nat.lt_or_ge i w.ds.length with z | z
        · exact z
        · rw [List.drop_eq_nil_of_le z] at e; cases e
      have hd : w.ds[i]? = some d := by
        have := List.getElem?_drop (xs := w.ds) (i := i) (j := 0)
        rw [e] at this
        simpa using this.symm
      have e' : w.ds.drop (i + 1) = ds := by
        rw [← List.tail_drop, e]; rfl
      obtain ⟨ρ1, ht, hb0⟩ := hs i d ρ m hd h
      have hb := hb0 ⟨I (i + 1), K.nx, I (i + 1), K.rt⟩ (fun _ _ z => z) (fun _ _ z => z) (fun _ _ z => z) (fun _ _ z => z)
      rw [ht]
      show XSEv E (match body ρ1 m with
        | .next ρ2 m2 => forGo w tg body ds ρ2 m2
        | .cont ρ2 m2 => forGo w tg body ds ρ2 m2
        | .brk ρ2 m2 => .next ρ2 m2
        | .ret v m2 => .ret v m2
        | .exc x ρ2 m2 => .exc x ρ2 m2
        | .bad => .bad) K
      revert hb
      cases body ρ1 m with
      | next ρ2 m2 => exact fun hb => ih (i + 1) ρ2 m2 e' hb hlt
      | cont ρ2 m2 => exact fun hb => ih (i + 1) ρ2 m2 e' hb hlt
      | brk ρ2 m2 => exact fun hb => hb
      | ret v m2 => exact fun hb => hb
      | exc x ρ2 m2 => exact fun hb => hb
      | bad => exact fun hb => hb.elim
  exact go w.ds 0 ρ m rfl h0 (Nat.zero_le _)
/-- a def that raises x -/
theorem run_exc {N : List Str} {n : Nat} {g : SFn} {ds : List D} {m : Mem} {x : Exn} (hl : ds.length = n) (hh : ∀ (E : Exn → Mem → Prop) (K : Kt), E x m → XSEv E (g (envOf N ds) m) K) : runF N n g ds m = .exc x m := by
  have h := hh (fun x' m' => x' = x ∧ m' = m) ⟨fun _ _ => False, fun _ _ => False, fun _ _ => False, fun _ _ => False⟩ ⟨rfl, rfl⟩
  unfold runF
  rw [if_pos hl]
  revert h
  cases g (envOf N ds) m with
  | ret d' m' => exact fun h => h.elim
  | next ρ m' => exact fun h => h.elim
  | brk ρ m' => exact fun h => h.elim
  | cont ρ m' => exact fun h => h.elim
  | exc x' ρ m' => rintro ⟨rfl, rfl⟩; rfl
  | bad => exact fun h => h.elim
/-- a def that answers nothing -/
theorem run_none {N : List Str} {n : Nat} {g : SFn} {ds : List D} {m : Mem} (hl : ds.length = n) (hh : ∀ K : Kt, (∀ ρ j, K.nx ρ (m ++ j)) → SEv (g (envOf N ds) m) K) : runF N n g ds m = .ok .non m := by
  have h := hh ⟨fun _ m' => ∃ j, m' = m ++ j, fun _ _ => False, fun _ _ => False, fun _ _ => False⟩ fun _ j => ⟨j, rfl⟩
  unfold runF
  rw [if_pos hl]
  revert h
  cases g (envOf N ds) m with
  | ret d' m' => exact fun h => h.elim
  | next ρ m' => rintro ⟨j, rfl⟩; exact gcD_pure (by simp [D.bel])
  | brk ρ m' => exact fun h => h.elim
  | cont ρ m' => exact fun h => h.elim
  | exc x' ρ m' => exact fun h => h.elim
  | bad => exact fun h => h.elim
/-- what grows: a def whose answer may tell of new cells, the tub stirred -/
theorem run_grow {t h : Nat} {N : List Str} {n : Nat} {g : SFn} {ds : List D} {m : Mem} {G : D → Mem → Prop} (tb : Tub t h m) (hl : ds.length = n) (hG : ∀ d M, G d M → Grow t h m M → d.bel m.length = true → G d (M.take m.length))
    (hh : ∀ K : Kt, (∀ d M, Tub t h M → Grow t h m M → G d M → K.rt d M) → SEv (g (envOf N ds) m) K) : Ev (runF N n g ds m) fun d M => Tub t h M ∧ Grow t h m M ∧ G d M := by
  have q := hh ⟨fun _ _ => False, fun _ _ => False, fun _ _ => False, fun d M => Tub t h M ∧ Grow t h m M ∧ G d M⟩ fun d M a b c => ⟨a, b, c⟩
  unfold runF
  rw [if_pos hl]
  revert q
  cases g (envOf N ds) m with
  | ret d' m' =>
    rintro ⟨a, b, c⟩
    show Ev (gcD _ _ _) _
    unfold gcD
    split
    · rename_i hb
      obtain ⟨f1, f2, f3⟩ := b.fin tb a
      exact ⟨f2, Grow.refl.off f3, hG _ _ c b hb.1⟩
    · exact ⟨a, b, c⟩
  | next ρ m' => exact fun h => h.elim
  | brk ρ m' => exact fun h => h.elim
  | cont ρ m' => exact fun h => h.elim
  | exc x' ρ m' => exact fun h => h.elim
  | bad => exact fun h => h.elim
end DL
set_option Elab.async false
set_option linter.all false
set_option maxRecDepth 100000
set_option maxHeartbeats 4000000
/-! DLStr: texts walked sign by sign, tuple(range(..)), constants of the top that are tuples of texts, how many unlike texts. -/
namespace DL
open PySem L2
/-! ### a text, walked -/
section
open PySem.Spec PyProof.Rows
variable {X : Cx} {pins : List (Addr × Obj)} {σ : L2.St} {H : Hp} {s : Shared} {tg : Expr} {R : It → Hp → Prop} {E : Value → Shared → Prop}
theorem it_str {x : Str} {t : Tok} (I : Inv X pins σ H s) (q : R (Its x) H) : wpAny (model X.prog X.w) X.A (pyIter (.str x t)) (PIE X pins σ tg R) E s := by
  cases ha : x.cps.all (· < 128)
  · exact wpAny_pyIter_wide ha (pi_one (tk := s.toks) I _ (turn_str _ x t "str_iterator" (.inr rfl)) ⟨_, Heap.get?_push_size _ rfl, rfl, rfl⟩ q)
  · exact wpAny_pyIter_ascii ha (pi_one (tk := s.toks) I _ (turn_str _ x t "str_ascii_iterator" (.inl rfl)) ⟨_, Heap.get?_push_size _ rfl, rfl, rfl⟩ q)
def iSqS (K : Fg) (tl : TE) : TI := fun σ H R => tl σ H fun x H1 => (∃ z, x = .str z ∧ R (Its z) H1) ∨ ∃ a, x = .ref a ∧ ((∃ xs, SqL K H1 a xs ∧ R (Itl K a) H1) ∨ ∃ xs, SqT K H1 a xs ∧ R (Itt K a) H1)
theorem pi_sqS {l : Expr} {tl : TE} (hl : PE X l tl) : PI X tg l (iSqS X.K tl) := by
  refine ⟨fun pins s σ H R I h => thn (hl.run pins s σ H _ I h) fun v s1 ⟨x, H1, I1, r1, q1⟩ => ?_⟩
  rcases q1 with ⟨z, e, q⟩ | ⟨a, e, q⟩
  · subst e
    obtain ⟨t, rfl⟩ := r1
    exact it_str I1 q
  · subst e
    obtain rfl : v = Value.ref a := r1
    rcases q with ⟨xs, hq, q⟩ | ⟨xs, hq, q⟩
    · exact it_list I1 hq q
    · exact it_tup I1 hq q
end
/-- its signs -/
def signsD (x : Str) : List D := x.cps.toList.map fun c => .str ⟨#[c]⟩
theorem j_str {C : Ct} {H : Hp} {φ : List Addr} {x : Str} (hl : x.length ≤ sizeLine) (ok : PySem.PyData.strOk x = true) : JOk C ⟨signsD x, none⟩ H φ (Its x) where
  go := fun i H' φ' m e p s k hi => by
    show i < x.cps.size
    simpa [signsD] using hi
  yld := fun i H' φ' m v H2 e p s k hi ⟨y1, c, y2, y3⟩ => by
    subst y1
    refine ⟨Ext.refl, fun _ _ => rfl, .str ⟨#[c]⟩, ?_, ?_⟩
    · show (signsD x)[i]? = _
      unfold signsD
      rw [List.getElem?_map, Array.getElem?_toList, y2]; rfl
    · subst y3
      exact .str (by show 1 ≤ sizeLine; rw [sizeLine_eq]; decide) (strOk_get (i := (i : Nat)) ok (atI_nat (by rw [Array.getElem?_toList]; exact y2)))
  stop := fun H' φ' m e p s k => by
    show x.cps.size ≤ (signsD x).length
    simp [signsD]
def wkOfS (d : D) (m : Mem) : Out Wk := match d with
  | .str x => .ok ⟨signsD x, none⟩ m
  | d => wkOf d m
def iOfS (f : EFn) : IFn := fun ρ m => (f ρ m).bind wkOfS
section
variable {X : Cx} {W : WX} {tg e : Expr} {pos p : Pos}
theorem ix_ofS {f : EFn} (h : EX X W e f) : IX X W tg e (iOfS f) := PI.imp (pi_sqS h) fun σ H R ⟨ρ, φ, m, hρ, hs, q⟩ => bindI hρ hs q fun d m1 v H1 φ1 e1 p1 hρ1 hs1 r1 q1 => by
  cases r1 with
  | non => exact (show False from q1).elim
  | exo _ => exact (show False from q1).elim
  | bl _ => exact (show False from q1).elim
  | int _ => exact (show False from q1).elim
  | @str x h1 h2 => exact .inl ⟨x, rfl, PostI.here (C := ct X) (W := W) (σ := σ) (φ := φ1) (m := m1) q1 hs1 (j_str (C := ct X) h1 h2)⟩
  | tup h1 h2 h3 => exact .inr ⟨_, rfl, .inr ⟨_, SqT.of h2, PostI.here (C := ct X) (W := W) (σ := σ) (φ := φ1) (m := m1) q1 hs1 (j_tup (C := ct X) (SqT.of h2) h3)⟩⟩
  | rot h1 h2 h3 => exact .inr ⟨_, rfl, .inr ⟨_, h2, PostI.here (C := ct X) (W := W) (σ := σ) (φ := φ1) (m := m1) q1 hs1 (j_tup (C := ct X) h2 h3)⟩⟩
  | rol h1 h2 h3 => exact .inr ⟨_, rfl, .inl ⟨_, h2.sq, PostI.here (C := ct X) (W := W) (σ := σ) (φ := φ1) (m := m1) q1 hs1 (j_rol (C := ct X) h2 h3)⟩⟩
  | @ref k a hk =>
    have q' : PostI (ct X) W σ H1 φ1 (match m1[k]? with
      | some (.lst ds) => .ok ⟨ds, some (k, ds)⟩ m1
      | _ => .bad) R := q1
    split at q'
    · rename_i ds hm
      obtain ⟨vs, g1, g2, g3⟩ := hs1.lst hk hm
      exact .inr ⟨_, rfl, .inl ⟨vs, SqL.of g1, q'.here hs1 (j_lst hk)⟩⟩
    · exact q'.elim
end
@[simp] theorem iOfS_ap {f : EFn} {ρ : Rho} {m : Mem} : iOfS f ρ m = (f ρ m).bind wkOfS := id rfl
@[simp] theorem wkOfS_str {x : Str} {m : Mem} : wkOfS (.str x) m = .ok ⟨signsD x, none⟩ m := id rfl
@[simp] theorem wkOfS_tup {ds : List D} {m : Mem} : wkOfS (.tup ds) m = .ok ⟨ds, none⟩ m := id rfl
@[simp] theorem wkOfS_ref {k : Nat} {m : Mem} : wkOfS (.ref k) m = wkOf (.ref k) m := id rfl
/-! ### tuple(range(n)) -/
def gTupRg (d : D) (m : Mem) : Out D := match d with
  | .int i => if (decide (0 ≤ i) && decide (i ≤ 1000000)) = true then .ok (.tup (rgD 0 i.toNat)) m else .bad
  | _ => .bad
theorem ex_tupRg {X : Cx} {W : WX} {a : Expr} {fa : EFn} {p p2 pos2 pos : Pos} (hc : X.calm = true) (hg : Gl X "tuple") (hm : X.mg "tuple" = none) (hg2 : Gl X "range") (hm2 : X.mg "range" = none) (ha : EX X W a fa)
    (na2 : starEach [.Call (.Name "range" p2) [a] [] pos2] X.env = (false, eval (.Call (.Name "range" p2) [a] [] pos2) X.env) :: starEach [] X.env := by rfl) (na : starEach [a] X.env = (false, eval a X.env) :: starEach [] X.env := by rfl) :
    EX X W (.Call (.Name "tuple" p) [.Call (.Name "range" p2) [a] [] pos2] [] pos) (eUn gTupRg fa) := PE.imp (pe_tupRg hc hg hm (prg_1 hg2 hm2 ha na) na2) fun σ H Q ⟨ρ, φ, m, hρ, hs, q⟩ => bindG hρ hs q fun d m1 v H1 φ1 e1 p1 hρ1 hs1 r1 q1 => by
  cases d <;> first | exact (show False from q1).elim | skip
  rename_i i
  cases r1
  have q' : Post (ct X) W (RD (ct X)) σ H1 φ1 (if (decide (0 ≤ i) && decide (i ≤ 1000000)) = true then .ok (.tup (rgD 0 i.toNat)) m1 else .bad) Q := q1
  split at q'
  · rename_i h
    obtain ⟨h1, h2⟩ := Bool.and_eq_true_iff.mp h
    have h1' : 0 ≤ i := of_decide_eq_true h1
    have h2' : i ≤ 1000000 := of_decide_eq_true h2
    refine ⟨i, rfl, RgOk.of_le (by omega) (by omega) (by omega) h1', fun q hq => ?_⟩
    have e : rgV 0 i = (List.range i.toNat).map fun j : Nat => V.int (0 + (j : Nat)) := by unfold rgV; rw [Int.sub_zero]
    refine Post.newTup (C := ct X) (W := W) (σ := σ) (φ := φ1) (m := m1) q' hs1 (by rw [rgD_len, sizeLine_eq]; omega) ?_ q hq
    rw [e]
    unfold rgD
    exact (fun l : List Nat => by
      induction l with
      | nil => exact .nil
      | cons j r ih => exact .cons (.int _) ih : ∀ l : List Nat, Reps X.K H1 φ1 (l.map fun j => D.int (0 + (j : Nat))) (l.map fun j => V.int (0 + (j : Nat)))) _
  · exact q'.elim
/-! ### constants of the top: tuples of texts -/
/-- a written tuple of texts at a -/
def TxtTup (K : Fg) (a : Addr) (xs : List Str) : Prop := ∃ (o : Obj) (its : Array Value) (n : Nat), K.lookup a = some o ∧ o.cls = .type "tuple" ∧ o.data = .seq its n ∧ its.size ≤ sizeLine ∧ Vals (xs.map V.str) its.toList
theorem reps_strs {K : Fg} {H : Hp} {φ : List Addr} : ∀ {xs : List Str}, (xs.all fun x => decide (x.length ≤ 16777216) && PySem.PyData.strOk x) = true → Reps K H φ (xs.map D.str) (xs.map V.str)
  | [], _ => .nil
  | x :: xs, h => by
    rw [List.all_cons, Bool.and_eq_true_iff] at h
    obtain ⟨h1, h2⟩ := Bool.and_eq_true_iff.mp h.1
    exact .cons (.str (by rw [sizeLine_eq]; exact of_decide_eq_true h1) h2) (reps_strs h.2)
theorem ex_globTup {X : Cx} {W : WX} {x : Str} {xs : List Str} {pos : Pos} (hg : Gl X x) (hm : ∃ a, X.mg x = some (.ref a) ∧ TxtTup X.K a xs) (h : (xs.all fun x => decide (x.length ≤ 16777216) && PySem.PyData.strOk x) = true := by decide +kernel) (hl : xs.length ≤ 1000 := by decide) (hd : (x == ("__debug__" : Str)) = false := by decide) :
    EX X W (.Name x pos) (eC (.rot (xs.map D.str))) := by
  obtain ⟨a, h1, h2⟩ := hm
  refine ⟨fun pins s σ H Q I ⟨ρ, φ, m, hρ, hs, q⟩ => ld_glob I hg h1 ⟨.ref a, H, I, rfl, ?_⟩ hd⟩
  exact Post.here (C := ct X) (W := W) (R := RD (ct X)) (σ := σ) (φ := φ) (m := m) (d := .rot (xs.map D.str)) q hs (.rot (by rw [List.length_map, sizeLine_eq]; omega) (.inr h2) (reps_strs h))
theorem txtTup_mk {K : Fg} {a : Addr} {dd : Option Addr} {its : List Value} {n : Nat} {sl : Array (Option Value)} {xs : List Str} (l : K.lookup a = some ⟨.type "tuple", dd, .seq its.toArray n, sl⟩) (hl : its.length ≤ 1000) (v : Vals (xs.map V.str) its) : TxtTup K a xs :=
  ⟨_, its.toArray, n, l, rfl, rfl, by rw [List.size_toArray, sizeLine_eq]; omega, v⟩
end DL
set_option Elab.async false
set_option linter.all false
set_option maxRecDepth 100000
set_option maxHeartbeats 4000000
/-! DLSetN: len(set(t)), t a tuple of texts: how many unlike ones. -/
namespace DL
section
open PySem PySem.Spec PyProof.Rows
/-- unlike ones among the first i -/
def distN (xs : List Str) : Nat → Nat
  | 0 => 0
  | i + 1 => if (xs.take i).any (· == xs.getD i Str.empty) = true then distN xs i else distN xs i + 1
theorem distN_le (xs : List Str) : ∀ i, distN xs i ≤ i
  | 0 => Nat.le_refl _
  | i + 1 => by
    have := distN_le xs i
    unfold distN
    split <;> omega
theorem take_any {xs : List Str} {i : Nat} (h : i < xs.length) (k : Str) : ((xs.take i).any (· == k) || decide (k = xs.getD i Str.empty)) = (xs.take (i + 1)).any (· == k) := by
  have e : xs[i]? = some (xs.getD i Str.empty) := by rw [List.getElem?_eq_getElem h, List.getD_eq_getElem?_getD, List.getElem?_eq_getElem h]; rfl
  rw [List.take_add_one, e, List.any_append]
  congr 1
  by_cases q : k = xs.getD i Str.empty
  · rw [decide_eq_true q]; simp [q]
  · rw [decide_eq_false q]
    simp only [Option.toList_some, List.any_cons, List.any_nil, Bool.or_false]
    exact (beq_eq_false_iff_ne.mpr fun z => q z.symm).symm
section
variable {prog : Program} {w : World} {A : Around} {R : Result → Shared → Prop} {I : Addr} {fp wr : List Addr} {G : Array GenState → Array GenState → Prop} {n : Nat} {P : Nat → Value → Prop} {St : Nat → Shared → Prop}
/-- the walk of set.update over texts -/
theorem upd_texts (W : WalksS prog w A.in1 I fp wr G n P St) (S : Addr) (hSf : S ∉ fp) (xs : List Str) (hsz : xs.length = n) (hn1 : n ≤ 1000) (hval : ∀ i v, P i v → ∃ t, v = .str (xs.getD i Str.empty) t) :
    ∀ (k i : Nat) (s : Shared), n - i = k → i ≤ n → St i s → s.heap.SetOf (PySem.strKind prog w) S (fun k' => (xs.take i).any (· == k')) (distN xs i) →
      (∀ s', Moved (S :: wr) G s s' → s'.heap.SetOf (PySem.strKind prog w) S (fun k' => (xs.take n).any (· == k')) (distN xs n) → R (.ok (.ret .none)) s') →
      codeAny (model prog w) A (.builtin "set.update.loop" ⟨[.ref S, .ref I], []⟩) R s := by
  have hSw : S ∉ wr := fun h => hSf (W.sub _ h)
  have more : ∀ b ∈ wr, b ∈ S :: wr := fun b hb => List.mem_cons_of_mem _ hb
  have stays : ∀ {i : Nat} {s s' : Shared}, Moved wr G s s' → s.heap.SetOf (PySem.strKind prog w) S (fun k' => (xs.take i).any (· == k')) (distN xs i) → s'.heap.SetOf (PySem.strKind prog w) S (fun k' => (xs.take i).any (· == k')) (distN xs i) := fun hm ⟨o, es, ep, t, ho, rest⟩ => ⟨o, es, ep, t, hm.heap S _ hSw ho, rest⟩
  intro k
  induction k with
  | zero =>
    intro i s hk hi hst hS hR
    obtain rfl : i = n := by omega
    refine codeAny_builtin PyProof.Rows.F.entry_set_update_loop ?_
    rw [Around.under_plainId PyProof.Rows.F.plain_set_update_loop _]
    show wpAny _ A.in1 (pyNext (.ref I) >>= _) _ _ s
    exact wpAny_bind (W.done s _ _ hst fun s' hm => wpAny_pure (hR s' (hm.mono more) (stays hm hS)))
  | succ k ih =>
    intro i s hk hi hst hS hR
    have hlt : i < n := by omega
    refine codeAny_builtin PyProof.Rows.F.entry_set_update_loop ?_
    rw [Around.under_plainId PyProof.Rows.F.plain_set_update_loop _]
    show wpAny _ A.in1 (pyNext (.ref I) >>= _) _ _ s
    refine wpAny_bind (W.item i s _ _ hlt hst fun v s' hP hst' hm => ?_)
    obtain ⟨t, rfl⟩ := hval i v hP
    have hS' := stays hm hS
    have hd := distN_le xs i
    show wpAny _ A.in1 (holding [Value.str (xs.getD i Str.empty) t] (setAdd S (.str (xs.getD i Str.empty) t)) >>= _) _ _ s'
    refine wpAny_bind (wpAny_holding ?_)
    unfold setAdd
    refine wpAny_holding (wpAny_bind ((PySem.strKind prog w).pyHash (k := xs.getD i Str.empty) (strKind_is _ _ _ _) ?_))
    refine wpAny_setAddHashed_of (knd := PySem.strKind prog w) (s := { s' with toks := s'.toks + 1 }) (strKind_is _ _ _ _) rfl hS' (by unfold scanBound; omega) fun h' hsb hS2 => ?_
    have hS3 : h'.SetOf (PySem.strKind prog w) S (fun k' => (xs.take (i + 1)).any (· == k')) (distN xs (i + 1)) := SetOf_congr hS2 (fun k' => take_any (by omega) k') rfl
    refine wpAny_pure ⟨plainId_quiet PyProof.Rows.F.plain_set_update_loop _, ih (i + 1) _ (by omega) hlt (W.frame _ s' _ _ hst' (Nat.le_succ _) fun b hb o e => ?_) hS3 fun s'' hm'' hS'' => ?_⟩
    · rw [hsb.2 b (fun h : b = S => hSf (by rw [← h]; exact hb))]; exact e
    · refine hR s'' (Moved.trans W.gtrans ((hm.mono more).then_heap (Nat.le_succ _) fun b o hb e => ?_) hm'') hS''
      rw [hsb.2 b (fun h : b = S => hb (by rw [h]; exact List.mem_cons_self))]; exact e
end
section
variable {prog : Program} {w : World} {A : Around} {E : Value → Shared → Prop} {s : Shared}
/-- the set S0 that set.__new__ lays -/
abbrev newSet (led : Bool) : Obj := { cls := .type "set", dict := none, data := .set #[] 0 (.fresh 0 0 led) }
/-- set(t): a set of as many as there are unlike ones -/
theorem set_of_texts {l : Addr} {items : Array Value} {xs : List Str} {Q : Value → Shared → Prop} (hh : A.handled = none) (hl : s.heap.IsTuple l items) (hi : PyProof.Rows.StrsAre items.toList xs) (hn1 : xs.length ≤ 1000)
    (h : ∀ (h' : Heap) (tk : Nat), h'.SetOf (PySem.strKind prog w) s.heap.objs.size (fun k' => (xs.take items.size).any (· == k')) (distN xs items.size) →
      (∀ b o, b < s.heap.objs.size → s.heap.get? b = some o → h'.get? b = some o) → Q (.ref s.heap.objs.size) { s with heap := h', toks := tk }) :
    wpAny (model prog w) A (call (.type "set") [.ref l]) Q E s := by
  obtain ⟨c, tl, hmro⟩ := PySem.F.called_set.mro
  have hmade := PySem.F.called_set.made
  have hsub := PySem.F.called_set.sub
  refine wpAny_call (codeAny_of_tree ?_)
  show wpAny _ _ (callAny (.type "set") _) _ _ _
  refine wpAny_pure ⟨Code.quiet_builtin _ (by decide +kernel), codeAny_builtin PySem.F.entry_type_call ?_⟩
  rw [Around.under_plain (weight_type_call_type "set" [.ref l] []) rfl]
  have h1 := PySem.F.called_set.notType
  have h2 := PySem.F.called_set.canCreate
  have hct := PySem.F.typeCall_set_1 (.ref l)
  repeat (any_goals (first | assumption | wp_step))
  refine codeAny_mono (code_set_new_1 (.ref l) (E := E) (Q₁ := fun obj s₁ => ∃ led : Bool, obj = .ref s.heap.objs.size ∧ s₁ = { s with heap := s.heap.push (newSet led) }) fun led => ⟨led, rfl, rfl⟩) fun r s₁ hr => ?_
  cases r with
  | error e => exact hr
  | ok fl =>
    cases fl with
    | ret obj =>
      obtain ⟨led, rfl, rfl⟩ := hr
      have hS : (s.heap.push (newSet led)).get? s.heap.objs.size = some (newSet led) := Heap.get?_push_size _ rfl
      have hT : Shared.TypeIs { s with heap := s.heap.push (newSet led) } (.ref s.heap.objs.size) "set" := ⟨_, hS, rfl⟩
      have hli := PySem.F.called_set.init.lookup
      have hbi := PySem.F.called_set.init.bind (.ref s.heap.objs.size)
      repeat (any_goals (first | assumption | wp_step))
      refine codeAny_mono (codeAny_call_builtin (R := wants (fun r s₂ => r = .none ∧ ∃ h' tk, s₂ = { s with heap := h', toks := tk } ∧ h'.SetOf (PySem.strKind prog w) s.heap.objs.size (fun k' => (xs.take items.size).any (· == k')) (distN xs items.size) ∧
          (∀ b o, b < s.heap.objs.size → s.heap.get? b = some o → h'.get? b = some o)) E) PySem.F.called_set.init.plain PySem.F.entry_set_init (check_set_init_1 hT ?_)) fun r₂ s₂ hr₂ => ?_
      · obtain ⟨ol, hol, hcl, nl, hdl⟩ := hl
        obtain ⟨ocls, odict, odata, oslots⟩ := ol
        simp only at hcl hdl
        subst hcl; subst hdl
        have hol' : (s.heap.push (newSet led)).get? l = some { cls := .type "tuple", dict := odict, data := .seq items nl, slots := oslots } := Heap.get?_push_of_some _ hol
        have hsls := PySem.F.sub_tuple_set
        have hslf := PySem.F.sub_tuple_frozenset
        have hne : (Value.type "tuple" == Value.type "dict") = false := by decide
        have hl1 : (s.heap.push (newSet led)).IsTuple l items := ⟨_, hol', rfl, nl, rfl⟩
        unfold Builtin.«set.__init__» noKeywords Builtin.Frozenset.updateFrom
        generalize hPI : pyIter = PI
        wp_walk
        subst hPI
        refine wpAny_pyIter_tuple hl1 (wpAny_bind (wpAny_runValue ?_))
        have hlS : l < s.heap.objs.size := Heap.lt_size hol
        have hsz : xs.length = items.size := by rw [← StrsAre.len_eq hi, Array.length_toList]
        have hneI : l ≠ (s.heap.push (newSet led)).objs.size := by
          rw [Heap.size_push]; exact Nat.ne_of_lt (Nat.lt_succ_of_lt hlS)
        have hSf : s.heap.objs.size ∉ [(s.heap.push (newSet led)).objs.size, l] := by
          rw [Heap.size_push]; simp only [List.mem_cons, List.mem_singleton, List.not_mem_nil, or_false, not_or]
          exact ⟨Nat.ne_of_lt (Nat.lt_succ_self _), Nat.ne_of_gt hlS⟩
        refine upd_texts ((Walks.tuple (A := A.in1.in1.in1) (by simp [hh]) _ l hneI items).toS) s.heap.objs.size hSf xs hsz (by rw [← hsz]; exact hn1) (fun i v hv => SS.strs_at hi i v (by rw [Array.getElem?_toList]; exact hv)) (items.size - 0) 0 _ (by omega) (Nat.zero_le _)
          ⟨⟨_, Heap.get?_push_size _ rfl, rfl, rfl⟩, (hl1.push _)⟩ ?hS0 ?hR
        case hS0 =>
          have hget : ((s.heap.push (newSet led)).push { cls := .type "tuple_iterator", data := .fields #[.ref l, .int 0 0] }).get? s.heap.objs.size = some (newSet led) := Heap.get?_push_of_some _ hS
          exact PyProof.Rows.SetOf_congr ((PyProof.Rows.setObjOf_fresh (knd := PySem.strKind prog w) led).setOf hget (by unfold scanBound; omega)) (fun _ => rfl) rfl
        case hR =>
          intro s' hm hS'
          obtain ⟨h', g', d', tk', os'⟩ := s'
          have eg : g' = s.gens := hm.gens
          have ed : d' = s.drawn := hm.drawn
          have eo : os' = s.os := hm.os
          subst eg; subst ed; subst eo
          show wpAny _ _ _ _ _ _
          refine wpAny_pure ?_
          show wpAny _ _ (ret Value.none) _ _ _
          refine wpAny_pure ⟨rfl, h', tk', rfl, hS', fun b o hb e => hm.heap b o ?_ (Heap.get?_push_of_some _ (Heap.get?_push_of_some _ e))⟩
          simp only [List.mem_cons, List.mem_singleton, List.not_mem_nil, or_false, not_or]
          exact ⟨Nat.ne_of_lt hb, by rw [Heap.size_push]; exact Nat.ne_of_lt (Nat.lt_succ_of_lt hb)⟩
      · cases r₂ with
        | error e => exact hr₂
        | ok fl₂ =>
          cases fl₂ with
          | ret r =>
            obtain ⟨rfl, h', tk, rfl, hS', hk'⟩ := hr₂
            repeat (any_goals (first | assumption | wp_step))
            exact h _ _ hS' hk'
          | _ => exact hr₂.elim
    | _ => exact hr.elim
end
end
open PySem L2
/-! ### the rule -/
def strsD : List D → Option (List Str)
  | [] => some []
  | .str x :: r => (strsD r).map (x :: ·)
  | _ :: _ => none
theorem strsD_rep {K : Fg} {H : Hp} {φ : List Addr} : ∀ {ds : List D} {vs : List V} {xs : List Str}, Reps K H φ ds vs → strsD ds = some xs → vs = xs.map V.str
  | _, _, _, .nil, e => by cases e; rfl
  | _, _, ns, @Paired.cons _ _ _ d v ds vs r t, e => by
    cases d <;> first | (simp [strsD] at e; done) | skip
    rename_i x
    cases r
    cases hq : strsD ds with
    | none => rw [strsD, hq] at e; cases e
    | some ms =>
      rw [strsD, hq] at e
      cases e
      rw [strsD_rep t hq]; rfl
theorem strsD_map (xs : List Str) : strsD (xs.map D.str) = some xs := by
  induction xs with
  | nil => rfl
  | cons x r ih => simp [strsD, ih]
def gLenSet (d : D) (m : Mem) : Out D := match d with
  | .tup ds => match strsD ds with
    | some xs => if xs.length ≤ 1000 then .ok (.int (distN xs xs.length : Nat)) m else .bad
    | none => .bad
  | _ => .bad
section
open PySem.Spec PyProof.Rows
theorem ex_lenSet {X : Cx} {W : WX} {a : Expr} {fa : EFn} {p p2 q pos : Pos} (hc : X.calm = true) (hg : Gl X "len") (hm : X.mg "len" = none) (hg2 : Gl X "set") (hm2 : X.mg "set" = none) (ha : EX X W a fa)
    (na : starEach [a] X.env = (false, eval a X.env) :: starEach [] X.env := by rfl) : EX X W (.Call (.Name "len" p) [.Call (.Name "set" p2) [a] [] q] [] pos) (eUn gLenSet fa) := by
  refine ⟨fun pins s σ H Q I ⟨ρ, φ, m, hρ, hs, h⟩ => ?_⟩
  refine Call_ (ld_blt I hg hm boot_len ?_)
  refine callWith_builtin1 (args_cons ?_ rfl) rfl rfl
  refine Call_ (ld_blt I hg2 hm2 boot_set ?_)
  refine callWith_type1 (args_cons (thn (ha.run pins s σ H (fun x H1 => ∃ (l : Addr) (xs : List Str), x = .ref l ∧ SqT X.K H1 l (xs.map V.str) ∧ xs.length ≤ 1000 ∧ Q (.int (distN xs xs.length : Nat)) H1) I (bindG hρ hs h fun d m1 v H1 φ1 e1 p1 hρ1 hs1 r1 q1 => ?_)) fun v s1 ⟨x, H1, I1, r1, q1⟩ => args_nil ?_) na) na rfl
  · cases d <;> first | exact (show False from q1).elim | skip
    rename_i ds
    have q' : Post (ct X) W (RD (ct X)) σ H1 φ1 (match strsD ds with
      | some xs => if xs.length ≤ 1000 then .ok (.int (distN xs xs.length : Nat)) m1 else .bad
      | none => .bad) Q := q1
    split at q'
    · rename_i xs hx
      split at q'
      · rename_i hl
        cases r1 with
        | tup h1 h2 h3 => exact ⟨_, xs, rfl, by rw [← strsD_rep h3 hx]; exact SqT.of h2, hl, q'.here hs1 (.int _)⟩
      · exact q'.elim
    · exact q'.elim
  · obtain ⟨l, xs, rfl, hq, h1, q1⟩ := q1
    cases r1
    obtain ⟨its, r, pl, hz⟩ := I1.tuple hq
    refine set_of_texts (I1.ok.hd hc) pl (by simpa using L2.strsAre_of r) h1 fun h' tk hS hk => ?_
    have hl : its.toArray.size = xs.length := by rw [List.size_toArray, ← r.length, List.length_map]
    rw [hl] at hS
    refine args_nil ?_
    obtain ⟨o, es, ep, t, ho, hex, hd, _, _, _, hf, hn⟩ := hS
    have I2 : Inv X pins σ H1 { s1 with heap := h', toks := tk } := I1.kept fun b o e => hk b o (Heap.lt_size e) e
    have hd := distN_le xs xs.length
    exact PySem.call_len_set ho hex ‹_› hf (by rw [hn]; omega) ⟨.int (distN xs xs.length : Nat), H1, I2.tok _, ⟨_, by rw [hn]⟩, q1⟩
end
end DL
set_option Elab.async false
set_option linter.all false
set_option maxRecDepth 100000
set_option maxHeartbeats 1000000
/-! DLThing: things of any kind, near what is well formed; what a first fault is; lists cut. -/
namespace DL
open PySem L2
abbrev Kn (m : Mem) (d : D) : Prop := (kdOf d m).isSome
/-- a tuple of such ones, or another thing that has a kind -/
inductive Sh (P : D → Prop) (m : Mem) : D → Prop
  | tup {ds : List D} : (∀ d ∈ ds, P d) → Sh P m (.tup ds)
  | any {d : D} : isT d = false → Kn m d → Sh P m d
abbrev Ga (m : Mem) : D → Prop := Sh (Kn m) m
abbrev Gb (m : Mem) : D → Prop := Sh (Ga m) m
abbrev Gc (m : Mem) : D → Prop := Sh (Gb m) m
theorem Sh.kn {P : D → Prop} {m : Mem} {d : D} (h : Sh P m d) : Kn m d := by
  cases h with
  | tup _ => rfl
  | any _ h => exact h
theorem isi_of {d : D} {m : Mem} (h : Kn m d) : ∃ k : Kd, (∀ x M, (∃ j, M = m ++ j) → gIsi x d M = .ok (.bl (k.is x)) M) ∧ (k.is .int && !k.is .bl) = isI d ∧ k.is .tup = isT d := by
  obtain ⟨k, hk⟩ := Option.isSome_iff_exists.mp h
  have hk' : ∀ j, kdOf d (m ++ j) = some k := fun j => by
    cases d with
    | ref r =>
      unfold kdOf at hk ⊢
      simp only at hk ⊢
      cases hm : m[r]? with
      | none => rw [hm] at hk; cases hk
      | some q => rw [List.getElem?_append_left (get_lt' hm), hm]; rw [hm] at hk; exact hk
    | _ => exact hk
  refine ⟨k, fun x M ⟨j, e⟩ => by subst e; unfold gIsi; rw [hk' j], ?_, ?_⟩
  · cases d with
    | ref r =>
      unfold kdOf at hk
      simp only at hk
      split at hk <;> first | (cases hk; rfl) | cases hk
    | _ => cases hk <;> rfl
  · cases d with
    | ref r =>
      unfold kdOf at hk
      simp only at hk
      split at hk <;> first | (cases hk; rfl) | cases hk
    | _ => cases hk <;> rfl
theorem isi_tupK {d : D} {m : Mem} (h : Kn m d) : gIsi .tup d m = .ok (.bl (isT d)) m := by
  obtain ⟨k, h1, _, h3⟩ := isi_of h
  rw [h1 _ _ ⟨[], by simp⟩, h3]
theorem intsD_map (is : List Int) : intsD (is.map D.int) = some is := by
  induction is with
  | nil => rfl
  | cons i r ih => simp [intsD, ih]
theorem all_idx {α : Type} {p : α → Bool} : ∀ {l : List α}, l.all p = false → ∃ i x, l[i]? = some x ∧ p x = false ∧ (l.take i).all p = true
  | [], h => nomatch h
  | a :: l, h => by
    cases hp : p a with
    | false => exact ⟨0, a, rfl, hp, rfl⟩
    | true =>
      have h' : l.all p = false := by simpa [hp] using h
      obtain ⟨i, x, h1, h2, h3⟩ := all_idx h'
      exact ⟨i + 1, x, h1, h2, by simp [hp, h3]⟩
theorem any_idx {p : Nat → Bool} {n : Nat} (h : (List.range n).any p = true) : ∃ i, i < n ∧ p i = true ∧ ∀ j, j < i → p j = false := by
  induction n with
  | zero => simp at h
  | succ n ih =>
    rw [List.range_succ, List.any_append] at h
    cases h1 : (List.range n).any p with
    | true =>
      obtain ⟨i, a, b, c⟩ := ih h1
      exact ⟨i, by omega, b, c⟩
    | false =>
      rw [h1] at h
      refine ⟨n, by omega, by simpa using h, fun j hj => ?_⟩
      have := List.any_eq_false.mp h1 j (List.mem_range.mpr hj)
      simpa using this
theorem isT_inv {P : D → Prop} {m : Mem} {d : D} (h : Sh P m d) (ht : isT d = true) : ∃ ds, d = .tup ds ∧ ∀ x ∈ ds, P x := by
  cases h with
  | tup h => exact ⟨_, rfl, h⟩
  | any h _ => rw [h] at ht; cases ht
theorem cnt_pos {α : Type} {p : α → Bool} {l : List α} : (0 < (l.filter fun x => !p x).length) = (l.all p = false) := by
  rw [List.all_eq_false]
  simp only [eq_iff_iff, List.length_pos_iff_exists_mem, List.mem_filter]
  constructor
  · rintro ⟨x, h1, h2⟩; exact ⟨x, h1, by simpa using h2⟩
  · rintro ⟨x, h1, h2⟩; exact ⟨x, h1, by simpa using h2⟩
theorem app_one (m : Mem) (l : List D) : ∃ j, m ++ [Cell.lst l] = m ++ j := ⟨_, rfl⟩
theorem gXf_last {L : List Str} {z f : Str} {a b : Addr} {m : Mem} {c : Str} {fs : List (Str × D)} {y : D} (hz : L.contains z = true) (h : fs.lookup f = some y) : gXf L z a b f (.exo a b m.length) (m ++ [.exn c fs]) = .ok y (m ++ [.exn c fs]) := by
  simp only [gXf, hz, and_self, if_true, mem_last, h]
theorem gIsX_last {tab : List (Str × Bool)} {z : Str} {a b : Addr} {m : Mem} {c : Str} {fs : List (Str × D)} {y : Bool} (h : tabGet tab z = some y) : gIsX tab z a b (.exo a b m.length) (m ++ [.exn c fs]) = .ok (.bl y) (m ++ [.exn c fs]) := by
  simp only [gIsX, and_self, if_true, mem_last, h]
theorem cut_map {α β : Type} {f : α → β} {xs : List α} {lo hi : Option Int} : cut (xs.map f) lo hi = (cut xs lo hi).map f := by unfold cut; simp [List.map_drop, List.map_take]
theorem cut_take {α : Type} {xs : List α} {n : Nat} : cut xs none (some (n : Int)) = xs.take n := by
  unfold cut
  rw [HT.sIx_none, HT.sIx_nat, List.drop_zero, Nat.sub_zero]
  rcases Nat.le_total n xs.length with z | z
  · rw [Nat.min_eq_left z]
  · rw [Nat.min_eq_right z, List.take_length, List.take_of_length_le z]
theorem cut_drop {α : Type} {xs : List α} {n : Nat} : cut xs (some (n : Int)) none = xs.drop n := by
  unfold cut
  rw [HT.sIx_none, HT.sIx_nat]
  rcases Nat.le_total n xs.length with z | z
  · rw [Nat.min_eq_left z, List.take_of_length_le (by simp)]
  · rw [Nat.min_eq_right z, List.drop_length, List.drop_of_length_le z]; simp
/-- a def that answers a new list -/
theorem run_ref {t h : Nat} {N : List Str} {n : Nat} {g : SFn} {ds : List D} {m : Mem} {G : Nat → Mem → Prop} (tb : Tub t h m) (hl : ds.length = n)
    (hh : ∀ K : Kt, (∀ k M, m.length ≤ k → Tub t h M → Grow t h m M → G k M → K.rt (.ref k) M) → SEv (g (envOf N ds) m) K) : Ev (runF N n g ds m) fun d M => ∃ k, d = .ref k ∧ m.length ≤ k ∧ Tub t h M ∧ Grow t h m M ∧ G k M := by
  refine (run_grow (G := fun d M => ∃ k, d = .ref k ∧ m.length ≤ k ∧ G k M) tb hl (fun d M ⟨k, e, hk, _⟩ _ hb => ?_) fun K hK => hh K fun k M a b c d => hK _ _ b c ⟨k, rfl, a, d⟩).mono ?_
  · subst e
    simp [D.bel] at hb
    omega
  · rintro d M ⟨a, b, k, c, e, f⟩
    exact ⟨k, c, e, a, b, f⟩
theorem erase_map {α β : Type} {f : α → β} : ∀ (L : List α) (q : Nat), (L.map f).eraseIdx q = (L.eraseIdx q).map f
  | [], _ => rfl
  | _ :: _, 0 => rfl
  | a :: L, q + 1 => by
    show f a :: (L.map f).eraseIdx q = f a :: (L.eraseIdx q).map f
    rw [erase_map L q]
/-- the answer is told by the things alone -/
theorem run_same {t h : Nat} {N : List Str} {n : Nat} {g : SFn} {ds : List D} {m : Mem} {P : D → Prop} (hl : ds.length = n)
    (hh : ∀ K : Kt, (∀ d M, Tub t h M → Off t h m M → P d → K.rt d M) → SEv (g (envOf N ds) m) K) : Ev (runF N n g ds m) fun d M => P d ∧ Tub t h M ∧ Off t h m M := by
  have q := hh ⟨fun _ _ => False, fun _ _ => False, fun _ _ => False, fun d M => Tub t h M ∧ Off t h m M ∧ P d⟩ fun d M a b c => ⟨a, b, c⟩
  unfold runF
  rw [if_pos hl]
  revert q
  cases g (envOf N ds) m with
  | ret d' m' =>
    rintro ⟨a, b, c⟩
    show Ev (gcD _ _ _) _
    unfold gcD
    split
    · rw [← b.len, List.take_length]; exact ⟨c, a, b⟩
    · exact ⟨c, a, b⟩
  | next ρ m' => exact fun h => h.elim
  | brk ρ m' => exact fun h => h.elim
  | cont ρ m' => exact fun h => h.elim
  | exc x' ρ m' => exact fun h => h.elim
  | bad => exact fun h => h.elim
/-! ### things near a store -/
theorem Kn.take {n : Nat} {M : Mem} {d : D} (h : Kn M d) (hb : d.bel n = true) : Kn (M.take n) d := by
  cases d with
  | ref k =>
    have hk : k < n := by simpa [D.bel] using hb
    unfold Kn kdOf at h ⊢
    simp only [List.getElem?_take_of_lt hk] at h ⊢
    exact h
  | exo _ _ _ => cases h
  | _ => rfl
theorem Sh.take {P P' : D → Prop} {n : Nat} {M : Mem} {d : D} (hp : ∀ d, P d → d.bel n = true → P' d) (h : Sh P M d) (hb : d.bel n = true) : Sh P' (M.take n) d := by
  cases h with
  | tup h =>
    refine .tup fun d hd => hp d (h d hd) ?_
    have : ∀ (l : List D), D.bels n l = true → ∀ x ∈ l, x.bel n = true := by
      intro l
      induction l with
      | nil => exact fun _ _ z => nomatch z
      | cons a l ih =>
        intro hl x hx
        have hl' : a.bel n = true ∧ D.bels n l = true := by simpa [D.bels] using hl
        rcases List.mem_cons.mp hx with rfl | hx
        · exact hl'.1
        · exact ih hl'.2 x hx
    exact this _ (by simpa [D.bel] using hb) d hd
  | any h1 h2 => exact .any h1 (h2.take hb)
theorem Gc.take {n : Nat} {M : Mem} {d : D} (h : Gc M d) (hb : d.bel n = true) : Gc (M.take n) d :=
  Sh.take (fun d a b => Sh.take (fun d a b => Sh.take (fun d a b => Kn.take a b) a b) a b) h hb
theorem kn_fit {d : D} {M : Mem} (h : d.fit = true) : Kn M d := plain_kd (fit_plain d h)
theorem fit_mem {ds : List D} (h : (D.tup ds).fit = true) {d : D} (hd : d ∈ ds) : d.fit = true := by
  have : D.fits ds = true := by simpa [D.fit] using h
  rw [fits_all, List.all_eq_true] at this
  exact this d hd
theorem sh_fit {P : D → Prop} {M : Mem} (hp : ∀ d, d.fit = true → P d) {d : D} (h : d.fit = true) : Sh P M d := by
  cases d with
  | tup ds => exact .tup fun d hd => hp d (fit_mem h hd)
  | rot _ => simp [D.fit] at h
  | rol _ => simp [D.fit] at h
  | ref _ => simp [D.fit] at h
  | exo _ _ _ => simp [D.fit] at h
  | _ => exact .any rfl rfl
theorem ga_fit {d : D} {M : Mem} (h : d.fit = true) : Ga M d := sh_fit (fun _ h => kn_fit h) h
theorem gb_fit {d : D} {M : Mem} (h : d.fit = true) : Gb M d := sh_fit (fun _ h => ga_fit h) h
theorem gc_fit {d : D} {M : Mem} (h : d.fit = true) : Gc M d := sh_fit (fun _ h => gb_fit h) h
theorem kn_ref {k : Nat} {M : Mem} {ds : List D} (h : M[k]? = some (.lst ds)) : Kn M (.ref k) := by
  unfold Kn kdOf; simp only [h]; rfl
theorem atI_last {α : Type} {xs : List α} (h : xs ≠ []) : ∃ x, atI xs (-1) = some x ∧ x ∈ xs := by
  have hp := List.length_pos_iff.mpr h
  have hx : xs[xs.length - 1]? = some (xs[xs.length - 1]'(by omega)) := List.getElem?_eq_getElem (by omega)
  refine ⟨xs[xs.length - 1]'(by omega), ?_, List.getElem_mem _⟩
  unfold atI ixN
  rw [if_neg (by omega), if_pos (by omega)]
  show xs[((-1 : Int) + (xs.length : Int)).toNat]? = _
  rw [show ((-1 : Int) + (xs.length : Int)).toNat = xs.length - 1 by omega, hx]
theorem cat_s {A B : List D} {M : Mem} (h : A.length + B.length ≤ 1000) : gAdd (.tup A) (.tup B) M = .ok (.tup (A ++ B)) M := by
  rw [gAdd_tup, if_pos (by rw [szl]; omega)]
theorem Grow.trans {t h : Nat} {m M M' : Mem} (a : Grow t h m M) (b : Grow t h M M') : Grow t h m M' := ⟨Nat.le_trans a.le b.le, fun k x y z => (b.at_ k (Nat.lt_of_lt_of_le x a.le) y z).trans (a.at_ k x y z)⟩
theorem Grow.cell {t h k : Nat} {M M' : Mem} {c : Cell} (g : Grow t h M M') (e : M[k]? = some c) (h1 : k ≠ t) (h2 : k ≠ h) : M'[k]? = some c := (g.at_ k (get_lt' e) h1 h2).trans e
theorem Off.grow {t h : Nat} {M M' : Mem} (o : Off t h M M') : Grow t h M M' := Grow.refl.off o
end DL
set_option Elab.async false
set_option linter.all false
set_option maxRecDepth 100000
set_option maxHeartbeats 4000000
/-! DLText: text.split(sep), text * int. -/
namespace DL
open PySem L2
/-! ### a text's method -/
def eStrM (k : G2) (f g : EFn) : EFn := fun ρ m => (f ρ m).bind fun x m1 => match x with
  | .str _ => (g ρ m1).bind fun y m2 => k x y m2
  | _ => .bad
def splL (b a : Str) : List Str := (TL.spl b.cps.toList 0 [] a.cps.toList).map fun l => ⟨l.toArray⟩
def gSplit : G2 := fun x y m => match x, y with
  | .str a, .str b => if (decide (b.length = 1) && b.cps.all (· < 256) && decide (a.length ≤ 16000000)) = true then .ok (.ref m.length) (m ++ [.lst ((splL b a).map .str)]) else .bad
  | _, _ => .bad
theorem tl_inj {x y : Str} (h : x.cps.toList = y.cps.toList) : x = y := by
  cases x; cases y
  simp only [Str.mk.injEq]
  exact Array.toList_inj.mp h
theorem split_splL {a b : Str} (hb : b.length = 1) (hk : b.cps.all (· < 256) = true) : Txt.split a b = splL b a := by
  have hne : b.cps.toList ≠ [] := fun e => by
    have : b.cps.toList.length = b.length := Array.length_toList
    rw [e, hb] at this; cases this
  have h := TL.split_spl a b hne (TL.kind_ok hk)
  unfold splL
  rw [show TL.spl b.cps.toList 0 [] a.cps.toList = TL.spl (TL.tl b) 0 [] (TL.tl a) from rfl, ← h, List.map_map]
  refine (List.map_id _).symm.trans (List.map_congr_left fun x _ => ?_)
  rfl
theorem spl_mem (S : List Nat) : ∀ (L : List Nat) (k : Nat) (acc : List Nat) (l : List Nat), l ∈ TL.spl S k acc L → ∀ c ∈ l, c ∈ acc ∨ c ∈ L := by
  intro L
  induction L with
  | nil => 
    intro k acc l hl c hc
    rw [TL.spl_nil] at hl
    rw [show l = acc by simpa using hl] at hc
    exact .inl hc
  | cons d r ih =>
    intro k acc l hl c hc
    cases k with
    | succ k =>
      have hl' : l ∈ TL.spl S k acc r := hl
      rcases ih k acc l hl' c hc with h | h
      · exact .inl h
      · exact .inr (List.mem_cons_of_mem _ h)
    | zero =>
      cases hp : TL.pre S (d :: r) with
      | true =>
        rw [TL.spl_hit hp] at hl
        rcases List.mem_cons.mp hl with e | hl
        · rw [e] at hc; exact .inl hc
        · rcases ih _ _ l hl c hc with h | h
          · cases h
          · exact .inr (List.mem_cons_of_mem _ h)
      | false =>
        rw [TL.spl_miss hp] at hl
        rcases ih _ _ l hl c hc with h | h
        · rcases List.mem_append.mp h with h | h
          · exact .inl h
          · rw [show c = d by simpa using h]; exact .inr List.mem_cons_self
        · exact .inr (List.mem_cons_of_mem _ h)
theorem strOk_sub {x : Str} {l : List Nat} (h : PyData.strOk x = true) (hs : ∀ c ∈ l, c ∈ x.cps.toList) : PyData.strOk ⟨l.toArray⟩ = true := by
  unfold PyData.strOk at h ⊢
  rw [← Array.all_toList, List.all_eq_true] at h ⊢
  exact fun c hc => h c (hs c hc)
theorem split_reps {K : Fg} {H : Hp} {φ : List Addr} {a b : Str} (hb : b.length = 1) (hk : b.cps.all (· < 256) = true) (ha : a.length ≤ 16000000) (ok : PyData.strOk a = true) : Reps K H φ ((splL b a).map D.str) ((Txt.split a b).map V.str) := by
  rw [split_splL hb hk]
  have : ∀ l : List Str, (∀ x ∈ l, x.length ≤ sizeLine ∧ PyData.strOk x = true) → Reps K H φ (l.map D.str) (l.map V.str) := by
    intro l
    induction l with
    | nil => exact fun _ => .nil
    | cons x l ih => exact fun h => .cons (.str (h x List.mem_cons_self).1 (h x List.mem_cons_self).2) (ih fun y hy => h y (List.mem_cons_of_mem _ hy))
  refine this _ fun x hx => ⟨?_, ?_⟩
  · have h2 : x ∈ Txt.split a b := by rw [split_splL hb hk]; exact hx
    have := PyProof.Rows.part_short h2
    rw [szl]; omega
  · obtain ⟨l, hl, rfl⟩ := List.mem_map.mp hx
    exact strOk_sub ok fun c hc => by
      rcases spl_mem _ _ _ _ l hl c hc with h | h
      · cases h
      · exact h
theorem splL_len (b a : Str) (hb : b.length = 1) (hk : b.cps.all (· < 256) = true) : (splL b a).length ≤ a.length + 2 := by
  rw [← split_splL hb hk]; exact PyProof.Rows.split_le a b
section
variable {X : Cx} {W : WX} {o e : Expr} {apos pos : Pos} {fo fe : EFn}
theorem ex_split (ho : EX X W o fo) (he : EX X W e fe) (hs : starEach [e] X.env = [(false, eval e X.env)] := by rfl) (hbase : attributeBase o "split" X.env (eval o X.env) = eval o X.env := by rfl) (hline : (apos.endLine == pos.line) = true := by rfl) :
    EX X W (.Call (.Attribute o "split" apos) [e] [] pos) (eStrM gSplit fo fe) :=
  PE.imp (pe_split ho he hs hbase hline) fun σ H Q ⟨ρ, φ, m, hρ, hsm, q⟩ => bindG hρ hsm q fun d m1 v H1 φ1 e1 p1 hρ1 hs1 r1 q1 => by
    cases d with
    | str a =>
      have q' : Post (ct X) W (RD (ct X)) σ H1 φ1 ((fe ρ m1).bind fun y m2 => gSplit (.str a) y m2) Q := q1
      cases r1 with
      | str h1 h2 =>
        refine ⟨⟨a, rfl⟩, ?_⟩
        refine bindG hρ1 hs1 q' fun y m2 w H2 φ2 e2 p2 hρ2 hs2 r2 q2 => ?_
        cases y with
        | str b =>
          cases r2 with
          | str g1 g2 =>
            have q3 : Post (ct X) W (RD (ct X)) σ H2 φ2 (if (decide (b.length = 1) && b.cps.all (· < 256) && decide (a.length ≤ 16000000)) = true then .ok (.ref m2.length) (m2 ++ [.lst ((splL b a).map .str)]) else .bad) Q := q2
            split at q3
            · rename_i h
              rw [Bool.and_eq_true, Bool.and_eq_true, decide_eq_true_iff, decide_eq_true_iff] at h
              obtain ⟨⟨c1, c2⟩, c3⟩ := h
              have hl := splL_len b a c1 c2
              refine ⟨a, b, rfl, rfl, by rw [c1]; rfl, by rw [szl]; omega, fun p hp => ?_⟩
              exact q3.newLst hs2 (by rw [List.length_map, szl]; omega) (split_reps c1 c2 c3 h2) p hp
            · exact q3.elim
        | _ => exact (show False from q2).elim
    | _ => exact (show False from q1).elim
end
/-! ### text * int -/
def rMulS : R2 := fun x y H Q => ∃ s k, x = .str s ∧ y = .int k ∧ s.length ≤ 16384 ∧ 1 ≤ k ∧ k ≤ 1000 ∧ Q (.str (Txt.mul s k)) H
theorem op_mulS {X : Cx} : OpR X (binaryOp .Mult) rMulS := by
  intro pins s σ H x y v u Q I rx ry h
  obtain ⟨a, k, rfl, rfl, h1, h2, h3, q⟩ := h
  obtain ⟨t, rfl⟩ := rx
  obtain ⟨t2, rfl⟩ := ry
  refine SB.mul (PyProof.Rows.mulOk_of 16384 1000 h1 h3 (by omega) (by decide) (by decide)) fun t' n => ?_
  exact ⟨.str (Txt.mul a k), H, I.tok _, ⟨_, rfl⟩, q⟩
def mulS (s : Str) (k : Nat) : Str := ⟨(List.replicate k s.cps.toList).flatten.toArray⟩
theorem foldl_cat (c : Array Nat) : ∀ (k : Nat) (acc : Array Nat), ((List.replicate k c).foldl (· ++ ·) acc).toList = acc.toList ++ (List.replicate k c.toList).flatten
  | 0, acc => by simp
  | k + 1, acc => by
    rw [List.replicate_succ, List.foldl_cons, foldl_cat c k, List.replicate_succ, List.flatten_cons]
    simp
theorem mul_mulS {s : Str} {k : Int} (h : 1 ≤ k) : Txt.mul s k = mulS s k.toNat := by
  unfold Txt.mul
  rw [if_neg (by omega)]
  apply tl_inj
  unfold mulS
  split
  · rename_i q
    rw [Bool.or_eq_true, beq_iff_eq, beq_iff_eq] at q
    rcases q with q | q
    · subst q; simp
    · have hz : s.cps.toList = [] := by
        have : s.cps.toList.length = s.length := Array.length_toList
        rw [q] at this
        exact List.eq_nil_of_length_eq_zero this
      rw [hz]
      simp
  · rw [foldl_cat]; simp
theorem mulS_tl (s : Str) (k : Nat) : (mulS s k).cps.toList = (List.replicate k s.cps.toList).flatten := by simp [mulS]
theorem mulS_len (s : Str) (k : Nat) : (mulS s k).length = k * s.length := by
  have : (mulS s k).cps.toList.length = (mulS s k).length := Array.length_toList
  rw [← this, mulS_tl]
  have h2 : s.cps.toList.length = s.length := Array.length_toList
  simp [h2]
def gMulS : G2 := fun x y m => match x, y with
  | .str s, .int k => if s.length ≤ 16384 ∧ 1 ≤ k ∧ k ≤ 1000 then .ok (.str (mulS s k.toNat)) m else .bad
  | _, _ => .bad
theorem mulS_ok {s : Str} {k : Nat} (h : PyData.strOk s = true) : PyData.strOk (mulS s k) = true := strOk_sub h fun c hc => by
  rw [List.mem_flatten] at hc
  obtain ⟨l, h1, h2⟩ := hc
  rw [List.eq_of_mem_replicate h1] at h2
  exact h2
theorem ad_mulS {C : Ct} : Ad2 C rMulS gMulS := by
  intro W σ H φ m d1 d2 v1 v2 Q hs r1 r2 q
  cases d1 <;> first | exact (show False from q).elim | skip
  cases d2 <;> first | exact (show False from q).elim | skip
  rename_i s k
  have q' : Post C W (RD C) σ H φ (if s.length ≤ 16384 ∧ 1 ≤ k ∧ k ≤ 1000 then .ok (.str (mulS s k.toNat)) m else .bad) Q := q
  split at q'
  · rename_i h
    obtain ⟨h1, h2, h3⟩ := h
    cases r1 with
    | str k1 k2 =>
      cases r2
      refine ⟨s, k, rfl, rfl, h1, h2, h3, ?_⟩
      rw [mul_mulS h2]
      refine q'.here hs (.str ?_ (mulS_ok k2))
      rw [mulS_len, szl]
      have : k.toNat * s.length ≤ 1000 * 16384 := Nat.mul_le_mul (by omega) h1
      omega
  · exact q'.elim
theorem ex_mulS {X : Cx} {W : WX} {a b : Expr} {fa fb : EFn} {pos : Pos} (ha : EX X W a fa) (hb : EX X W b fb) : EX X W (.BinOp a .Mult b pos) (eBin gMulS fa fb) := ex_op op_mulS ad_mulS ha hb
/-! ### a, b, c = e, f, g -/
def sPar3 (i j l : Nat) (g : AFn) : SFn := fun ρ m => (g ρ m).so ρ fun ds m1 => match ds with | [d, e, f] => .next (((ρ.set i (some d)).set j (some e)).set l (some f)) m1 | _ => .bad
theorem sx_par3 {X : Cx} {W : WX} {pos : Pos} (i j l : Nat) {x y z : Str} {a b c : Expr} {g : AFn} {px py pz pt : Pos} {kt k2 pt2} (hc : X.calm = true) (hN : X.N.Nodup) (ha : AX X W [a, b, c] g) (hi : X.N[i]? = some x := by rfl) (hj : X.N[j]? = some y := by rfl) (hl : X.N[l]? = some z := by rfl)
    (hij : i ≠ j := by decide) (hil : i ≠ l := by decide) (hjl : j ≠ l := by decide)
    (hx : X.env.scope.names.lookup x = some .local := by rfl) (hy : X.env.scope.names.lookup y = some .local := by rfl) (hz : X.env.scope.names.lookup z = some .local := by rfl)
    (hw : swappedStores [.Tuple [.Name x px, .Name y py, .Name z pz] kt pt] (.Tuple [a, b, c] k2 pt2) X.env = pure (some [x, y, z]) := by rfl)
    (hs : swapsWithSole [.Tuple [.Name x px, .Name y py, .Name z pz] kt pt] (.Tuple [a, b, c] k2 pt2) pos.line X.env = pure false := by rfl) :
    SX X W (.Assign [.Tuple [.Name x px, .Name y py, .Name z pz] kt pt] (.Tuple [a, b, c] k2 pt2) pos) (sPar3 i j l g) :=
  PS.imp (ps_par3 hc hN hi hj hl hij hil hjl hx hy hz ha hw hs) fun D σ H ⟨ρ, φ, m, hρ, hs, q⟩ => bindS hρ hs q fun ds m1 vs H1 φ1 e p hρ1 hs1 r1 q1 => by
    match ds, r1, q1 with
    | [d, e, f], .cons ra (.cons rb (.cons rc .nil)), q1 => exact ⟨_, _, _, rfl, PostS.nx (C := ct X) (W := W) (φ := φ1) (m := m1) q1 (((hρ1.set ra).set rb).set rc) hs1⟩
    | [], _, q1 => exact q1.elim
    | [_], _, q1 => exact q1.elim
    | [_, _], _, q1 => exact q1.elim
    | _ :: _ :: _ :: _ :: _, _, q1 => exact q1.elim
@[simp] theorem sPar3_ap {i j l : Nat} {a : AFn} {ρ : Rho} {m : Mem} : sPar3 i j l a ρ m = (a ρ m).so ρ fun ds m1 => match ds with | [d, e, f] => .next (((ρ.set i (some d)).set j (some e)).set l (some f)) m1 | _ => .bad := id rfl
@[simp] theorem eStrM_ap {k : G2} {f g : EFn} {ρ : Rho} {m : Mem} : eStrM k f g ρ m = (f ρ m).bind fun x m1 => match x with | .str _ => (g ρ m1).bind fun y m2 => k x y m2 | _ => .bad := id rfl
end DL
set_option Elab.async false
set_option linter.all false
set_option maxRecDepth 100000
set_option maxHeartbeats 4000000
namespace DL
open PySem L2
def tab_RoundsError : List (Str × Bool) := [("BadSource", true)]
def tab_BadSource : List (Str × Bool) := [("BadSource", true)]
def tab_BadPaper : List (Str × Bool) := [("BadSource", false)]
def tab_BadText : List (Str × Bool) := [("BadSource", false)]
def fl_line_of : List Str := ["BadSource"]
def fl_place_of : List Str := ["BadSource"]
def fl_word_of : List Str := ["BadSource"]
noncomputable def b_run_end_1 : SFn := (sAug 3 gIAdd (eC (.int 1)))
noncomputable def b_run_end : SFn := (sSeq (sSet 3 (eVar 1))
    (sSeq (sWhile (tAndF (eTst (eBin gLtA (eVar 3) (eArgs (on1 gLen1) (aCons (eVar 0) aNil)))) (eTst (eBin (gIn false) (eBin gIx (eVar 0) (eVar 3)) (eVar 2)))) b_run_end_1)
    (sRet (eVar 3))))
noncomputable def F_run_end : Fn := runF ["line", "start", "signs", "end"] 3 b_run_end
noncomputable def b_number_token : SFn := (sSeq (sSet 3 (eIf (eTst (eBin gEq (eBin gIx (eVar 1) (eVar 2)) (eC (.str "-")))) (eBin gAdd (eVar 2) (eC (.int 1))) (eVar 2)))
    (sSeq (sSet 4 (eArgs F_run_end (aCons (eVar 1) (aCons (eVar 3) (aCons (eC (.str "0123456789")) aNil)))))
    (sSeq (sIf (eTst (eBin gEq (eVar 4) (eVar 3))) (sRaise "BadSource" ["line", "place", "word"] (aCons (eVar 0) (aCons (eBin gAdd (eVar 2) (eC (.int 1))) (aCons (eC (.str "sign")) aNil)))) sSkip)
    (sSeq (sIf (eTst (eBin gGt (eBin gSub (eVar 4) (eVar 2)) (eC (.int 14)))) (sRaise "BadSource" ["line", "place", "word"] (aCons (eVar 0) (aCons (eBin gAdd (eVar 2) (eC (.int 1))) (aCons (eC (.str "long")) aNil)))) sSkip)
    (sSeq (sIf (tAndF (eTst (eBin gEq (eBin gIx (eVar 1) (eVar 3)) (eC (.str "0")))) (eTst (eBin gGt (eBin gSub (eVar 4) (eVar 2)) (eC (.int 1))))) (sRaise "BadSource" ["line", "place", "word"] (aCons (eVar 0) (aCons (eBin gAdd (eVar 2) (eC (.int 1))) (aCons (eC (.str "number")) aNil)))) sSkip)
    (sRet (eArgs mkTup (aCons (eArgs mkTup (aCons (eC (.str "number")) (aCons (eGc (eArgs (on1 gInt) (aCons (eSl (eVar 1) (oSome (eVar 2)) (oSome (eVar 4))) aNil))) (aCons (eVar 0) (aCons (eBin gAdd (eVar 2) (eC (.int 1))) aNil))))) (aCons (eVar 4) aNil)))))))))
noncomputable def F_number_token : Fn := runF ["at", "line", "start", "bare", "end"] 3 b_number_token
noncomputable def b_word_token : SFn := (sSeq (sSet 3 (eArgs F_run_end (aCons (eVar 1) (aCons (eVar 2) (aCons (eC (.str "abcdefghijklmnopqrstuvwxyz")) aNil)))))
    (sSeq (sIf (eTst (eBin gGt (eBin gSub (eVar 3) (eVar 2)) (eC (.int 8)))) (sRaise "BadSource" ["line", "place", "word"] (aCons (eVar 0) (aCons (eBin gAdd (eVar 2) (eC (.int 1))) (aCons (eC (.str "long")) aNil)))) sSkip)
    (sRet (eArgs mkTup (aCons (eArgs mkTup (aCons (eC (.str "word")) (aCons (eSl (eVar 1) (oSome (eVar 2)) (oSome (eVar 3))) (aCons (eVar 0) (aCons (eBin gAdd (eVar 2) (eC (.int 1))) aNil))))) (aCons (eVar 3) aNil))))))
noncomputable def F_word_token : Fn := runF ["at", "line", "start", "end"] 3 b_word_token
noncomputable def b_token_from : SFn := (sSeq (sSet 3 (eBin gIx (eVar 1) (eVar 2)))
    (sSeq (sIf (eTst (eBin (gIn false) (eVar 3) (eC (.str "abcdefghijklmnopqrstuvwxyz")))) (sRet (eArgs F_word_token (aCons (eVar 0) (aCons (eVar 1) (aCons (eVar 2) aNil))))) sSkip)
    (sSeq (sIf (tOrF (eTst (eBin gEq (eVar 3) (eC (.str "-")))) (eTst (eBin (gIn false) (eVar 3) (eC (.str "0123456789"))))) (sRet (eArgs F_number_token (aCons (eVar 0) (aCons (eVar 1) (aCons (eVar 2) aNil))))) sSkip)
    (sSeq (sIf (eTst (eBin (gIn false) (eVar 3) (eC (.str "*(){}:;,.=!")))) (sRet (eArgs mkTup (aCons (eArgs mkTup (aCons (eC (.str "sign")) (aCons (eVar 3) (aCons (eVar 0) (aCons (eBin gAdd (eVar 2) (eC (.int 1))) aNil))))) (aCons (eBin gAdd (eVar 2) (eC (.int 1))) aNil)))) sSkip)
    (sRaise "BadSource" ["line", "place", "word"] (aCons (eVar 0) (aCons (eBin gAdd (eVar 2) (eC (.int 1))) (aCons (eC (.str "sign")) aNil))))))))
noncomputable def F_token_from : Fn := runF ["at", "line", "start", "sign"] 3 b_token_from
noncomputable def b_tokens_of_1 : SFn := (sSeq (sAsg (tgTup (tgCons (tgN 5) (tgCons (tgN 4) tgNil))) (eArgs F_token_from (aCons (eBin gAdd (eVar 2) (eC (.int 1))) (aCons (eVar 3) (aCons (eVar 4) aNil)))))
    (sSeq (sExpr (eMeth gApp (eVar 1) (aCons (eVar 5) aNil)))
    (sSet 4 (eArgs F_run_end (aCons (eVar 3) (aCons (eVar 4) (aCons (eC (.str " ")) aNil)))))))
noncomputable def b_tokens_of_2 : SFn := (sSeq (sSet 4 (eArgs F_run_end (aCons (eVar 3) (aCons (eC (.int 0)) (aCons (eC (.str " ")) aNil)))))
    (sWhile (tAndF (eTst (eBin gLtA (eVar 4) (eArgs (on1 gLen1) (aCons (eVar 3) aNil)))) (eTst (eBin gNe (eBin gIx (eVar 3) (eVar 4)) (eC (.str "#"))))) b_tokens_of_1))
noncomputable def b_tokens_of : SFn := (sSeq (sSet 1 (eArgs mkLst aNil))
    (sSeq (sFor (iEnumD (eStrM gSplit (eVar 0) (eC (.str "\n")))) (tgTup (tgCons (tgN 2) (tgCons (tgN 3) tgNil))) b_tokens_of_2)
    (sRet (eArgs (on1 gTuple) (aCons (eVar 1) aNil)))))
noncomputable def F_tokens_of : Fn := runF ["text", "found", "number", "line", "place", "token"] 1 b_tokens_of
noncomputable def b__law_jug_1 : SFn := (sSeq (sSet 3 (eBin gMod (eArgs (on1 gAbs) (aCons (eArgs (on1 gInt) (aCons (eVar 2) aNil)) aNil)) (eBin gShl (eC (.int 1)) (eC (.int 1200)))))
    (sSeq (sSub (eVar 1) (eC (.str "stir")) (eBin gMod (eArgs (on1 gInt) (aCons (eBin gAdd (eBin gAdd (eBin gMul (eBin gIx (eVar 1) (eC (.str "stir"))) (eC (.int 39373))) (eBin gMod (eVar 3) (eC (.int 1000000199)))) (eC (.int 9))) aNil)) (eC (.int 2305843009213693907))))
    (sIf (eTst (eBin gGe (eVar 3) (eBin gPow (eC (.int 10)) (eC (.int 18))))) (sSub (eVar 1) (eC (.str "digits")) (eVar 3)) sSkip)))
noncomputable def b__law_jug : SFn := (sSeq (sSet 1 (eDisp (prCons (eC (.str "stir")) (eC (.int 28029)) (prCons (eC (.str "digits")) (eC (.int 0)) (prCons (eC (.str "turns")) (eC (.int 0)) (prCons (eC (.str "habits")) eDictK prNil))))))
    (sSeq (sFor (iOf (eSl (eVar 0) oNone (oSome (eC (.int 52))))) (tgN 2) b__law_jug_1)
    (sRet (eVar 1))))
noncomputable def F__law_jug : Fn := runF ["script", "jug", "cell", "size"] 1 b__law_jug
noncomputable def b__law_dip : SFn := (sSeq (sIf (eTst (eBin gLtA (eVar 2) (eC (.int 2)))) (sRet (eC (.int 0))) sSkip)
    (sSeq (sSub (eVar 0) (eC (.str "turns")) (eBin gAdd (eBin gIx (eVar 0) (eC (.str "turns"))) (eC (.int 1))))
    (sSeq (sIf (eTst (eBin gGe (eBin gIx (eVar 0) (eC (.str "digits"))) (eVar 2))) (sSeq (sSet 3 (eBin gMod (eArgs (on1 gInt) (aCons (eBin gIx (eVar 0) (eC (.str "digits"))) aNil)) (eVar 2)))
    (sSeq (sSub (eVar 0) (eC (.str "digits")) (eBin gFdiv (eBin gIx (eVar 0) (eC (.str "digits"))) (eVar 2)))
    (sRet (eVar 3)))) sSkip)
    (sSeq (sSub (eVar 0) (eC (.str "stir")) (eBin gMod (eArgs (on1 gInt) (aCons (eBin gAdd (eBin gAdd (eBin gMul (eBin gIx (eVar 0) (eC (.str "stir"))) (eC (.int 2862933555777941757))) (eBin gMul (eBin gIx (eVar 0) (eC (.str "turns"))) (eC (.int 43)))) (eC (.int 3))) aNil)) (eC (.int 2305843009213693907))))
    (sSeq (sIf (eTst (eBin (gIn true) (eVar 1) (eBin gIx (eVar 0) (eC (.str "habits"))))) (sSub (eBin gIx (eVar 0) (eC (.str "habits"))) (eVar 1) (eArgs mkTup (aCons (eBin gMod (eArgs (on1 gInt) (aCons (eBin gShr (eBin gIx (eVar 0) (eC (.str "stir"))) (eC (.int 12))) aNil)) (eC (.int 17))) (aCons (eArgs (on1 gInt) (aCons (eBin gShr (eBin gIx (eVar 0) (eC (.str "stir"))) (eC (.int 31))) aNil)) aNil)))) sSkip)
    (sSeq (sAsg (tgTup (tgCons (tgN 4) (tgCons (tgN 5) tgNil))) (eBin gIx (eBin gIx (eVar 0) (eC (.str "habits"))) (eVar 1)))
    (sSeq (sIf (eTst (eBin gLtA (eVar 4) (eC (.int 3)))) (sRet (eBin gIx (eArgs mkTup (aCons (eC (.int 0)) (aCons (eBin gSub (eVar 2) (eC (.int 1))) (aCons (eBin gMod (eArgs (on1 gInt) (aCons (eVar 5) aNil)) (eVar 2)) aNil)))) (eVar 4))) sSkip)
    (sRet (eBin gMod (eArgs (on1 gInt) (aCons (eBin gShr (eBin gIx (eVar 0) (eC (.str "stir"))) (eC (.int 17))) aNil)) (eVar 2))))))))))
noncomputable def F__law_dip : Fn := runF ["jug", "place", "many", "told", "habit", "fixed"] 3 b__law_dip
noncomputable def b__law_of : SFn := (sRet (eBin gIx (eVar 2) (eArgs F__law_dip (aCons (eVar 0) (aCons (eVar 1) (aCons (eArgs (on1 gLen1) (aCons (eVar 2) aNil)) aNil))))))
noncomputable def F__law_of : Fn := runF ["jug", "place", "things"] 3 b__law_of
noncomputable def b__law_equal_1 : EFn := (eArgs mkTup (aCons (eBin gIx (eVar 4) (eVar 6)) (aCons (eBin gIx (eVar 5) (eVar 6)) aNil)))
noncomputable def b__law_equal_2 : SFn := (sSeq (sIf (eTst (eBin gEq (eArgs (on1 gLen1) (aCons (eVar 2) aNil)) (eC (.int 0)))) (sRet (eC (.bl true))) sSkip)
    (sSeq (sAsg (tgTup (tgCons (tgN 4) (tgCons (tgN 5) tgNil))) (eMeth gPop (eVar 2) aNil))
    (sIf (eTst (eBin gIs (eVar 5) (eC .non))) (sIf (eTst (eBin gIsNot (eVar 4) (eC .non))) (sRet (eC (.bl false))) sSkip) (sIf (eTst (eUn (gIsi .bl) (eVar 5))) (sIf (tOrF (tNotF (eTst (eUn (gIsi .bl) (eVar 4)))) (eTst (eBin gNe (eVar 4) (eVar 5)))) (sRet (eC (.bl false))) sSkip) (sIf (eTst (eUn (gIsi .tup) (eVar 5))) (sSeq (sIf (tOrF (tNotF (eTst (eUn (gIsi .tup) (eVar 4)))) (eTst (eBin gNe (eArgs (on1 gLen1) (aCons (eVar 4) aNil)) (eArgs (on1 gLen1) (aCons (eVar 5) aNil))))) (sRet (eC (.bl false))) sSkip)
    (sExpr (eGc (eMeth gExt (eVar 2) (aCons (eLc (iRng1 (eArgs (on1 gLen1) (aCons (eVar 5) aNil))) (tgN 6) fYes b__law_equal_1 [6]) aNil))))) (sIf (eTst (eUn (gIsi .str) (eVar 5))) (sIf (tOrF (tNotF (eTst (eUn (gIsi .str) (eVar 4)))) (eTst (eBin gNe (eVar 4) (eVar 5)))) (sRet (eC (.bl false))) sSkip) (sIf (tOrF (tNotF (eTst (eUn (gIsi .int) (eVar 4)))) (tOrF (eTst (eUn (gIsi .bl) (eVar 4))) (eTst (eBin gNe (eVar 4) (eVar 5))))) (sRet (eC (.bl false))) sSkip)))))))
noncomputable def b__law_equal : SFn := (sSeq (sSet 2 (eArgs mkLst (aCons (eArgs mkTup (aCons (eVar 0) (aCons (eVar 1) aNil))) aNil)))
    (sSeq (sFor (iRng1 (eC (.int 60000))) (tgN 3) b__law_equal_2)
    (sRet (eC (.bl false)))))
noncomputable def F__law_equal : Fn := runF ["told", "due", "rest", "lap", "one", "other", "at"] 2 b__law_equal
noncomputable def b__law_due_1 : SFn := (sSeq (sIf (eTst (eBin gEq (eBin gIx (eVar 0) (eBin gAdd (eVar 4) (eVar 10))) (eC (.str "\n")))) sBrk sSkip)
    (sSet 9 (eBin gAdd (eVar 10) (eC (.int 1)))))
noncomputable def b__law_due_2 : SFn := (sSeq (sIf (tOrF (eTst (eBin gEq (eVar 11) (eC (.str "")))) (eTst (eBin (gIn true) (eBin gIx (eVar 0) (eBin gAdd (eVar 4) (eVar 10))) (eVar 11)))) sBrk sSkip)
    (sSet 9 (eBin gAdd (eVar 10) (eC (.int 1)))))
noncomputable def b__law_due_3 : SFn := (sSeq (sIf (eTst (eBin gGe (eVar 4) (eArgs (on1 gLen1) (aCons (eVar 0) aNil)))) sBrk sSkip)
    (sSeq (sPar 8 9 (aCons (eBin gIx (eVar 0) (eVar 4)) (aCons (eC (.int 1)) aNil)))
    (sSeq (sIf (eTst (eBin gEq (eVar 8) (eC (.str "\n")))) (sSeq (sPar3 2 3 4 (aCons (eBin gAdd (eVar 2) (eC (.int 1))) (aCons (eC (.int 1)) (aCons (eBin gAdd (eVar 4) (eC (.int 1))) aNil))))
    sCont) sSkip)
    (sSeq (sIf (eTst (eBin gEq (eVar 8) (eC (.str "#")))) (sSeq (sFor (iRng1 (eBin gSub (eArgs (on1 gLen1) (aCons (eVar 0) aNil)) (eVar 4))) (tgN 10) b__law_due_1)
    (sSeq (sPar 4 3 (aCons (eBin gAdd (eVar 4) (eVar 9)) (aCons (eBin gAdd (eVar 3) (eVar 9)) aNil)))
    sCont)) sSkip)
    (sSeq (sSet 11 (eIf (tOrF (eTst (eBin (gIn false) (eVar 8) (eVar 6))) (eTst (eBin gEq (eVar 8) (eC (.str "-"))))) (eVar 6) (eIf (eTst (eBin (gIn false) (eVar 8) (eVar 5))) (eVar 5) (eC (.str "")))))
    (sSeq (sFor (iRng2 (eC (.int 1)) (eBin gSub (eArgs (on1 gLen1) (aCons (eVar 0) aNil)) (eVar 4))) (tgN 10) b__law_due_2)
    (sSeq (sSet 12 (eSl (eVar 0) (oSome (eVar 4)) (oSome (eBin gAdd (eVar 4) (eVar 9)))))
    (sSeq (sIf (tOrF (tAndF (eTst (eBin gEq (eVar 8) (eC (.str "-")))) (eTst (eBin gEq (eVar 9) (eC (.int 1))))) (eTst (eBin (gIn true) (eVar 8) (eBin gAdd (eBin gAdd (eVar 5) (eVar 6)) (eC (.str "-*(){}:;,.=! ")))))) (sRet (eArgs mkTup (aCons (eC (.str "bad")) (aCons (eVar 2) (aCons (eVar 3) (aCons (eC (.str "sign")) aNil)))))) sSkip)
    (sSeq (sIf (tOrF (tAndF (eTst (eBin (gIn false) (eVar 8) (eVar 5))) (eTst (eBin gGt (eVar 9) (eC (.int 8))))) (tAndF (eTst (eBin gEq (eVar 11) (eVar 6))) (eTst (eBin gGt (eVar 9) (eC (.int 14)))))) (sRet (eArgs mkTup (aCons (eC (.str "bad")) (aCons (eVar 2) (aCons (eVar 3) (aCons (eC (.str "long")) aNil)))))) sSkip)
    (sSeq (sIf (tAndF (eTst (eBin gEq (eVar 11) (eVar 6))) (tOrF (tAndF (eTst (eBin gEq (eBin gIx (eVar 12) (eC (.int 0))) (eC (.str "0")))) (eTst (eBin gGt (eVar 9) (eC (.int 1))))) (eTst (eBin gEq (eSl (eVar 12) oNone (oSome (eC (.int 2)))) (eC (.str "-0")))))) (sRet (eArgs mkTup (aCons (eC (.str "bad")) (aCons (eVar 2) (aCons (eVar 3) (aCons (eC (.str "number")) aNil)))))) sSkip)
    (sSeq (sIf (eTst (eBin gNe (eVar 8) (eC (.str " ")))) (sExpr (eMeth gApp (eVar 1) (aCons (eIf (eTst (eBin (gIn false) (eVar 8) (eVar 5))) (eArgs mkTup (aCons (eC (.str "word")) (aCons (eVar 12) (aCons (eVar 2) (aCons (eVar 3) aNil))))) (eIf (eTst (eBin gEq (eVar 11) (eVar 6))) (eArgs mkTup (aCons (eC (.str "number")) (aCons (eArgs (on1 gInt) (aCons (eVar 12) aNil)) (aCons (eVar 2) (aCons (eVar 3) aNil))))) (eArgs mkTup (aCons (eC (.str "sign")) (aCons (eVar 8) (aCons (eVar 2) (aCons (eVar 3) aNil))))))) aNil))) sSkip)
    (sPar 4 3 (aCons (eBin gAdd (eVar 4) (eVar 9)) (aCons (eBin gAdd (eVar 3) (eVar 9)) aNil))))))))))))))
noncomputable def b__law_due : SFn := (sSeq (sAsg (tgTup (tgCons (tgN 1) (tgCons (tgN 2) (tgCons (tgN 3) (tgCons (tgN 4) tgNil))))) (eArgs mkTup (aCons (eArgs mkLst aNil) (aCons (eC (.int 1)) (aCons (eC (.int 1)) (aCons (eC (.int 0)) aNil))))))
    (sSeq (sAsg (tgTup (tgCons (tgN 5) (tgCons (tgN 6) tgNil))) (eArgs mkTup (aCons (eC (.str "abcdefghijklmnopqrstuvwxyz")) (aCons (eC (.str "0123456789")) aNil))))
    (sSeq (sFor (iRng1 (eBin gAdd (eArgs (on1 gLen1) (aCons (eVar 0) aNil)) (eC (.int 1)))) (tgN 7) b__law_due_3)
    (sRet (eArgs mkTup (aCons (eC (.str "told")) (aCons (eArgs (on1 gTuple) (aCons (eVar 1) aNil)) aNil)))))))
noncomputable def F__law_due : Fn := runF ["text", "told", "line", "place", "at", "letters", "figures", "lap", "sign", "size", "more", "many", "piece"] 1 b__law_due
noncomputable def b__law_heard_1 : SFn := (sRet (eArgs mkTup (aCons (eC (.str "told")) (aCons (eArgs F_tokens_of (aCons (eVar 0) aNil)) aNil))))
noncomputable def b__law_heard : SFn := (sTry b__law_heard_1 (hAs 1 tab_BadSource (fun z a b => (sSeq (sIf (tOrF (eTst (eUn (gIsX tab_BadText z a b) (eVar 1))) (eTst (eUn (gIsX tab_BadPaper z a b) (eVar 1)))) (sRet (eArgs mkTup (aCons (eC (.str "other")) aNil))) sSkip)
    (sRet (eArgs mkTup (aCons (eC (.str "bad")) (aCons (eUn (gXf fl_line_of z a b "line") (eVar 1)) (aCons (eUn (gXf fl_place_of z a b "place") (eVar 1)) (aCons (eUn (gXf fl_word_of z a b "word") (eVar 1)) aNil)))))))) (hOnly tab_RoundsError (sRet (eArgs mkTup (aCons (eC (.str "other")) aNil))) hNil)))
noncomputable def F__law_heard : Fn := runF ["text", "error"] 1 b__law_heard
noncomputable def b__law_asked : SFn := (sRet (eArgs F__law_equal (aCons (eArgs F__law_heard (aCons (eVar 0) aNil)) (aCons (eArgs F__law_due (aCons (eVar 0) aNil)) aNil))))
noncomputable def F__law_asked : Fn := runF ["text"] 1 b__law_asked
noncomputable def b__law_piece : SFn := (sSeq (sSet 1 (eArgs F__law_dip (aCons (eVar 0) (aCons (eC (.int 1)) (aCons (eC (.int 3)) aNil)))))
    (sSeq (sIf (eTst (eBin gEq (eVar 1) (eC (.int 0)))) (sRet (eArgs F__law_of (aCons (eVar 0) (aCons (eC (.int 2)) (aCons (eArgs mkTup (aCons (eC (.str "page")) (aCons (eC (.str "a")) (aCons (eC (.str "abcdefgh")) (aCons (eC (.str "again")) (aCons (eC (.str "x")) (aCons (eC (.str "tables")) (aCons (eC (.str "zzzzzzzz")) aNil)))))))) aNil))))) sSkip)
    (sSeq (sIf (eTst (eBin gEq (eVar 1) (eC (.int 1)))) (sRet (eArgs F__law_of (aCons (eVar 0) (aCons (eC (.int 3)) (aCons (eArgs mkTup (aCons (eC (.str "0")) (aCons (eC (.str "7")) (aCons (eC (.str "-3")) (aCons (eC (.str "12345678901234")) (aCons (eC (.str "-1234567890123")) (aCons (eC (.str "10")) (aCons (eC (.str "-9")) aNil)))))))) aNil))))) sSkip)
    (sRet (eArgs F__law_of (aCons (eVar 0) (aCons (eC (.int 4)) (aCons (eC (.str "*(){}:;,.=!")) aNil))))))))
noncomputable def F__law_piece : Fn := runF ["jug", "kind"] 1 b__law_piece
noncomputable def b__law_wrong : SFn := (sRet (eArgs F__law_of (aCons (eVar 0) (aCons (eC (.int 5)) (aCons (eArgs mkTup (aCons (eC (.str "abcdefghi")) (aCons (eC (.str "123456789012345")) (aCons (eC (.str "-12345678901234")) (aCons (eC (.str "01")) (aCons (eC (.str "-0")) (aCons (eC (.str "-")) (aCons (eC (.str "A")) (aCons (eC (.str "00")) (aCons (eC (.str "-01")) (aCons (eC (.str "$")) (aCons (eC (.str "--5")) (aCons (eC (.str "\"")) (aCons (eBin gMulS (eC (.str "a")) (eC (.int 40))) (aCons (eC (.str "000000000000000")) (aCons (eC (.str "-00000000000000")) (aCons (eC (.str "?")) (aCons (eC (.str "- 4")) (aCons (eC (.str "_")) (aCons (eC (.str "+3")) (aCons (eC (.str "[")) (aCons (eC (.str "'")) (aCons (eC (.str "/")) aNil))))))))))))))))))))))) aNil)))))
noncomputable def F__law_wrong : Fn := runF ["jug"] 1 b__law_wrong
noncomputable def b__law_text_1 : SFn := (sSeq (sAsg (tgTup (tgCons (tgN 5) (tgCons (tgN 6) tgNil))) (eArgs mkTup (aCons (eC (.str "abcdefghijklmnopqrstuvwxyz")) (aCons (eC (.str "0123456789")) aNil))))
    (sSeq (sSet 7 (eAnd (eBin gNe (eVar 3) (eC (.str ""))) (eOr (eAnd (eBin (gIn false) (eBin gIx (eVar 3) (eUn gNeg (eC (.int 1)))) (eVar 5)) (eBin (gIn false) (eBin gIx (eVar 4) (eC (.int 0))) (eVar 5))) (eAnd (eBin (gIn false) (eBin gIx (eVar 3) (eUn gNeg (eC (.int 1)))) (eVar 6)) (eBin (gIn false) (eBin gIx (eVar 4) (eC (.int 0))) (eVar 6))))))
    (sSeq (sSet 2 (eBin gAdd (eBin gAdd (eVar 2) (eIf (eTru (eVar 7)) (eArgs F__law_of (aCons (eVar 0) (aCons (eC (.int 6)) (aCons (eArgs mkTup (aCons (eC (.str " ")) (aCons (eC (.str "\n")) (aCons (eC (.str "   ")) (aCons (eC (.str "#\n")) (aCons (eC (.str " # A -0 \n")) aNil)))))) aNil)))) (eArgs F__law_of (aCons (eVar 0) (aCons (eC (.int 7)) (aCons (eArgs mkTup (aCons (eC (.str "")) (aCons (eC (.str "")) (aCons (eC (.str " ")) (aCons (eC (.str "\n")) (aCons (eC (.str "\n\n  ")) (aCons (eC (.str "#x$\n")) aNil))))))) aNil)))))) (eVar 4)))
    (sSet 3 (eVar 4)))))
noncomputable def b__law_text : SFn := (sSeq (sAsg (tgTup (tgCons (tgN 2) (tgCons (tgN 3) tgNil))) (eArgs mkTup (aCons (eC (.str "")) (aCons (eC (.str "")) aNil))))
    (sSeq (sFor (iOf (eVar 1)) (tgN 4) b__law_text_1)
    (sRet (eBin gAdd (eVar 2) (eArgs F__law_of (aCons (eVar 0) (aCons (eC (.int 8)) (aCons (eArgs mkTup (aCons (eC (.str "")) (aCons (eC (.str "\n")) (aCons (eC (.str "  ")) (aCons (eC (.str "# end")) (aCons (eC (.str "#")) aNil)))))) aNil))))))))
noncomputable def F__law_text : Fn := runF ["jug", "pieces", "text", "last", "piece", "letters", "figures", "near"] 2 b__law_text
noncomputable def b__law_by_hand_1 : TFn := (tOrF (tNotF (eTst (eArgs F__law_equal (aCons (eArgs F__law_heard (aCons (eVar 1) aNil)) (aCons (eVar 2) aNil))))) (tNotF (eTst (eArgs F__law_equal (aCons (eArgs F__law_due (aCons (eVar 1) aNil)) (aCons (eVar 2) aNil))))))
noncomputable def b__law_by_hand : SFn := (sSeq (sSet 0 (eArgs mkLst (aCons (eArgs mkTup (aCons (eC (.str "")) (aCons (eArgs mkTup (aCons (eC (.str "told")) (aCons (eArgs mkTup aNil) aNil))) aNil))) (aCons (eArgs mkTup (aCons (eC (.str "\n\n #$ \n")) (aCons (eArgs mkTup (aCons (eC (.str "told")) (aCons (eArgs mkTup aNil) aNil))) aNil))) (aCons (eArgs mkTup (aCons (eC (.str "a1b")) (aCons (eArgs mkTup (aCons (eC (.str "told")) (aCons (eArgs mkTup (aCons (eArgs mkTup (aCons (eC (.str "word")) (aCons (eC (.str "a")) (aCons (eC (.int 1)) (aCons (eC (.int 1)) aNil))))) (aCons (eArgs mkTup (aCons (eC (.str "number")) (aCons (eC (.int 1)) (aCons (eC (.int 1)) (aCons (eC (.int 2)) aNil))))) (aCons (eArgs mkTup (aCons (eC (.str "word")) (aCons (eC (.str "b")) (aCons (eC (.int 1)) (aCons (eC (.int 3)) aNil))))) aNil)))) aNil))) aNil))) (aCons (eArgs mkTup (aCons (eC (.str "1-2")) (aCons (eArgs mkTup (aCons (eC (.str "told")) (aCons (eArgs mkTup (aCons (eArgs mkTup (aCons (eC (.str "number")) (aCons (eC (.int 1)) (aCons (eC (.int 1)) (aCons (eC (.int 1)) aNil))))) (aCons (eArgs mkTup (aCons (eC (.str "number")) (aCons (eUn gNeg (eC (.int 2))) (aCons (eC (.int 1)) (aCons (eC (.int 2)) aNil))))) aNil))) aNil))) aNil))) (aCons (eArgs mkTup (aCons (eC (.str "a-")) (aCons (eArgs mkTup (aCons (eC (.str "bad")) (aCons (eC (.int 1)) (aCons (eC (.int 2)) (aCons (eC (.str "sign")) aNil))))) aNil))) (aCons (eArgs mkTup (aCons (eC (.str "x\n  012")) (aCons (eArgs mkTup (aCons (eC (.str "bad")) (aCons (eC (.int 2)) (aCons (eC (.int 3)) (aCons (eC (.str "number")) aNil))))) aNil))) (aCons (eArgs mkTup (aCons (eC (.str "-0")) (aCons (eArgs mkTup (aCons (eC (.str "bad")) (aCons (eC (.int 1)) (aCons (eC (.int 1)) (aCons (eC (.str "number")) aNil))))) aNil))) (aCons (eArgs mkTup (aCons (eC (.str "0 -0")) (aCons (eArgs mkTup (aCons (eC (.str "bad")) (aCons (eC (.int 1)) (aCons (eC (.int 3)) (aCons (eC (.str "number")) aNil))))) aNil))) (aCons (eArgs mkTup (aCons (eC (.str "0000000000000000")) (aCons (eArgs mkTup (aCons (eC (.str "bad")) (aCons (eC (.int 1)) (aCons (eC (.int 1)) (aCons (eC (.str "long")) aNil))))) aNil))) (aCons (eArgs mkTup (aCons (eC (.str "abcdefghi 1 A")) (aCons (eArgs mkTup (aCons (eC (.str "bad")) (aCons (eC (.int 1)) (aCons (eC (.int 1)) (aCons (eC (.str "long")) aNil))))) aNil))) (aCons (eArgs mkTup (aCons (eC (.str "a A abcdefghi")) (aCons (eArgs mkTup (aCons (eC (.str "bad")) (aCons (eC (.int 1)) (aCons (eC (.int 3)) (aCons (eC (.str "sign")) aNil))))) aNil))) (aCons (eArgs mkTup (aCons (eC (.str "page(d) # x\n -3")) (aCons (eArgs mkTup (aCons (eC (.str "told")) (aCons (eArgs mkTup (aCons (eArgs mkTup (aCons (eC (.str "word")) (aCons (eC (.str "page")) (aCons (eC (.int 1)) (aCons (eC (.int 1)) aNil))))) (aCons (eArgs mkTup (aCons (eC (.str "sign")) (aCons (eC (.str "(")) (aCons (eC (.int 1)) (aCons (eC (.int 5)) aNil))))) (aCons (eArgs mkTup (aCons (eC (.str "word")) (aCons (eC (.str "d")) (aCons (eC (.int 1)) (aCons (eC (.int 6)) aNil))))) (aCons (eArgs mkTup (aCons (eC (.str "sign")) (aCons (eC (.str ")")) (aCons (eC (.int 1)) (aCons (eC (.int 7)) aNil))))) (aCons (eArgs mkTup (aCons (eC (.str "number")) (aCons (eUn gNeg (eC (.int 3))) (aCons (eC (.int 2)) (aCons (eC (.int 2)) aNil))))) aNil)))))) aNil))) aNil))) (aCons (eArgs mkTup (aCons (eC (.str "12345678901234")) (aCons (eArgs mkTup (aCons (eC (.str "told")) (aCons (eArgs mkTup (aCons (eArgs mkTup (aCons (eC (.str "number")) (aCons (eC (.int 12345678901234)) (aCons (eC (.int 1)) (aCons (eC (.int 1)) aNil))))) aNil)) aNil))) aNil))) (aCons (eArgs mkTup (aCons (eC (.str "-1234567890123")) (aCons (eArgs mkTup (aCons (eC (.str "told")) (aCons (eArgs mkTup (aCons (eArgs mkTup (aCons (eC (.str "number")) (aCons (eUn gNeg (eC (.int 1234567890123))) (aCons (eC (.int 1)) (aCons (eC (.int 1)) aNil))))) aNil)) aNil))) aNil))) (aCons (eArgs mkTup (aCons (eC (.str "-12345678901234")) (aCons (eArgs mkTup (aCons (eC (.str "bad")) (aCons (eC (.int 1)) (aCons (eC (.int 1)) (aCons (eC (.str "long")) aNil))))) aNil))) (aCons (eArgs mkTup (aCons (eC (.str "r.x=-1!")) (aCons (eArgs mkTup (aCons (eC (.str "told")) (aCons (eArgs mkTup (aCons (eArgs mkTup (aCons (eC (.str "word")) (aCons (eC (.str "r")) (aCons (eC (.int 1)) (aCons (eC (.int 1)) aNil))))) (aCons (eArgs mkTup (aCons (eC (.str "sign")) (aCons (eC (.str ".")) (aCons (eC (.int 1)) (aCons (eC (.int 2)) aNil))))) (aCons (eArgs mkTup (aCons (eC (.str "word")) (aCons (eC (.str "x")) (aCons (eC (.int 1)) (aCons (eC (.int 3)) aNil))))) (aCons (eArgs mkTup (aCons (eC (.str "sign")) (aCons (eC (.str "=")) (aCons (eC (.int 1)) (aCons (eC (.int 4)) aNil))))) (aCons (eArgs mkTup (aCons (eC (.str "number")) (aCons (eUn gNeg (eC (.int 1))) (aCons (eC (.int 1)) (aCons (eC (.int 5)) aNil))))) (aCons (eArgs mkTup (aCons (eC (.str "sign")) (aCons (eC (.str "!")) (aCons (eC (.int 1)) (aCons (eC (.int 7)) aNil))))) aNil))))))) aNil))) aNil))) aNil))))))))))))))))))
    (sRet (eBin gEq (eGc (eArgs (on1 gLen1) (aCons (eLc (iOf (eVar 0)) (tgTup (tgCons (tgN 1) (tgCons (tgN 2) tgNil))) b__law_by_hand_1 (eC (.int 1)) [1, 2]) aNil))) (eC (.int 0)))))
noncomputable def F__law_by_hand : Fn := runF ["rows", "text", "due"] 0 b__law_by_hand
noncomputable def b_law_1 : EFn := (eArgs F__law_piece (aCons (eVar 1) aNil))
noncomputable def b_law_2 : SFn := (sSeq (sSet 6 (eArgs F__law_dip (aCons (eVar 1) (aCons (eC (.int 10)) (aCons (eBin gAdd (eArgs (on1 gLen1) (aCons (eVar 3) aNil)) (eC (.int 1))) aNil)))))
    (sSeq (sSet 7 (eBin gAdd (eBin gAdd (eSl (eVar 3) oNone (oSome (eVar 6))) (eArgs mkLst (aCons (eArgs F__law_wrong (aCons (eVar 1) aNil)) aNil))) (eSl (eVar 3) (oSome (eVar 6)) oNone)))
    (sSeq (sIf (eTst (eBin gGt (eVar 5) (eC (.int 1)))) (sSet 7 (eBin gAdd (eVar 7) (eArgs mkLst (aCons (eArgs F__law_wrong (aCons (eVar 1) aNil)) aNil)))) sSkip)
    (sIf (tNotF (eTst (eArgs F__law_asked (aCons (eArgs F__law_text (aCons (eVar 1) (aCons (eVar 7) aNil))) aNil)))) (sRet (eC (.bl false))) sSkip))))
noncomputable def b_law_3 : SFn := (sSeq (sSet 3 (eLc (iRng1 (eArgs F__law_dip (aCons (eVar 1) (aCons (eC (.int 9)) (aCons (eC (.int 24)) aNil))))) (tgN 4) fYes b_law_1 [4]))
    (sSeq (sIf (tNotF (eTst (eArgs F__law_asked (aCons (eArgs F__law_text (aCons (eVar 1) (aCons (eVar 3) aNil))) aNil)))) (sRet (eC (.bl false))) sSkip)
    (sFor (iRng1 (eC (.int 4))) (tgN 5) b_law_2)))
noncomputable def b_law_4 : EFn := (eArgs F__law_piece (aCons (eVar 1) aNil))
noncomputable def b_law : SFn := (sSeq (sSet 1 (eArgs F__law_jug (aCons (eVar 0) aNil)))
    (sSeq (sIf (tNotF (eTst (fun _ m => noExc (F__law_by_hand [] m)))) (sRet (eC (.bl false))) sSkip)
    (sSeq (sFor (iRng1 (eC (.int 4))) (tgN 2) b_law_3)
    (sSeq (sIf (eTst (eBin gNe (eArgs F__law_dip (aCons (eVar 1) (aCons (eC (.int 11)) (aCons (eC (.int 13)) aNil)))) (eC (.int 5)))) (sRet (eC (.bl true))) sSkip)
    (sSeq (sSet 3 (eLc (iRng1 (eC (.int 20))) (tgN 4) fYes b_law_4 [4]))
    (sSeq (sSet 8 (eBin gAdd (eArgs F__law_text (aCons (eVar 1) (aCons (eVar 3) aNil))) (eC (.str "\n"))))
    (sSeq (sSet 8 (eBin gMulS (eVar 8) (eArgs (gMax2) (aCons (eC (.int 1)) (aCons (eBin gFdiv (eC (.int 9000)) (eArgs (on1 gLen1) (aCons (eVar 8) aNil))) aNil)))))
    (sRet (eAnd (eArgs F__law_asked (aCons (eVar 8) aNil)) (eAnd (eArgs F__law_asked (aCons (eBin gAdd (eVar 8) (eArgs F__law_wrong (aCons (eVar 1) aNil))) aNil)) (eArgs F__law_equal (aCons (eArgs (onN 1 [0] F_tokens_of) (aCons (eC (.str "x=")) aNil)) (aCons (eArgs mkTup (aCons (eArgs mkTup (aCons (eC (.str "word")) (aCons (eC (.str "x")) (aCons (eC (.int 1)) (aCons (eC (.int 1)) aNil))))) (aCons (eArgs mkTup (aCons (eC (.str "sign")) (aCons (eC (.str "=")) (aCons (eC (.int 1)) (aCons (eC (.int 2)) aNil))))) aNil))) aNil)))))))))))))
noncomputable def F_law : Fn := runF ["script", "jug", "lap", "pieces", "piece", "turn", "at", "wrong", "text"] 1 b_law
end DL
set_option Elab.async false
set_option linter.all false
set_option maxRecDepth 100000
set_option maxHeartbeats 4000000
namespace DL
open PySem L2
def top (i : Nat) : Stmt := PySem.Challenge.pw_nofewerrounds_k02_tokens.main.body.getD i (.Pass ⟨0, 0, 0, 0⟩)
abbrev s_run_end : Stmt := top 11
abbrev s_number_token : Stmt := top 12
abbrev s_word_token : Stmt := top 13
abbrev s_token_from : Stmt := top 14
abbrev s_tokens_of : Stmt := top 15
abbrev s__law_jug : Stmt := top 17
abbrev s__law_dip : Stmt := top 18
abbrev s__law_of : Stmt := top 19
abbrev s__law_equal : Stmt := top 20
abbrev s__law_due : Stmt := top 21
abbrev s__law_heard : Stmt := top 22
abbrev s__law_asked : Stmt := top 23
abbrev s__law_piece : Stmt := top 24
abbrev s__law_wrong : Stmt := top 25
abbrev s__law_text : Stmt := top 26
abbrev s__law_by_hand : Stmt := top 27
abbrev s_law : Stmt := top 28
abbrev i_BadSource : Stmt := clsDef (top 2)
structure Tops (K : Fg) (mg : Str → Option Value) : Prop where
  d_run_end : Df K mg "run_end" s_run_end
  d_number_token : Df K mg "number_token" s_number_token
  d_word_token : Df K mg "word_token" s_word_token
  d_token_from : Df K mg "token_from" s_token_from
  d_tokens_of : Df K mg "tokens_of" s_tokens_of
  d__law_jug : Df K mg "_law_jug" s__law_jug
  d__law_dip : Df K mg "_law_dip" s__law_dip
  d__law_of : Df K mg "_law_of" s__law_of
  d__law_equal : Df K mg "_law_equal" s__law_equal
  d__law_due : Df K mg "_law_due" s__law_due
  d__law_heard : Df K mg "_law_heard" s__law_heard
  d__law_asked : Df K mg "_law_asked" s__law_asked
  d__law_piece : Df K mg "_law_piece" s__law_piece
  d__law_wrong : Df K mg "_law_wrong" s__law_wrong
  d__law_text : Df K mg "_law_text" s__law_text
  d__law_by_hand : Df K mg "_law_by_hand" s__law_by_hand
  d_law : Df K mg "law" s_law
  z_abs : mg "abs" = none
  z_bool : mg "bool" = none
  z_enumerate : mg "enumerate" = none
  z_int : mg "int" = none
  z_isinstance : mg "isinstance" = none
  z_len : mg "len" = none
  z_max : mg "max" = none
  z_range : mg "range" = none
  z_str : mg "str" = none
  z_tuple : mg "tuple" = none
  g_FIGURES : ∃ t, mg "FIGURES" = some (.str "0123456789" t)
  g_LONGEST_NUMBER : ∃ t, mg "LONGEST_NUMBER" = some (.int (14) t)
  g_LONGEST_WORD : ∃ t, mg "LONGEST_WORD" = some (.int (8) t)
  g_SIGNS : ∃ t, mg "SIGNS" = some (.str "*(){}:;,.=!" t)
  g_SMALL : ∃ t, mg "SMALL" = some (.str "abcdefghijklmnopqrstuvwxyz" t)
  xr_BadSource : ∃ C fI fd, XC K mg "BadSource" C ∧ XR K C ["line", "place", "word"] ∧ PySem.W.findIn K (.ref C) "__init__" = some (some (.ref fI)) ∧ PySem.W.typeIn K (.ref fI) = some (.type "function") ∧ Fun K "__init__" "BadSource.__init__" i_BadSource fI fd
  tb_RoundsError : Tab K mg "RoundsError" tab_RoundsError
  tb_BadSource : Tab K mg "BadSource" tab_BadSource
  tb_BadPaper : Tab K mg "BadPaper" tab_BadPaper
  tb_BadText : Tab K mg "BadText" tab_BadText
section
variable {P : Program} {w : World} {K : Fg} {mg : Str → Option Value} {base : Heap}
theorem sc_i_BadSource : FnScope ["self", "line", "place", "word"] ["self", "line", "place", "word"] (defScope i_BadSource) := ⟨rfl, rfl, rfl, by decide +kernel, rfl, by decide +kernel, by decide +kernel⟩
theorem mk_BadSource (T : Tops K mg) : Mk P w K mg base "BadSource" ["line", "place", "word"] := by
  obtain ⟨C, fI, fd, xc, xr, hi, ti, F⟩ := T.xr_BadSource
  exact mk_init xc xr hi ti F sc_i_BadSource (fun _ _ _ _ _ _ us hl => match us, hl with | [_, _, _, _], _ => rfl) fun cdv A outer s H E =>
    (pss_cons (ps_ost (pv 0) (pv 1)) (pss_cons (ps_ost (pv 0) (pv 2)) (pss_cons (ps_ost (pv 0) (pv 3)) pss_nil)))
theorem fl_line (T : Tops K mg) : FldOk K mg "line" fl_line_of := fun z hz => by
  rcases List.mem_cons.mp hz with rfl | hz
  · obtain ⟨C, _, _, xc, xr, _⟩ := T.xr_BadSource
    exact ⟨C, xc.g, ⟨xr.ga, xr.gg, xc.sb, xc.hd⟩, xr.no _ (by simp)⟩
  cases hz
theorem fl_place (T : Tops K mg) : FldOk K mg "place" fl_place_of := fun z hz => by
  rcases List.mem_cons.mp hz with rfl | hz
  · obtain ⟨C, _, _, xc, xr, _⟩ := T.xr_BadSource
    exact ⟨C, xc.g, ⟨xr.ga, xr.gg, xc.sb, xc.hd⟩, xr.no _ (by simp)⟩
  cases hz
theorem fl_word (T : Tops K mg) : FldOk K mg "word" fl_word_of := fun z hz => by
  rcases List.mem_cons.mp hz with rfl | hz
  · obtain ⟨C, _, _, xc, xr, _⟩ := T.xr_BadSource
    exact ⟨C, xc.g, ⟨xr.ga, xr.gg, xc.sb, xc.hd⟩, xr.no _ (by simp)⟩
  cases hz
theorem io_BadPaper (T : Tops K mg) : IsOk K mg tab_BadPaper := fun z r hz => by
  rcases List.mem_cons.mp hz with e | hz
  · cases e; obtain ⟨C, _, _, xc, xr, _⟩ := T.xr_BadSource
    exact ⟨C, _, xc, xr⟩
  cases hz
theorem io_BadText (T : Tops K mg) : IsOk K mg tab_BadText := fun z r hz => by
  rcases List.mem_cons.mp hz with e | hz
  · cases e; obtain ⟨C, _, _, xc, xr, _⟩ := T.xr_BadSource
    exact ⟨C, _, xc, xr⟩
  cases hz
theorem sc_run_end : FnScope ["line", "start", "signs", "end"] ["line", "start", "signs"] (defScope s_run_end) := ⟨rfl, rfl, rfl, by decide +kernel, rfl, by decide +kernel, by decide +kernel⟩
theorem cl_run_end (T : Tops K mg) : Cl P w K mg base 1 "run_end" s_run_end ["line", "start", "signs"] F_run_end := cl_mk T.d_run_end sc_run_end (fun _ _ _ _ _ _ us hl => match us, hl with | [_, _, _], _ => rfl) fun f cdv A outer s H E hr =>
    (sxs_cons (sx_set 3 sc_run_end.nd (ex_v 1))
    (sxs_cons (sx_while (passes_of rfl) (wx_t (wx_and (tx_cmp (cLtA hr) (ex_v 3) (ex_bn bLen rfl T.z_len (by decide +kernel) (ax_cons (ex_v 0) ax_nil))) (wx_and1 (tx_cmp (cIn hr) (ex_ix hr (ex_v 0) (ex_v 3)) (ex_v 2))))) (sxs_one (sx_iadd 3 sc_run_end.nd ex_int)))
    (sxs_one (sx_ret (ex_v 3)))))
theorem sc_number_token : FnScope ["at", "line", "start", "bare", "end"] ["at", "line", "start"] (defScope s_number_token) := ⟨rfl, rfl, rfl, by decide +kernel, rfl, by decide +kernel, by decide +kernel⟩
theorem cl_number_token (T : Tops K mg) : Cl P w K mg base 3 "number_token" s_number_token ["at", "line", "start"] F_number_token := cl_mk T.d_number_token sc_number_token (fun _ _ _ _ _ _ us hl => match us, hl with | [_, _, _], _ => rfl) fun f cdv A outer s H E hr =>
    (sxs_cons (sx_set 3 sc_number_token.nd (ex_if (tx_cmp (cEq hr) (ex_ix hr (ex_v 1) (ex_v 2)) ex_str) (ex_add (ex_v 2) ex_int) (ex_v 2)))
    (sxs_cons (sx_set 4 sc_number_token.nd (ex_call ((cl_run_end T).up (by decide)) hr rfl (takes_of rfl rfl rfl rfl) (ax_cons (ex_v 1) (ax_cons (ex_v 3) (ax_cons (ex_globT rfl T.g_FIGURES) ax_nil)))))
    (sxs_cons (sx_if (tx_cmp (cEq hr) (ex_v 4) (ex_v 3)) (sxs_one (sx_raise (mk_BadSource T) ⟨by decide, by decide⟩ rfl (hr.mono (by omega)) (takes_of rfl rfl rfl rfl) rfl (ax_cons (ex_v 0) (ax_cons (ex_add (ex_v 2) ex_int) (ax_cons ex_str ax_nil))))) sxs_nil)
    (sxs_cons (sx_if (tx_cmp cGt (ex_sub (ex_v 4) (ex_v 2)) (ex_globE rfl T.g_LONGEST_NUMBER)) (sxs_one (sx_raise (mk_BadSource T) ⟨by decide, by decide⟩ rfl (hr.mono (by omega)) (takes_of rfl rfl rfl rfl) rfl (ax_cons (ex_v 0) (ax_cons (ex_add (ex_v 2) ex_int) (ax_cons ex_str ax_nil))))) sxs_nil)
    (sxs_cons (sx_if (wx_t (wx_and (tx_cmp (cEq hr) (ex_ix hr (ex_v 1) (ex_v 3)) ex_str) (wx_and1 (tx_cmp cGt (ex_sub (ex_v 4) (ex_v 2)) ex_int)))) (sxs_one (sx_raise (mk_BadSource T) ⟨by decide, by decide⟩ rfl (hr.mono (by omega)) (takes_of rfl rfl rfl rfl) rfl (ax_cons (ex_v 0) (ax_cons (ex_add (ex_v 2) ex_int) (ax_cons ex_str ax_nil))))) sxs_nil)
    (sxs_one (sx_ret (ex_tup (ax_cons (ex_tup (ax_cons ex_str (ax_cons (ex_gc (ex_ty bInt rfl T.z_int (by decide +kernel) (ax_cons (ex_sl (ex_v 1) (ox_some (ex_v 2)) (ox_some (ex_v 4))) ax_nil))) (ax_cons (ex_v 0) (ax_cons (ex_add (ex_v 2) ex_int) ax_nil))))) (ax_cons (ex_v 4) ax_nil))))))))))
theorem sc_word_token : FnScope ["at", "line", "start", "end"] ["at", "line", "start"] (defScope s_word_token) := ⟨rfl, rfl, rfl, by decide +kernel, rfl, by decide +kernel, by decide +kernel⟩
theorem cl_word_token (T : Tops K mg) : Cl P w K mg base 3 "word_token" s_word_token ["at", "line", "start"] F_word_token := cl_mk T.d_word_token sc_word_token (fun _ _ _ _ _ _ us hl => match us, hl with | [_, _, _], _ => rfl) fun f cdv A outer s H E hr =>
    (sxs_cons (sx_set 3 sc_word_token.nd (ex_call ((cl_run_end T).up (by decide)) hr rfl (takes_of rfl rfl rfl rfl) (ax_cons (ex_v 1) (ax_cons (ex_v 2) (ax_cons (ex_globT rfl T.g_SMALL) ax_nil)))))
    (sxs_cons (sx_if (tx_cmp cGt (ex_sub (ex_v 3) (ex_v 2)) (ex_globE rfl T.g_LONGEST_WORD)) (sxs_one (sx_raise (mk_BadSource T) ⟨by decide, by decide⟩ rfl (hr.mono (by omega)) (takes_of rfl rfl rfl rfl) rfl (ax_cons (ex_v 0) (ax_cons (ex_add (ex_v 2) ex_int) (ax_cons ex_str ax_nil))))) sxs_nil)
    (sxs_one (sx_ret (ex_tup (ax_cons (ex_tup (ax_cons ex_str (ax_cons (ex_sl (ex_v 1) (ox_some (ex_v 2)) (ox_some (ex_v 3))) (ax_cons (ex_v 0) (ax_cons (ex_add (ex_v 2) ex_int) ax_nil))))) (ax_cons (ex_v 3) ax_nil)))))))
theorem sc_token_from : FnScope ["at", "line", "start", "sign"] ["at", "line", "start"] (defScope s_token_from) := ⟨rfl, rfl, rfl, by decide +kernel, rfl, by decide +kernel, by decide +kernel⟩
theorem cl_token_from (T : Tops K mg) : Cl P w K mg base 4 "token_from" s_token_from ["at", "line", "start"] F_token_from := cl_mk T.d_token_from sc_token_from (fun _ _ _ _ _ _ us hl => match us, hl with | [_, _, _], _ => rfl) fun f cdv A outer s H E hr =>
    (sxs_cons (sx_set 3 sc_token_from.nd (ex_ix hr (ex_v 1) (ex_v 2)))
    (sxs_cons (sx_if (tx_cmp (cIn hr) (ex_v 3) (ex_globT rfl T.g_SMALL)) (sxs_one (sx_ret (ex_call ((cl_word_token T).up (by decide)) hr rfl (takes_of rfl rfl rfl rfl) (ax_cons (ex_v 0) (ax_cons (ex_v 1) (ax_cons (ex_v 2) ax_nil)))))) sxs_nil)
    (sxs_cons (sx_if (wx_t (wx_or (tx_cmp (cEq hr) (ex_v 3) ex_str) (wx_or1 (tx_cmp (cIn hr) (ex_v 3) (ex_globT rfl T.g_FIGURES))))) (sxs_one (sx_ret (ex_call ((cl_number_token T).up (by decide)) hr rfl (takes_of rfl rfl rfl rfl) (ax_cons (ex_v 0) (ax_cons (ex_v 1) (ax_cons (ex_v 2) ax_nil)))))) sxs_nil)
    (sxs_cons (sx_if (tx_cmp (cIn hr) (ex_v 3) (ex_globT rfl T.g_SIGNS)) (sxs_one (sx_ret (ex_tup (ax_cons (ex_tup (ax_cons ex_str (ax_cons (ex_v 3) (ax_cons (ex_v 0) (ax_cons (ex_add (ex_v 2) ex_int) ax_nil))))) (ax_cons (ex_add (ex_v 2) ex_int) ax_nil))))) sxs_nil)
    (sxs_one (sx_raise (mk_BadSource T) ⟨by decide, by decide⟩ rfl (hr.mono (by omega)) (takes_of rfl rfl rfl rfl) rfl (ax_cons (ex_v 0) (ax_cons (ex_add (ex_v 2) ex_int) (ax_cons ex_str ax_nil)))))))))
theorem sc_tokens_of : FnScope ["text", "found", "number", "line", "place", "token"] ["text"] (defScope s_tokens_of) := ⟨rfl, rfl, rfl, by decide +kernel, rfl, by decide +kernel, by decide +kernel⟩
theorem cl_tokens_of (T : Tops K mg) : Cl P w K mg base 5 "tokens_of" s_tokens_of ["text"] F_tokens_of := cl_mk T.d_tokens_of sc_tokens_of (fun _ _ _ _ _ _ us hl => match us, hl with | [_], _ => rfl) fun f cdv A outer s H E hr =>
    (sxs_cons (sx_set 1 sc_tokens_of.nd (ex_lst ax_nil))
    (sxs_cons (sx_for (passes_of rfl) rfl (ix_enum rfl T.z_enumerate (ex_split (ex_v 0) ex_str)) (gx_tup rfl (gsx_cons (gx_n 2 sc_tokens_of.nd) (gsx_cons (gx_n 3 sc_tokens_of.nd) gsx_nil)) (tgl_cons (tgl_cons tgl_nil))) (sxs_cons (sx_set 4 sc_tokens_of.nd (ex_call ((cl_run_end T).up (by decide)) hr rfl (takes_of rfl rfl rfl rfl) (ax_cons (ex_v 3) (ax_cons ex_int (ax_cons ex_str ax_nil)))))
    (sxs_one (sx_while (passes_of rfl) (wx_t (wx_and (tx_cmp (cLtA hr) (ex_v 4) (ex_bn bLen rfl T.z_len (by decide +kernel) (ax_cons (ex_v 3) ax_nil))) (wx_and1 (tx_cmp (cNe hr) (ex_ix hr (ex_v 3) (ex_v 4)) ex_str)))) (sxs_cons (sx_asg (ex_call ((cl_token_from T).up (by decide)) hr rfl (takes_of rfl rfl rfl rfl) (ax_cons (ex_add (ex_v 2) ex_int) (ax_cons (ex_v 3) (ax_cons (ex_v 4) ax_nil)))) (gx_tup rfl (gsx_cons (gx_n 5 sc_tokens_of.nd) (gsx_cons (gx_n 4 sc_tokens_of.nd) gsx_nil)) (tgl_cons (tgl_cons tgl_nil))))
    (sxs_cons (sx_expr (ex_append (ex_v 1) (ex_v 5)))
    (sxs_one (sx_set 4 sc_tokens_of.nd (ex_call ((cl_run_end T).up (by decide)) hr rfl (takes_of rfl rfl rfl rfl) (ax_cons (ex_v 3) (ax_cons (ex_v 4) (ax_cons ex_str ax_nil))))))))))))
    (sxs_one (sx_ret (ex_ty bTuple rfl T.z_tuple (by decide +kernel) (ax_cons (ex_v 1) ax_nil))))))
theorem sc__law_jug : FnScope ["script", "jug", "cell", "size"] ["script"] (defScope s__law_jug) := ⟨rfl, rfl, rfl, by decide +kernel, rfl, by decide +kernel, by decide +kernel⟩
theorem cl__law_jug (T : Tops K mg) : Cl P w K mg base 1 "_law_jug" s__law_jug ["script"] F__law_jug := cl_mk T.d__law_jug sc__law_jug (fun _ _ _ _ _ _ us hl => match us, hl with | [_], _ => rfl) fun f cdv A outer s H E hr =>
    (sxs_cons (sx_set 1 sc__law_jug.nd (ex_disp (px_cons ex_str ex_int (px_cons ex_str ex_int (px_cons ex_str ex_int (px_cons ex_str ex_dictK px_nil))))))
    (sxs_cons (sx_for (passes_of rfl) rfl (ix_of (ex_sl (ex_v 0) ox_none (ox_some ex_int))) (gx_n 2 sc__law_jug.nd) (sxs_cons (sx_set 3 sc__law_jug.nd (ex_mod (ex_bn bAbs rfl T.z_abs (by decide +kernel) (ax_cons (ex_ty bInt rfl T.z_int (by decide +kernel) (ax_cons (ex_v 2) ax_nil)) ax_nil)) (ex_shl ex_int ex_int)))
    (sxs_cons (sx_sub hr (ex_v 1) ex_str (ex_mod (ex_ty bInt rfl T.z_int (by decide +kernel) (ax_cons (ex_add (ex_add (ex_mul (ex_ix hr (ex_v 1) ex_str) ex_int) (ex_mod (ex_v 3) ex_int)) ex_int) ax_nil)) ex_int))
    (sxs_one (sx_if (tx_cmp cGe (ex_v 3) (ex_pow ex_int ex_int)) (sxs_one (sx_sub hr (ex_v 1) ex_str (ex_v 3))) sxs_nil)))))
    (sxs_one (sx_ret (ex_v 1)))))
theorem sc__law_dip : FnScope ["jug", "place", "many", "told", "habit", "fixed"] ["jug", "place", "many"] (defScope s__law_dip) := ⟨rfl, rfl, rfl, by decide +kernel, rfl, by decide +kernel, by decide +kernel⟩
theorem cl__law_dip (T : Tops K mg) : Cl P w K mg base 1 "_law_dip" s__law_dip ["jug", "place", "many"] F__law_dip := cl_mk T.d__law_dip sc__law_dip (fun _ _ _ _ _ _ us hl => match us, hl with | [_, _, _], _ => rfl) fun f cdv A outer s H E hr =>
    (sxs_cons (sx_if (tx_cmp (cLtA hr) (ex_v 2) ex_int) (sxs_one (sx_ret ex_int)) sxs_nil)
    (sxs_cons (sx_sub hr (ex_v 0) ex_str (ex_add (ex_ix hr (ex_v 0) ex_str) ex_int))
    (sxs_cons (sx_if (tx_cmp cGe (ex_ix hr (ex_v 0) ex_str) (ex_v 2)) (sxs_cons (sx_set 3 sc__law_dip.nd (ex_mod (ex_ty bInt rfl T.z_int (by decide +kernel) (ax_cons (ex_ix hr (ex_v 0) ex_str) ax_nil)) (ex_v 2)))
    (sxs_cons (sx_sub hr (ex_v 0) ex_str (ex_fdiv (ex_ix hr (ex_v 0) ex_str) (ex_v 2)))
    (sxs_one (sx_ret (ex_v 3))))) sxs_nil)
    (sxs_cons (sx_sub hr (ex_v 0) ex_str (ex_mod (ex_ty bInt rfl T.z_int (by decide +kernel) (ax_cons (ex_add (ex_add (ex_mul (ex_ix hr (ex_v 0) ex_str) ex_int) (ex_mul (ex_ix hr (ex_v 0) ex_str) ex_int)) ex_int) ax_nil)) ex_int))
    (sxs_cons (sx_if (tx_cmp (cNotIn hr) (ex_v 1) (ex_ix hr (ex_v 0) ex_str)) (sxs_one (sx_sub hr (ex_ix hr (ex_v 0) ex_str) (ex_v 1) (ex_tup (ax_cons (ex_mod (ex_ty bInt rfl T.z_int (by decide +kernel) (ax_cons (ex_shr (ex_ix hr (ex_v 0) ex_str) ex_int) ax_nil)) ex_int) (ax_cons (ex_ty bInt rfl T.z_int (by decide +kernel) (ax_cons (ex_shr (ex_ix hr (ex_v 0) ex_str) ex_int) ax_nil)) ax_nil))))) sxs_nil)
    (sxs_cons (sx_asg (ex_ix hr (ex_ix hr (ex_v 0) ex_str) (ex_v 1)) (gx_tup rfl (gsx_cons (gx_n 4 sc__law_dip.nd) (gsx_cons (gx_n 5 sc__law_dip.nd) gsx_nil)) (tgl_cons (tgl_cons tgl_nil))))
    (sxs_cons (sx_if (tx_cmp (cLtA hr) (ex_v 4) ex_int) (sxs_one (sx_ret (ex_ix hr (ex_tup (ax_cons ex_int (ax_cons (ex_sub (ex_v 2) ex_int) (ax_cons (ex_mod (ex_ty bInt rfl T.z_int (by decide +kernel) (ax_cons (ex_v 5) ax_nil)) (ex_v 2)) ax_nil)))) (ex_v 4)))) sxs_nil)
    (sxs_one (sx_ret (ex_mod (ex_ty bInt rfl T.z_int (by decide +kernel) (ax_cons (ex_shr (ex_ix hr (ex_v 0) ex_str) ex_int) ax_nil)) (ex_v 2)))))))))))
theorem sc__law_of : FnScope ["jug", "place", "things"] ["jug", "place", "things"] (defScope s__law_of) := ⟨rfl, rfl, rfl, by decide +kernel, rfl, by decide +kernel, by decide +kernel⟩
theorem cl__law_of (T : Tops K mg) : Cl P w K mg base 2 "_law_of" s__law_of ["jug", "place", "things"] F__law_of := cl_mk T.d__law_of sc__law_of (fun _ _ _ _ _ _ us hl => match us, hl with | [_, _, _], _ => rfl) fun f cdv A outer s H E hr =>
    (sxs_one (sx_ret (ex_ix hr (ex_v 2) (ex_call ((cl__law_dip T).up (by decide)) hr rfl (takes_of rfl rfl rfl rfl) (ax_cons (ex_v 0) (ax_cons (ex_v 1) (ax_cons (ex_bn bLen rfl T.z_len (by decide +kernel) (ax_cons (ex_v 2) ax_nil)) ax_nil)))))))
theorem sc__law_equal : FnScope ["told", "due", "rest", "lap", "one", "other", "at"] ["told", "due"] (defScope s__law_equal) := ⟨rfl, rfl, rfl, by decide +kernel, rfl, by decide +kernel, by decide +kernel⟩
theorem cl__law_equal (T : Tops K mg) : Cl P w K mg base 1 "_law_equal" s__law_equal ["told", "due"] F__law_equal := cl_mk T.d__law_equal sc__law_equal (fun _ _ _ _ _ _ us hl => match us, hl with | [_, _], _ => rfl) fun f cdv A outer s H E hr =>
    (sxs_cons (sx_set 2 sc__law_equal.nd (ex_lst (ax_cons (ex_tup (ax_cons (ex_v 0) (ax_cons (ex_v 1) ax_nil))) ax_nil)))
    (sxs_cons (sx_for (passes_of rfl) rfl (ix_rng1 rfl T.z_range ex_int) (gx_n 3 sc__law_equal.nd) (sxs_cons (sx_if (tx_cmp (cEq hr) (ex_bn bLen rfl T.z_len (by decide +kernel) (ax_cons (ex_v 2) ax_nil)) ex_int) (sxs_one (sx_ret ex_bl)) sxs_nil)
    (sxs_cons (sx_asg (ex_pop (ex_v 2)) (gx_tup rfl (gsx_cons (gx_n 4 sc__law_equal.nd) (gsx_cons (gx_n 5 sc__law_equal.nd) gsx_nil)) (tgl_cons (tgl_cons tgl_nil))))
    (sxs_one (sx_if (tx_cmp cIs (ex_v 5) ex_non) (sxs_one (sx_if (tx_cmp cIsNot (ex_v 4) ex_non) (sxs_one (sx_ret ex_bl)) sxs_nil)) (sxs_one (sx_if (tx_val (ex_isi (k := .bl) rfl T.z_isinstance (ex_v 5) (ty_of rfl T.z_bool))) (sxs_one (sx_if (wx_t (wx_or (tx_not (tx_val (ex_isi (k := .bl) rfl T.z_isinstance (ex_v 4) (ty_of rfl T.z_bool)))) (wx_or1 (tx_cmp (cNe hr) (ex_v 4) (ex_v 5))))) (sxs_one (sx_ret ex_bl)) sxs_nil)) (sxs_one (sx_if (tx_val (ex_isi (k := .tup) rfl T.z_isinstance (ex_v 5) (ty_of rfl T.z_tuple))) (sxs_cons (sx_if (wx_t (wx_or (tx_not (tx_val (ex_isi (k := .tup) rfl T.z_isinstance (ex_v 4) (ty_of rfl T.z_tuple)))) (wx_or1 (tx_cmp (cNe hr) (ex_bn bLen rfl T.z_len (by decide +kernel) (ax_cons (ex_v 4) ax_nil)) (ex_bn bLen rfl T.z_len (by decide +kernel) (ax_cons (ex_v 5) ax_nil)))))) (sxs_one (sx_ret ex_bl)) sxs_nil)
    (sxs_one (sx_expr (ex_gc (ex_extend (ex_v 2) (ex_lc [("at", 6)] rfl sc__law_equal.nd (ix_rng1 rfl T.z_range (ex_bn bLen rfl T.z_len (by decide +kernel) (ax_cons (ex_v 5) ax_nil))) (blkOk_by rfl) (fun _ _ _ _ _ => (gx_n 6 sc__law_equal.nd)) (fun _ _ _ _ _ => tsx_nil) (fun _ _ _ _ _ => (ex_tup (ax_cons (ex_ix hr (ex_v 4) (ex_v 6)) (ax_cons (ex_ix hr (ex_v 5) (ex_v 6)) ax_nil)))))))))) (sxs_one (sx_if (tx_val (ex_isi (k := .str) rfl T.z_isinstance (ex_v 5) (ty_of rfl T.z_str))) (sxs_one (sx_if (wx_t (wx_or (tx_not (tx_val (ex_isi (k := .str) rfl T.z_isinstance (ex_v 4) (ty_of rfl T.z_str)))) (wx_or1 (tx_cmp (cNe hr) (ex_v 4) (ex_v 5))))) (sxs_one (sx_ret ex_bl)) sxs_nil)) (sxs_one (sx_if (wx_t (wx_or (tx_not (tx_val (ex_isi (k := .int) rfl T.z_isinstance (ex_v 4) (ty_of rfl T.z_int)))) (wx_or (tx_val (ex_isi (k := .bl) rfl T.z_isinstance (ex_v 4) (ty_of rfl T.z_bool))) (wx_or1 (tx_cmp (cNe hr) (ex_v 4) (ex_v 5)))))) (sxs_one (sx_ret ex_bl)) sxs_nil)))))))))))))
    (sxs_one (sx_ret ex_bl))))
theorem sc__law_due : FnScope ["text", "told", "line", "place", "at", "letters", "figures", "lap", "sign", "size", "more", "many", "piece"] ["text"] (defScope s__law_due) := ⟨rfl, rfl, rfl, by decide +kernel, rfl, by decide +kernel, by decide +kernel⟩
theorem cl__law_due (T : Tops K mg) : Cl P w K mg base 1 "_law_due" s__law_due ["text"] F__law_due := cl_mk T.d__law_due sc__law_due (fun _ _ _ _ _ _ us hl => match us, hl with | [_], _ => rfl) fun f cdv A outer s H E hr =>
    (sxs_cons (sx_asg (ex_tup (ax_cons (ex_lst ax_nil) (ax_cons ex_int (ax_cons ex_int (ax_cons ex_int ax_nil))))) (gx_tup rfl (gsx_cons (gx_n 1 sc__law_due.nd) (gsx_cons (gx_n 2 sc__law_due.nd) (gsx_cons (gx_n 3 sc__law_due.nd) (gsx_cons (gx_n 4 sc__law_due.nd) gsx_nil)))) (tgl_cons (tgl_cons (tgl_cons (tgl_cons tgl_nil))))))
    (sxs_cons (sx_asg (ex_tup (ax_cons ex_str (ax_cons ex_str ax_nil))) (gx_tup rfl (gsx_cons (gx_n 5 sc__law_due.nd) (gsx_cons (gx_n 6 sc__law_due.nd) gsx_nil)) (tgl_cons (tgl_cons tgl_nil))))
    (sxs_cons (sx_for (passes_of rfl) rfl (ix_rng1 rfl T.z_range (ex_add (ex_bn bLen rfl T.z_len (by decide +kernel) (ax_cons (ex_v 0) ax_nil)) ex_int)) (gx_n 7 sc__law_due.nd) (sxs_cons (sx_if (tx_cmp cGe (ex_v 4) (ex_bn bLen rfl T.z_len (by decide +kernel) (ax_cons (ex_v 0) ax_nil))) (sxs_one sx_brk) sxs_nil)
    (sxs_cons (sx_par 8 9 rfl sc__law_due.nd (ax_cons (ex_ix hr (ex_v 0) (ex_v 4)) (ax_cons ex_int ax_nil)))
    (sxs_cons (sx_if (tx_cmp (cEq hr) (ex_v 8) ex_str) (sxs_cons (sx_par3 2 3 4 rfl sc__law_due.nd (ax_cons (ex_add (ex_v 2) ex_int) (ax_cons ex_int (ax_cons (ex_add (ex_v 4) ex_int) ax_nil))))
    (sxs_one sx_cont)) sxs_nil)
    (sxs_cons (sx_if (tx_cmp (cEq hr) (ex_v 8) ex_str) (sxs_cons (sx_for (passes_of rfl) rfl (ix_rng1 rfl T.z_range (ex_sub (ex_bn bLen rfl T.z_len (by decide +kernel) (ax_cons (ex_v 0) ax_nil)) (ex_v 4))) (gx_n 10 sc__law_due.nd) (sxs_cons (sx_if (tx_cmp (cEq hr) (ex_ix hr (ex_v 0) (ex_add (ex_v 4) (ex_v 10))) ex_str) (sxs_one sx_brk) sxs_nil)
    (sxs_one (sx_set 9 sc__law_due.nd (ex_add (ex_v 10) ex_int)))))
    (sxs_cons (sx_par 4 3 rfl sc__law_due.nd (ax_cons (ex_add (ex_v 4) (ex_v 9)) (ax_cons (ex_add (ex_v 3) (ex_v 9)) ax_nil)))
    (sxs_one sx_cont))) sxs_nil)
    (sxs_cons (sx_set 11 sc__law_due.nd (ex_if (wx_t (wx_or (tx_cmp (cIn hr) (ex_v 8) (ex_v 6)) (wx_or1 (tx_cmp (cEq hr) (ex_v 8) ex_str)))) (ex_v 6) (ex_if (tx_cmp (cIn hr) (ex_v 8) (ex_v 5)) (ex_v 5) ex_str)))
    (sxs_cons (sx_for (passes_of rfl) rfl (ix_rng2 rfl T.z_range ex_int (ex_sub (ex_bn bLen rfl T.z_len (by decide +kernel) (ax_cons (ex_v 0) ax_nil)) (ex_v 4))) (gx_n 10 sc__law_due.nd) (sxs_cons (sx_if (wx_t (wx_or (tx_cmp (cEq hr) (ex_v 11) ex_str) (wx_or1 (tx_cmp (cNotIn hr) (ex_ix hr (ex_v 0) (ex_add (ex_v 4) (ex_v 10))) (ex_v 11))))) (sxs_one sx_brk) sxs_nil)
    (sxs_one (sx_set 9 sc__law_due.nd (ex_add (ex_v 10) ex_int)))))
    (sxs_cons (sx_set 12 sc__law_due.nd (ex_sl (ex_v 0) (ox_some (ex_v 4)) (ox_some (ex_add (ex_v 4) (ex_v 9)))))
    (sxs_cons (sx_if (wx_t (wx_or (wx_t (wx_and (tx_cmp (cEq hr) (ex_v 8) ex_str) (wx_and1 (tx_cmp (cEq hr) (ex_v 9) ex_int)))) (wx_or1 (tx_cmp (cNotIn hr) (ex_v 8) (ex_add (ex_add (ex_v 5) (ex_v 6)) ex_str))))) (sxs_one (sx_ret (ex_tup (ax_cons ex_str (ax_cons (ex_v 2) (ax_cons (ex_v 3) (ax_cons ex_str ax_nil))))))) sxs_nil)
    (sxs_cons (sx_if (wx_t (wx_or (wx_t (wx_and (tx_cmp (cIn hr) (ex_v 8) (ex_v 5)) (wx_and1 (tx_cmp cGt (ex_v 9) ex_int)))) (wx_or1 (wx_t (wx_and (tx_cmp (cEq hr) (ex_v 11) (ex_v 6)) (wx_and1 (tx_cmp cGt (ex_v 9) ex_int))))))) (sxs_one (sx_ret (ex_tup (ax_cons ex_str (ax_cons (ex_v 2) (ax_cons (ex_v 3) (ax_cons ex_str ax_nil))))))) sxs_nil)
    (sxs_cons (sx_if (wx_t (wx_and (tx_cmp (cEq hr) (ex_v 11) (ex_v 6)) (wx_and1 (wx_t (wx_or (wx_t (wx_and (tx_cmp (cEq hr) (ex_ix hr (ex_v 12) ex_int) ex_str) (wx_and1 (tx_cmp cGt (ex_v 9) ex_int)))) (wx_or1 (tx_cmp (cEq hr) (ex_sl (ex_v 12) ox_none (ox_some ex_int)) ex_str))))))) (sxs_one (sx_ret (ex_tup (ax_cons ex_str (ax_cons (ex_v 2) (ax_cons (ex_v 3) (ax_cons ex_str ax_nil))))))) sxs_nil)
    (sxs_cons (sx_if (tx_cmp (cNe hr) (ex_v 8) ex_str) (sxs_one (sx_expr (ex_append (ex_v 1) (ex_if (tx_cmp (cIn hr) (ex_v 8) (ex_v 5)) (ex_tup (ax_cons ex_str (ax_cons (ex_v 12) (ax_cons (ex_v 2) (ax_cons (ex_v 3) ax_nil))))) (ex_if (tx_cmp (cEq hr) (ex_v 11) (ex_v 6)) (ex_tup (ax_cons ex_str (ax_cons (ex_ty bInt rfl T.z_int (by decide +kernel) (ax_cons (ex_v 12) ax_nil)) (ax_cons (ex_v 2) (ax_cons (ex_v 3) ax_nil))))) (ex_tup (ax_cons ex_str (ax_cons (ex_v 8) (ax_cons (ex_v 2) (ax_cons (ex_v 3) ax_nil)))))))))) sxs_nil)
    (sxs_one (sx_par 4 3 rfl sc__law_due.nd (ax_cons (ex_add (ex_v 4) (ex_v 9)) (ax_cons (ex_add (ex_v 3) (ex_v 9)) ax_nil))))))))))))))))
    (sxs_one (sx_ret (ex_tup (ax_cons ex_str (ax_cons (ex_ty bTuple rfl T.z_tuple (by decide +kernel) (ax_cons (ex_v 1) ax_nil)) ax_nil))))))))
theorem sc__law_heard : FnScope ["text", "error"] ["text"] (defScope s__law_heard) := ⟨rfl, rfl, rfl, by decide +kernel, rfl, by decide +kernel, by decide +kernel⟩
theorem cl__law_heard (T : Tops K mg) : Cl P w K mg base 6 "_law_heard" s__law_heard ["text"] F__law_heard := cl_mk T.d__law_heard sc__law_heard (fun _ _ _ _ _ _ us hl => match us, hl with | [_], _ => rfl) fun f cdv A outer s H E hr =>
    (sxs_one (sx_try rfl rfl (fun W' pn xe tk po => (sxs_one (sx_ret (ex_tup (ax_cons ex_str (ax_cons (ex_call ((cl_tokens_of T).up (by decide)) hr rfl tk (ax_cons (ex_v 0) ax_nil)) ax_nil))))))
    (hx_as 1 rfl sc__law_heard.nd T.tb_BadSource rfl (fun a b oe z cls pn hm hz hv => (sxs_cons (sx_if (wx_t (wx_or (tx_val (ex_isX T.tb_BadText (io_BadText T) hm hz hv rfl T.z_isinstance rfl (ex_v 1))) (wx_or1 (tx_val (ex_isX T.tb_BadPaper (io_BadPaper T) hm hz hv rfl T.z_isinstance rfl (ex_v 1)))))) (sxs_one (sx_ret (ex_tup (ax_cons ex_str ax_nil)))) sxs_nil)
    (sxs_one (sx_ret (ex_tup (ax_cons ex_str (ax_cons (ex_xf (fl_line T) hm hz hv (ex_v 1)) (ax_cons (ex_xf (fl_place T) hm hz hv (ex_v 1)) (ax_cons (ex_xf (fl_word T) hm hz hv (ex_v 1)) ax_nil)))))))))
    (hx_only rfl T.tb_RoundsError rfl (fun a oe pn => (sxs_one (sx_ret (ex_tup (ax_cons ex_str ax_nil)))))
    (hx_nil rfl rfl (takes_of rfl rfl rfl rfl))))))
theorem sc__law_asked : FnScope ["text"] ["text"] (defScope s__law_asked) := ⟨rfl, rfl, rfl, by decide +kernel, rfl, by decide +kernel, by decide +kernel⟩
theorem cl__law_asked (T : Tops K mg) : Cl P w K mg base 7 "_law_asked" s__law_asked ["text"] F__law_asked := cl_mk T.d__law_asked sc__law_asked (fun _ _ _ _ _ _ us hl => match us, hl with | [_], _ => rfl) fun f cdv A outer s H E hr =>
    (sxs_one (sx_ret (ex_call ((cl__law_equal T).up (by decide)) hr rfl (takes_of rfl rfl rfl rfl) (ax_cons (ex_call ((cl__law_heard T).up (by decide)) hr rfl (takes_of rfl rfl rfl rfl) (ax_cons (ex_v 0) ax_nil)) (ax_cons (ex_call ((cl__law_due T).up (by decide)) hr rfl (takes_of rfl rfl rfl rfl) (ax_cons (ex_v 0) ax_nil)) ax_nil)))))
theorem sc__law_piece : FnScope ["jug", "kind"] ["jug"] (defScope s__law_piece) := ⟨rfl, rfl, rfl, by decide +kernel, rfl, by decide +kernel, by decide +kernel⟩
theorem cl__law_piece (T : Tops K mg) : Cl P w K mg base 3 "_law_piece" s__law_piece ["jug"] F__law_piece := cl_mk T.d__law_piece sc__law_piece (fun _ _ _ _ _ _ us hl => match us, hl with | [_], _ => rfl) fun f cdv A outer s H E hr =>
    (sxs_cons (sx_set 1 sc__law_piece.nd (ex_call ((cl__law_dip T).up (by decide)) hr rfl (takes_of rfl rfl rfl rfl) (ax_cons (ex_v 0) (ax_cons ex_int (ax_cons ex_int ax_nil)))))
    (sxs_cons (sx_if (tx_cmp (cEq hr) (ex_v 1) ex_int) (sxs_one (sx_ret (ex_call ((cl__law_of T).up (by decide)) hr rfl (takes_of rfl rfl rfl rfl) (ax_cons (ex_v 0) (ax_cons ex_int (ax_cons (ex_tup (ax_cons ex_str (ax_cons ex_str (ax_cons ex_str (ax_cons ex_str (ax_cons ex_str (ax_cons ex_str (ax_cons ex_str ax_nil)))))))) ax_nil)))))) sxs_nil)
    (sxs_cons (sx_if (tx_cmp (cEq hr) (ex_v 1) ex_int) (sxs_one (sx_ret (ex_call ((cl__law_of T).up (by decide)) hr rfl (takes_of rfl rfl rfl rfl) (ax_cons (ex_v 0) (ax_cons ex_int (ax_cons (ex_tup (ax_cons ex_str (ax_cons ex_str (ax_cons ex_str (ax_cons ex_str (ax_cons ex_str (ax_cons ex_str (ax_cons ex_str ax_nil)))))))) ax_nil)))))) sxs_nil)
    (sxs_one (sx_ret (ex_call ((cl__law_of T).up (by decide)) hr rfl (takes_of rfl rfl rfl rfl) (ax_cons (ex_v 0) (ax_cons ex_int (ax_cons ex_str ax_nil)))))))))
theorem sc__law_wrong : FnScope ["jug"] ["jug"] (defScope s__law_wrong) := ⟨rfl, rfl, rfl, by decide +kernel, rfl, by decide +kernel, by decide +kernel⟩
theorem cl__law_wrong (T : Tops K mg) : Cl P w K mg base 3 "_law_wrong" s__law_wrong ["jug"] F__law_wrong := cl_mk T.d__law_wrong sc__law_wrong (fun _ _ _ _ _ _ us hl => match us, hl with | [_], _ => rfl) fun f cdv A outer s H E hr =>
    (sxs_one (sx_ret (ex_call ((cl__law_of T).up (by decide)) hr rfl (takes_of rfl rfl rfl rfl) (ax_cons (ex_v 0) (ax_cons ex_int (ax_cons (ex_tup (ax_cons ex_str (ax_cons ex_str (ax_cons ex_str (ax_cons ex_str (ax_cons ex_str (ax_cons ex_str (ax_cons ex_str (ax_cons ex_str (ax_cons ex_str (ax_cons ex_str (ax_cons ex_str (ax_cons ex_str (ax_cons (ex_mulS ex_str ex_int) (ax_cons ex_str (ax_cons ex_str (ax_cons ex_str (ax_cons ex_str (ax_cons ex_str (ax_cons ex_str (ax_cons ex_str (ax_cons ex_str (ax_cons ex_str ax_nil))))))))))))))))))))))) ax_nil))))))
theorem sc__law_text : FnScope ["jug", "pieces", "text", "last", "piece", "letters", "figures", "near"] ["jug", "pieces"] (defScope s__law_text) := ⟨rfl, rfl, rfl, by decide +kernel, rfl, by decide +kernel, by decide +kernel⟩
theorem cl__law_text (T : Tops K mg) : Cl P w K mg base 3 "_law_text" s__law_text ["jug", "pieces"] F__law_text := cl_mk T.d__law_text sc__law_text (fun _ _ _ _ _ _ us hl => match us, hl with | [_, _], _ => rfl) fun f cdv A outer s H E hr =>
    (sxs_cons (sx_asg (ex_tup (ax_cons ex_str (ax_cons ex_str ax_nil))) (gx_tup rfl (gsx_cons (gx_n 2 sc__law_text.nd) (gsx_cons (gx_n 3 sc__law_text.nd) gsx_nil)) (tgl_cons (tgl_cons tgl_nil))))
    (sxs_cons (sx_for (passes_of rfl) rfl (ix_of (ex_v 1)) (gx_n 4 sc__law_text.nd) (sxs_cons (sx_asg (ex_tup (ax_cons ex_str (ax_cons ex_str ax_nil))) (gx_tup rfl (gsx_cons (gx_n 5 sc__law_text.nd) (gsx_cons (gx_n 6 sc__law_text.nd) gsx_nil)) (tgl_cons (tgl_cons tgl_nil))))
    (sxs_cons (sx_set 7 sc__law_text.nd (ex_and (ex_cmp (cNe hr) (ex_v 3) ex_str) (ex_one (ex_or (ex_and (ex_cmp (cIn hr) (ex_ix hr (ex_v 3) (ex_neg ex_int)) (ex_v 5)) (ex_one (ex_cmp (cIn hr) (ex_ix hr (ex_v 4) ex_int) (ex_v 5)))) (ex_one (ex_and (ex_cmp (cIn hr) (ex_ix hr (ex_v 3) (ex_neg ex_int)) (ex_v 6)) (ex_one (ex_cmp (cIn hr) (ex_ix hr (ex_v 4) ex_int) (ex_v 6)))))))))
    (sxs_cons (sx_set 2 sc__law_text.nd (ex_add (ex_add (ex_v 2) (ex_if (tx_tru (ex_v 7)) (ex_call ((cl__law_of T).up (by decide)) hr rfl (takes_of rfl rfl rfl rfl) (ax_cons (ex_v 0) (ax_cons ex_int (ax_cons (ex_tup (ax_cons ex_str (ax_cons ex_str (ax_cons ex_str (ax_cons ex_str (ax_cons ex_str ax_nil)))))) ax_nil)))) (ex_call ((cl__law_of T).up (by decide)) hr rfl (takes_of rfl rfl rfl rfl) (ax_cons (ex_v 0) (ax_cons ex_int (ax_cons (ex_tup (ax_cons ex_str (ax_cons ex_str (ax_cons ex_str (ax_cons ex_str (ax_cons ex_str (ax_cons ex_str ax_nil))))))) ax_nil)))))) (ex_v 4)))
    (sxs_one (sx_set 3 sc__law_text.nd (ex_v 4)))))))
    (sxs_one (sx_ret (ex_add (ex_v 2) (ex_call ((cl__law_of T).up (by decide)) hr rfl (takes_of rfl rfl rfl rfl) (ax_cons (ex_v 0) (ax_cons ex_int (ax_cons (ex_tup (ax_cons ex_str (ax_cons ex_str (ax_cons ex_str (ax_cons ex_str (ax_cons ex_str ax_nil)))))) ax_nil)))))))))
theorem sc__law_by_hand : FnScope ["rows", "text", "due"] [] (defScope s__law_by_hand) := ⟨rfl, rfl, rfl, by decide +kernel, rfl, by decide +kernel, by decide +kernel⟩
theorem cl__law_by_hand (T : Tops K mg) : Cl P w K mg base 7 "_law_by_hand" s__law_by_hand [] F__law_by_hand := cl_mk T.d__law_by_hand sc__law_by_hand (fun _ _ _ _ _ _ us hl => match us, hl with | [], _ => rfl) fun f cdv A outer s H E hr =>
    (sxs_cons (sx_set 0 sc__law_by_hand.nd (ex_lst (ax_cons (ex_tup (ax_cons ex_str (ax_cons (ex_tup (ax_cons ex_str (ax_cons (ex_tup ax_nil) ax_nil))) ax_nil))) (ax_cons (ex_tup (ax_cons ex_str (ax_cons (ex_tup (ax_cons ex_str (ax_cons (ex_tup ax_nil) ax_nil))) ax_nil))) (ax_cons (ex_tup (ax_cons ex_str (ax_cons (ex_tup (ax_cons ex_str (ax_cons (ex_tup (ax_cons (ex_tup (ax_cons ex_str (ax_cons ex_str (ax_cons ex_int (ax_cons ex_int ax_nil))))) (ax_cons (ex_tup (ax_cons ex_str (ax_cons ex_int (ax_cons ex_int (ax_cons ex_int ax_nil))))) (ax_cons (ex_tup (ax_cons ex_str (ax_cons ex_str (ax_cons ex_int (ax_cons ex_int ax_nil))))) ax_nil)))) ax_nil))) ax_nil))) (ax_cons (ex_tup (ax_cons ex_str (ax_cons (ex_tup (ax_cons ex_str (ax_cons (ex_tup (ax_cons (ex_tup (ax_cons ex_str (ax_cons ex_int (ax_cons ex_int (ax_cons ex_int ax_nil))))) (ax_cons (ex_tup (ax_cons ex_str (ax_cons (ex_neg ex_int) (ax_cons ex_int (ax_cons ex_int ax_nil))))) ax_nil))) ax_nil))) ax_nil))) (ax_cons (ex_tup (ax_cons ex_str (ax_cons (ex_tup (ax_cons ex_str (ax_cons ex_int (ax_cons ex_int (ax_cons ex_str ax_nil))))) ax_nil))) (ax_cons (ex_tup (ax_cons ex_str (ax_cons (ex_tup (ax_cons ex_str (ax_cons ex_int (ax_cons ex_int (ax_cons ex_str ax_nil))))) ax_nil))) (ax_cons (ex_tup (ax_cons ex_str (ax_cons (ex_tup (ax_cons ex_str (ax_cons ex_int (ax_cons ex_int (ax_cons ex_str ax_nil))))) ax_nil))) (ax_cons (ex_tup (ax_cons ex_str (ax_cons (ex_tup (ax_cons ex_str (ax_cons ex_int (ax_cons ex_int (ax_cons ex_str ax_nil))))) ax_nil))) (ax_cons (ex_tup (ax_cons ex_str (ax_cons (ex_tup (ax_cons ex_str (ax_cons ex_int (ax_cons ex_int (ax_cons ex_str ax_nil))))) ax_nil))) (ax_cons (ex_tup (ax_cons ex_str (ax_cons (ex_tup (ax_cons ex_str (ax_cons ex_int (ax_cons ex_int (ax_cons ex_str ax_nil))))) ax_nil))) (ax_cons (ex_tup (ax_cons ex_str (ax_cons (ex_tup (ax_cons ex_str (ax_cons ex_int (ax_cons ex_int (ax_cons ex_str ax_nil))))) ax_nil))) (ax_cons (ex_tup (ax_cons ex_str (ax_cons (ex_tup (ax_cons ex_str (ax_cons (ex_tup (ax_cons (ex_tup (ax_cons ex_str (ax_cons ex_str (ax_cons ex_int (ax_cons ex_int ax_nil))))) (ax_cons (ex_tup (ax_cons ex_str (ax_cons ex_str (ax_cons ex_int (ax_cons ex_int ax_nil))))) (ax_cons (ex_tup (ax_cons ex_str (ax_cons ex_str (ax_cons ex_int (ax_cons ex_int ax_nil))))) (ax_cons (ex_tup (ax_cons ex_str (ax_cons ex_str (ax_cons ex_int (ax_cons ex_int ax_nil))))) (ax_cons (ex_tup (ax_cons ex_str (ax_cons (ex_neg ex_int) (ax_cons ex_int (ax_cons ex_int ax_nil))))) ax_nil)))))) ax_nil))) ax_nil))) (ax_cons (ex_tup (ax_cons ex_str (ax_cons (ex_tup (ax_cons ex_str (ax_cons (ex_tup (ax_cons (ex_tup (ax_cons ex_str (ax_cons ex_int (ax_cons ex_int (ax_cons ex_int ax_nil))))) ax_nil)) ax_nil))) ax_nil))) (ax_cons (ex_tup (ax_cons ex_str (ax_cons (ex_tup (ax_cons ex_str (ax_cons (ex_tup (ax_cons (ex_tup (ax_cons ex_str (ax_cons (ex_neg ex_int) (ax_cons ex_int (ax_cons ex_int ax_nil))))) ax_nil)) ax_nil))) ax_nil))) (ax_cons (ex_tup (ax_cons ex_str (ax_cons (ex_tup (ax_cons ex_str (ax_cons ex_int (ax_cons ex_int (ax_cons ex_str ax_nil))))) ax_nil))) (ax_cons (ex_tup (ax_cons ex_str (ax_cons (ex_tup (ax_cons ex_str (ax_cons (ex_tup (ax_cons (ex_tup (ax_cons ex_str (ax_cons ex_str (ax_cons ex_int (ax_cons ex_int ax_nil))))) (ax_cons (ex_tup (ax_cons ex_str (ax_cons ex_str (ax_cons ex_int (ax_cons ex_int ax_nil))))) (ax_cons (ex_tup (ax_cons ex_str (ax_cons ex_str (ax_cons ex_int (ax_cons ex_int ax_nil))))) (ax_cons (ex_tup (ax_cons ex_str (ax_cons ex_str (ax_cons ex_int (ax_cons ex_int ax_nil))))) (ax_cons (ex_tup (ax_cons ex_str (ax_cons (ex_neg ex_int) (ax_cons ex_int (ax_cons ex_int ax_nil))))) (ax_cons (ex_tup (ax_cons ex_str (ax_cons ex_str (ax_cons ex_int (ax_cons ex_int ax_nil))))) ax_nil))))))) ax_nil))) ax_nil))) ax_nil))))))))))))))))))
    (sxs_one (sx_ret (ex_cmp (cEq hr) (ex_gc (ex_bn bLen rfl T.z_len (by decide +kernel) (ax_cons (ex_lc [("text", 1), ("due", 2)] rfl sc__law_by_hand.nd (ix_of (ex_v 0)) (blkOk_by rfl) (fun _ _ _ _ _ => (gx_tup rfl (gsx_cons (gx_n 1 sc__law_by_hand.nd) (gsx_cons (gx_n 2 sc__law_by_hand.nd) gsx_nil)) (tgl_cons (tgl_cons tgl_nil)))) (fun _ _ _ _ _ => (tsx_one (wx_t (wx_or (tx_not (tx_val (ex_call ((cl__law_equal T).up (by decide)) hr rfl takes0 (ax_cons (ex_call ((cl__law_heard T).up (by decide)) hr rfl takes0 (ax_cons (ex_v 1) ax_nil)) (ax_cons (ex_v 2) ax_nil))))) (wx_or1 (tx_not (tx_val (ex_call ((cl__law_equal T).up (by decide)) hr rfl takes0 (ax_cons (ex_call ((cl__law_due T).up (by decide)) hr rfl takes0 (ax_cons (ex_v 1) ax_nil)) (ax_cons (ex_v 2) ax_nil)))))))))) (fun _ _ _ _ _ => ex_int)) ax_nil))) ex_int))))
theorem sc_law : FnScope ["script", "jug", "lap", "pieces", "piece", "turn", "at", "wrong", "text"] ["script"] (defScope s_law) := ⟨rfl, rfl, rfl, by decide +kernel, rfl, by decide +kernel, by decide +kernel⟩
theorem cl_law (T : Tops K mg) : Cl P w K mg base 8 "law" s_law ["script"] F_law := cl_mk T.d_law sc_law (fun _ _ _ _ _ _ us hl => match us, hl with | [_], _ => rfl) fun f cdv A outer s H E hr =>
    (sxs_cons (sx_set 1 sc_law.nd (ex_call ((cl__law_jug T).up (by decide)) hr rfl (takes_of rfl rfl rfl rfl) (ax_cons (ex_v 0) ax_nil)))
    (sxs_cons (sx_if (tx_not (tx_val (ex_call0 ((cl__law_by_hand T).up (by decide)) hr rfl))) (sxs_one (sx_ret ex_bl)) sxs_nil)
    (sxs_cons (sx_for (passes_of rfl) rfl (ix_rng1 rfl T.z_range ex_int) (gx_n 2 sc_law.nd) (sxs_cons (sx_setLc 3 [("piece", 4)] rfl sc_law.nd rfl rfl rfl (ix_rng1 rfl T.z_range (ex_call ((cl__law_dip T).up (by decide)) hr rfl (takes_of rfl rfl rfl rfl) (ax_cons (ex_v 1) (ax_cons ex_int (ax_cons ex_int ax_nil))))) (blkOk_by rfl) (fun _ _ _ _ _ => (gx_n 4 sc_law.nd)) (fun _ _ _ _ _ => tsx_nil) (fun _ _ _ _ _ => (ex_call ((cl__law_piece T).up (by decide)) hr rfl takes0 (ax_cons (ex_v 1) ax_nil))))
    (sxs_cons (sx_if (tx_not (tx_val (ex_call ((cl__law_asked T).up (by decide)) hr rfl (takes_of rfl rfl rfl rfl) (ax_cons (ex_call ((cl__law_text T).up (by decide)) hr rfl (takes_of rfl rfl rfl rfl) (ax_cons (ex_v 1) (ax_cons (ex_v 3) ax_nil))) ax_nil)))) (sxs_one (sx_ret ex_bl)) sxs_nil)
    (sxs_one (sx_for (passes_of rfl) rfl (ix_rng1 rfl T.z_range ex_int) (gx_n 5 sc_law.nd) (sxs_cons (sx_set 6 sc_law.nd (ex_call ((cl__law_dip T).up (by decide)) hr rfl (takes_of rfl rfl rfl rfl) (ax_cons (ex_v 1) (ax_cons ex_int (ax_cons (ex_add (ex_bn bLen rfl T.z_len (by decide +kernel) (ax_cons (ex_v 3) ax_nil)) ex_int) ax_nil)))))
    (sxs_cons (sx_set 7 sc_law.nd (ex_add (ex_add (ex_sl (ex_v 3) ox_none (ox_some (ex_v 6))) (ex_lst (ax_cons (ex_call ((cl__law_wrong T).up (by decide)) hr rfl (takes_of rfl rfl rfl rfl) (ax_cons (ex_v 1) ax_nil)) ax_nil))) (ex_sl (ex_v 3) (ox_some (ex_v 6)) ox_none)))
    (sxs_cons (sx_if (tx_cmp cGt (ex_v 5) ex_int) (sxs_one (sx_set 7 sc_law.nd (ex_add (ex_v 7) (ex_lst (ax_cons (ex_call ((cl__law_wrong T).up (by decide)) hr rfl (takes_of rfl rfl rfl rfl) (ax_cons (ex_v 1) ax_nil)) ax_nil))))) sxs_nil)
    (sxs_one (sx_if (tx_not (tx_val (ex_call ((cl__law_asked T).up (by decide)) hr rfl (takes_of rfl rfl rfl rfl) (ax_cons (ex_call ((cl__law_text T).up (by decide)) hr rfl (takes_of rfl rfl rfl rfl) (ax_cons (ex_v 1) (ax_cons (ex_v 7) ax_nil))) ax_nil)))) (sxs_one (sx_ret ex_bl)) sxs_nil))))))))))
    (sxs_cons (sx_if (tx_cmp (cNe hr) (ex_call ((cl__law_dip T).up (by decide)) hr rfl (takes_of rfl rfl rfl rfl) (ax_cons (ex_v 1) (ax_cons ex_int (ax_cons ex_int ax_nil)))) ex_int) (sxs_one (sx_ret ex_bl)) sxs_nil)
    (sxs_cons (sx_setLc 3 [("piece", 4)] rfl sc_law.nd rfl rfl rfl (ix_rng1 rfl T.z_range ex_int) (blkOk_by rfl) (fun _ _ _ _ _ => (gx_n 4 sc_law.nd)) (fun _ _ _ _ _ => tsx_nil) (fun _ _ _ _ _ => (ex_call ((cl__law_piece T).up (by decide)) hr rfl takes0 (ax_cons (ex_v 1) ax_nil))))
    (sxs_cons (sx_set 8 sc_law.nd (ex_add (ex_call ((cl__law_text T).up (by decide)) hr rfl (takes_of rfl rfl rfl rfl) (ax_cons (ex_v 1) (ax_cons (ex_v 3) ax_nil))) ex_str))
    (sxs_cons (sx_set 8 sc_law.nd (ex_mulS (ex_v 8) (ex_bn (bMax rfl) rfl T.z_max (by decide +kernel) (ax_cons ex_int (ax_cons (ex_fdiv ex_int (ex_bn bLen rfl T.z_len (by decide +kernel) (ax_cons (ex_v 8) ax_nil))) ax_nil)))))
    (sxs_one (sx_ret (ex_and (ex_call ((cl__law_asked T).up (by decide)) hr rfl (takes_of rfl rfl rfl rfl) (ax_cons (ex_v 8) ax_nil)) (ex_and (ex_call ((cl__law_asked T).up (by decide)) hr rfl (takes_of rfl rfl rfl rfl) (ax_cons (ex_add (ex_v 8) (ex_call ((cl__law_wrong T).up (by decide)) hr rfl (takes_of rfl rfl rfl rfl) (ax_cons (ex_v 1) ax_nil))) ax_nil)) (ex_one (ex_call ((cl__law_equal T).up (by decide)) hr rfl (takes_of rfl rfl rfl rfl) (ax_cons (ex_callK (ks := ["text"]) (idx := [0]) ((cl_tokens_of T).up (by decide)) rfl hr rfl (takes_of rfl rfl rfl rfl) (fun _ _ _ _ _ _ us hl => match us, hl with | [_], _ => rfl) (kx_cons ex_str kx_nil)) (ax_cons (ex_tup (ax_cons (ex_tup (ax_cons ex_str (ax_cons ex_str (ax_cons ex_int (ax_cons ex_int ax_nil))))) (ax_cons (ex_tup (ax_cons ex_str (ax_cons ex_str (ax_cons ex_int (ax_cons ex_int ax_nil))))) ax_nil))) ax_nil)))))))))))))))
end
theorem all_mk (lt : LawT F_law) {l : PySem.W.OpenLaw} {w : World} {K : Fg} {h : Heap} {mg : Str → Option Value} {fa f1 f2 f3 f4 f5 f6 f7 f8 f9 f10 f11 f12 f13 f14 f15 f16 f17 : Addr} (X : K.In h) (G : h.Ns mainGlobals mg) (hfa : mg "law" = some (.ref fa))
    {od1 an1 od2 an2 od3 an3 od4 an4 od5 an5 od6 an6 od7 an7 od8 an8 od9 an9 od10 an10 od11 an11 od12 an12 od13 an13 od14 an14 od15 an15 od16 an16 od17 an17 : Option Addr} {sl1 sl2 sl3 sl4 sl5 sl6 sl7 sl8 sl9 sl10 sl11 sl12 sl13 sl14 sl15 sl16 sl17 : Array (Option Value)} {oc1 kV1 dc1 pm1 cd1 ct1 oc2 kV2 dc2 pm2 cd2 ct2 oc3 kV3 dc3 pm3 cd3 ct3 oc4 kV4 dc4 pm4 cd4 ct4 oc5 kV5 dc5 pm5 cd5 ct5 oc6 kV6 dc6 pm6 cd6 ct6 oc7 kV7 dc7 pm7 cd7 ct7 oc8 kV8 dc8 pm8 cd8 ct8 oc9 kV9 dc9 pm9 cd9 ct9 oc10 kV10 dc10 pm10 cd10 ct10 oc11 kV11 dc11 pm11 cd11 ct11 oc12 kV12 dc12 pm12 cd12 ct12 oc13 kV13 dc13 pm13 cd13 ct13 oc14 kV14 dc14 pm14 cd14 ct14 oc15 kV15 dc15 pm15 cd15 ct15 oc16 kV16 dc16 pm16 cd16 ct16 oc17 kV17 dc17 pm17 cd17 ct17 : Value}
    {C1 C2 C3 C4 : Addr}
    {xnm2 xq2 : Str} {xN2 xf2 : Addr} {xbs2 xbm2 : List Value} {xsn2 : List Str} {xsub2 : List Value} {xab2 : Bool} {xcol2 : Option Bool} {xdd2 : Option Addr} {xm0_2 xm1_2 xm2_2 xm3_2 xm5_2 : Option Value} {xod2 xan2 : Option Addr} {xsl2 : Array (Option Value)} {xoc2 xkV2 xdc2 xpm2 xcd2 xct2 : Value}
    {gt1 gt2 gt3 gt4 gt5 : Tok}
    (a1 : PySem.W.nsIn K mainGlobals "run_end" = some (some (.ref f1)))
    (l1 : K.lookup f1 = some ⟨oc1, od1, .func (PySem.W.fnOf "run_end" "run_end" (defArgs s_run_end) (defBody s_run_end) (defScope s_run_end) .none kV1 dc1 pm1 an1 cd1 ct1), sl1⟩)
    (c1 : PySem.W.codeIn K cd1 "run_end" = true)
    (k1 : PySem.W.keepIn K (.ref f1) = true)
    (a2 : PySem.W.nsIn K mainGlobals "number_token" = some (some (.ref f2)))
    (l2 : K.lookup f2 = some ⟨oc2, od2, .func (PySem.W.fnOf "number_token" "number_token" (defArgs s_number_token) (defBody s_number_token) (defScope s_number_token) .none kV2 dc2 pm2 an2 cd2 ct2), sl2⟩)
    (c2 : PySem.W.codeIn K cd2 "number_token" = true)
    (k2 : PySem.W.keepIn K (.ref f2) = true)
    (a3 : PySem.W.nsIn K mainGlobals "word_token" = some (some (.ref f3)))
    (l3 : K.lookup f3 = some ⟨oc3, od3, .func (PySem.W.fnOf "word_token" "word_token" (defArgs s_word_token) (defBody s_word_token) (defScope s_word_token) .none kV3 dc3 pm3 an3 cd3 ct3), sl3⟩)
    (c3 : PySem.W.codeIn K cd3 "word_token" = true)
    (k3 : PySem.W.keepIn K (.ref f3) = true)
    (a4 : PySem.W.nsIn K mainGlobals "token_from" = some (some (.ref f4)))
    (l4 : K.lookup f4 = some ⟨oc4, od4, .func (PySem.W.fnOf "token_from" "token_from" (defArgs s_token_from) (defBody s_token_from) (defScope s_token_from) .none kV4 dc4 pm4 an4 cd4 ct4), sl4⟩)
    (c4 : PySem.W.codeIn K cd4 "token_from" = true)
    (k4 : PySem.W.keepIn K (.ref f4) = true)
    (a5 : PySem.W.nsIn K mainGlobals "tokens_of" = some (some (.ref f5)))
    (l5 : K.lookup f5 = some ⟨oc5, od5, .func (PySem.W.fnOf "tokens_of" "tokens_of" (defArgs s_tokens_of) (defBody s_tokens_of) (defScope s_tokens_of) .none kV5 dc5 pm5 an5 cd5 ct5), sl5⟩)
    (c5 : PySem.W.codeIn K cd5 "tokens_of" = true)
    (k5 : PySem.W.keepIn K (.ref f5) = true)
    (a6 : PySem.W.nsIn K mainGlobals "_law_jug" = some (some (.ref f6)))
    (l6 : K.lookup f6 = some ⟨oc6, od6, .func (PySem.W.fnOf "_law_jug" "_law_jug" (defArgs s__law_jug) (defBody s__law_jug) (defScope s__law_jug) .none kV6 dc6 pm6 an6 cd6 ct6), sl6⟩)
    (c6 : PySem.W.codeIn K cd6 "_law_jug" = true)
    (k6 : PySem.W.keepIn K (.ref f6) = true)
    (a7 : PySem.W.nsIn K mainGlobals "_law_dip" = some (some (.ref f7)))
    (l7 : K.lookup f7 = some ⟨oc7, od7, .func (PySem.W.fnOf "_law_dip" "_law_dip" (defArgs s__law_dip) (defBody s__law_dip) (defScope s__law_dip) .none kV7 dc7 pm7 an7 cd7 ct7), sl7⟩)
    (c7 : PySem.W.codeIn K cd7 "_law_dip" = true)
    (k7 : PySem.W.keepIn K (.ref f7) = true)
    (a8 : PySem.W.nsIn K mainGlobals "_law_of" = some (some (.ref f8)))
    (l8 : K.lookup f8 = some ⟨oc8, od8, .func (PySem.W.fnOf "_law_of" "_law_of" (defArgs s__law_of) (defBody s__law_of) (defScope s__law_of) .none kV8 dc8 pm8 an8 cd8 ct8), sl8⟩)
    (c8 : PySem.W.codeIn K cd8 "_law_of" = true)
    (k8 : PySem.W.keepIn K (.ref f8) = true)
    (a9 : PySem.W.nsIn K mainGlobals "_law_equal" = some (some (.ref f9)))
    (l9 : K.lookup f9 = some ⟨oc9, od9, .func (PySem.W.fnOf "_law_equal" "_law_equal" (defArgs s__law_equal) (defBody s__law_equal) (defScope s__law_equal) .none kV9 dc9 pm9 an9 cd9 ct9), sl9⟩)
    (c9 : PySem.W.codeIn K cd9 "_law_equal" = true)
    (k9 : PySem.W.keepIn K (.ref f9) = true)
    (a10 : PySem.W.nsIn K mainGlobals "_law_due" = some (some (.ref f10)))
    (l10 : K.lookup f10 = some ⟨oc10, od10, .func (PySem.W.fnOf "_law_due" "_law_due" (defArgs s__law_due) (defBody s__law_due) (defScope s__law_due) .none kV10 dc10 pm10 an10 cd10 ct10), sl10⟩)
    (c10 : PySem.W.codeIn K cd10 "_law_due" = true)
    (k10 : PySem.W.keepIn K (.ref f10) = true)
    (a11 : PySem.W.nsIn K mainGlobals "_law_heard" = some (some (.ref f11)))
    (l11 : K.lookup f11 = some ⟨oc11, od11, .func (PySem.W.fnOf "_law_heard" "_law_heard" (defArgs s__law_heard) (defBody s__law_heard) (defScope s__law_heard) .none kV11 dc11 pm11 an11 cd11 ct11), sl11⟩)
    (c11 : PySem.W.codeIn K cd11 "_law_heard" = true)
    (k11 : PySem.W.keepIn K (.ref f11) = true)
    (a12 : PySem.W.nsIn K mainGlobals "_law_asked" = some (some (.ref f12)))
    (l12 : K.lookup f12 = some ⟨oc12, od12, .func (PySem.W.fnOf "_law_asked" "_law_asked" (defArgs s__law_asked) (defBody s__law_asked) (defScope s__law_asked) .none kV12 dc12 pm12 an12 cd12 ct12), sl12⟩)
    (c12 : PySem.W.codeIn K cd12 "_law_asked" = true)
    (k12 : PySem.W.keepIn K (.ref f12) = true)
    (a13 : PySem.W.nsIn K mainGlobals "_law_piece" = some (some (.ref f13)))
    (l13 : K.lookup f13 = some ⟨oc13, od13, .func (PySem.W.fnOf "_law_piece" "_law_piece" (defArgs s__law_piece) (defBody s__law_piece) (defScope s__law_piece) .none kV13 dc13 pm13 an13 cd13 ct13), sl13⟩)
    (c13 : PySem.W.codeIn K cd13 "_law_piece" = true)
    (k13 : PySem.W.keepIn K (.ref f13) = true)
    (a14 : PySem.W.nsIn K mainGlobals "_law_wrong" = some (some (.ref f14)))
    (l14 : K.lookup f14 = some ⟨oc14, od14, .func (PySem.W.fnOf "_law_wrong" "_law_wrong" (defArgs s__law_wrong) (defBody s__law_wrong) (defScope s__law_wrong) .none kV14 dc14 pm14 an14 cd14 ct14), sl14⟩)
    (c14 : PySem.W.codeIn K cd14 "_law_wrong" = true)
    (k14 : PySem.W.keepIn K (.ref f14) = true)
    (a15 : PySem.W.nsIn K mainGlobals "_law_text" = some (some (.ref f15)))
    (l15 : K.lookup f15 = some ⟨oc15, od15, .func (PySem.W.fnOf "_law_text" "_law_text" (defArgs s__law_text) (defBody s__law_text) (defScope s__law_text) .none kV15 dc15 pm15 an15 cd15 ct15), sl15⟩)
    (c15 : PySem.W.codeIn K cd15 "_law_text" = true)
    (k15 : PySem.W.keepIn K (.ref f15) = true)
    (a16 : PySem.W.nsIn K mainGlobals "_law_by_hand" = some (some (.ref f16)))
    (l16 : K.lookup f16 = some ⟨oc16, od16, .func (PySem.W.fnOf "_law_by_hand" "_law_by_hand" (defArgs s__law_by_hand) (defBody s__law_by_hand) (defScope s__law_by_hand) .none kV16 dc16 pm16 an16 cd16 ct16), sl16⟩)
    (c16 : PySem.W.codeIn K cd16 "_law_by_hand" = true)
    (k16 : PySem.W.keepIn K (.ref f16) = true)
    (a17 : PySem.W.nsIn K mainGlobals "law" = some (some (.ref f17)))
    (l17 : K.lookup f17 = some ⟨oc17, od17, .func (PySem.W.fnOf "law" "law" (defArgs s_law) (defBody s_law) (defScope s_law) .none kV17 dc17 pm17 an17 cd17 ct17), sl17⟩)
    (c17 : PySem.W.codeIn K cd17 "law" = true)
    (k17 : PySem.W.keepIn K (.ref f17) = true)
    (z1 : PySem.W.nsIn K mainGlobals "abs" = some none)
    (z2 : PySem.W.nsIn K mainGlobals "bool" = some none)
    (z3 : PySem.W.nsIn K mainGlobals "enumerate" = some none)
    (z4 : PySem.W.nsIn K mainGlobals "int" = some none)
    (z5 : PySem.W.nsIn K mainGlobals "isinstance" = some none)
    (z6 : PySem.W.nsIn K mainGlobals "len" = some none)
    (z7 : PySem.W.nsIn K mainGlobals "max" = some none)
    (z8 : PySem.W.nsIn K mainGlobals "range" = some none)
    (z9 : PySem.W.nsIn K mainGlobals "str" = some none)
    (z10 : PySem.W.nsIn K mainGlobals "tuple" = some none)
    (g1 : PySem.W.nsIn K mainGlobals "FIGURES" = some (some (.str "0123456789" gt1)))
    (g2 : PySem.W.nsIn K mainGlobals "LONGEST_NUMBER" = some (some (.int (14) gt2)))
    (g3 : PySem.W.nsIn K mainGlobals "LONGEST_WORD" = some (some (.int (8) gt3)))
    (g4 : PySem.W.nsIn K mainGlobals "SIGNS" = some (some (.str "*(){}:;,.=!" gt4)))
    (g5 : PySem.W.nsIn K mainGlobals "SMALL" = some (some (.str "abcdefghijklmnopqrstuvwxyz" gt5)))
    (xa1 : PySem.W.nsIn K mainGlobals "RoundsError" = some (some (.ref C1)))
    (xa2 : PySem.W.nsIn K mainGlobals "BadSource" = some (some (.ref C2)))
    (xa3 : PySem.W.nsIn K mainGlobals "BadPaper" = some (some (.ref C3)))
    (xa4 : PySem.W.nsIn K mainGlobals "BadText" = some (some (.ref C4)))
    (xb1 : PySem.W.subIn K (.ref C1) (.type "BaseException") = some true)
    (xt1 : PySem.W.typeIn K (.ref C1) = some (.type "type"))
    (xd1 : PySem.W.hasDictIn K C1 = true)
    (xm1 : PySem.W.subIn K (.ref C1) (.ref C1) = some true)
    (xb2 : PySem.W.subIn K (.ref C2) (.type "BaseException") = some true)
    (xt2 : PySem.W.typeIn K (.ref C2) = some (.type "type"))
    (xd2 : PySem.W.hasDictIn K C2 = true)
    (xm2 : PySem.W.subIn K (.ref C2) (.ref C2) = some true)
    (xl2 : K.lookup C2 = some (excClassObj xnm2 xq2 C2 xN2 xbs2 xbm2 true xsn2 xsub2 xab2 xcol2 xdd2 xm0_2 xm1_2 xm2_2 xm3_2 xm5_2 "ValueError.__new__"))
    (xv2 : PySem.HandSPX.refsVE xbm2 = true)
    (xs2 : PySem.W.findIn K (.ref C2) "__setattr__" = some (some (.builtin "object.__setattr__")))
    (xk2 : PySem.W.keepIn K (.ref C2) = true)
    (xg2 : PySem.W.findIn K (.ref C2) "__getattribute__" = some (some (.builtin "BaseException.__getattribute__")))
    (xh2 : PySem.W.findIn K (.ref C2) "__getattr__" = some none)
    (xc2 : PySem.W.findIn K (.ref C2) "__class__" = some (some (.builtin "object.__class__")))
    (xo2 : PySem.W.mroIn K C2 (.type "object") = some true)
    (xn2_line : PySem.W.findIn K (.ref C2) "line" = some none)
    (xn2_place : PySem.W.findIn K (.ref C2) "place" = some none)
    (xn2_word : PySem.W.findIn K (.ref C2) "word" = some none)
    (xi2 : PySem.W.findIn K (.ref C2) "__init__" = some (some (.ref xf2)))
    (xj2 : PySem.W.typeIn K (.ref xf2) = some (.type "function"))
    (xp2 : K.lookup xf2 = some ⟨xoc2, xod2, .func (PySem.W.fnOf "__init__" "BadSource.__init__" (defArgs i_BadSource) (defBody i_BadSource) (defScope i_BadSource) .none xkV2 xdc2 xpm2 xan2 xcd2 xct2), xsl2⟩)
    (xq2 : PySem.W.codeIn K xcd2 "BadSource.__init__" = true)
    (xr2 : PySem.W.keepIn K (.ref xf2) = true)
    (xx2_1 : PySem.W.subIn K (.ref C2) (.ref C1) = some true)
    (xx2_2 : PySem.W.subIn K (.ref C2) (.ref C2) = some true)
    (xx2_3 : PySem.W.subIn K (.ref C2) (.ref C3) = some false)
    (xx2_4 : PySem.W.subIn K (.ref C2) (.ref C4) = some false)
    (xb3 : PySem.W.subIn K (.ref C3) (.type "BaseException") = some true)
    (xt3 : PySem.W.typeIn K (.ref C3) = some (.type "type"))
    (xd3 : PySem.W.hasDictIn K C3 = true)
    (xm3 : PySem.W.subIn K (.ref C3) (.ref C3) = some true)
    (xb4 : PySem.W.subIn K (.ref C4) (.type "BaseException") = some true)
    (xt4 : PySem.W.typeIn K (.ref C4) = some (.type "type"))
    (xd4 : PySem.W.hasDictIn K C4 = true)
    (xm4 : PySem.W.subIn K (.ref C4) (.ref C4) = some true)
    (xz1 : PySem.W.specialIn K (.builtin "object.__class__") "__get__" = some (some (.builtin "getset_descriptor.__get__")))
    (xz2 : PySem.W.takesIn K (.builtin "object.__class__") = some true)
    : ∃ fd : FuncData, (∀ (s : Shared) (v : Value), BindsTo s fd ⟨[v], []⟩ [("script", v)]) ∧ ∀ base : Heap, K.In base → base.Ns mainGlobals mg → FnOk l.prog w K mg base (L2.CX l.prog w) 8 fa fd ["script"] (spLaw K) := by
  have XC1 : XC K mg "RoundsError" C1 := ⟨PySem.W.mg_of X G xa1, xb1, xt1, xd1, xm1⟩
  have XC2 : XC K mg "BadSource" C2 := ⟨PySem.W.mg_of X G xa2, xb2, xt2, xd2, xm2⟩
  have XC3 : XC K mg "BadPaper" C3 := ⟨PySem.W.mg_of X G xa3, xb3, xt3, xd3, xm3⟩
  have XC4 : XC K mg "BadText" C4 := ⟨PySem.W.mg_of X G xa4, xb4, xt4, xd4, xm4⟩
  have NO2 : ∀ f ∈ (["line", "place", "word"] : List Str), PySem.W.findIn K (.ref C2) f = some none := fun f hf => by
    rcases List.mem_cons.mp hf with rfl | hf
    · exact xn2_line
    rcases List.mem_cons.mp hf with rfl | hf
    · exact xn2_place
    rcases List.mem_cons.mp hf with rfl | hf
    · exact xn2_word
    cases hf
  have TB1 : Tab K mg "RoundsError" tab_RoundsError := ⟨C1, XC1, fun n b hb => by
    rcases List.mem_cons.mp hb with e | hb
    · cases e; exact ⟨C2, XC2.g, xx2_1⟩
    cases hb⟩
  have TB2 : Tab K mg "BadSource" tab_BadSource := ⟨C2, XC2, fun n b hb => by
    rcases List.mem_cons.mp hb with e | hb
    · cases e; exact ⟨C2, XC2.g, xx2_2⟩
    cases hb⟩
  have TB3 : Tab K mg "BadPaper" tab_BadPaper := ⟨C3, XC3, fun n b hb => by
    rcases List.mem_cons.mp hb with e | hb
    · cases e; exact ⟨C2, XC2.g, xx2_3⟩
    cases hb⟩
  have TB4 : Tab K mg "BadText" tab_BadText := ⟨C4, XC4, fun n b hb => by
    rcases List.mem_cons.mp hb with e | hb
    · cases e; exact ⟨C2, XC2.g, xx2_4⟩
    cases hb⟩
  have T : Tops K mg := ⟨⟨_, _, PySem.W.mg_of X G a1, fun_mk (st := s_run_end) l1 c1 k1⟩, ⟨_, _, PySem.W.mg_of X G a2, fun_mk (st := s_number_token) l2 c2 k2⟩, ⟨_, _, PySem.W.mg_of X G a3, fun_mk (st := s_word_token) l3 c3 k3⟩, ⟨_, _, PySem.W.mg_of X G a4, fun_mk (st := s_token_from) l4 c4 k4⟩, ⟨_, _, PySem.W.mg_of X G a5, fun_mk (st := s_tokens_of) l5 c5 k5⟩, ⟨_, _, PySem.W.mg_of X G a6, fun_mk (st := s__law_jug) l6 c6 k6⟩, ⟨_, _, PySem.W.mg_of X G a7, fun_mk (st := s__law_dip) l7 c7 k7⟩, ⟨_, _, PySem.W.mg_of X G a8, fun_mk (st := s__law_of) l8 c8 k8⟩, ⟨_, _, PySem.W.mg_of X G a9, fun_mk (st := s__law_equal) l9 c9 k9⟩, ⟨_, _, PySem.W.mg_of X G a10, fun_mk (st := s__law_due) l10 c10 k10⟩, ⟨_, _, PySem.W.mg_of X G a11, fun_mk (st := s__law_heard) l11 c11 k11⟩, ⟨_, _, PySem.W.mg_of X G a12, fun_mk (st := s__law_asked) l12 c12 k12⟩, ⟨_, _, PySem.W.mg_of X G a13, fun_mk (st := s__law_piece) l13 c13 k13⟩, ⟨_, _, PySem.W.mg_of X G a14, fun_mk (st := s__law_wrong) l14 c14 k14⟩, ⟨_, _, PySem.W.mg_of X G a15, fun_mk (st := s__law_text) l15 c15 k15⟩, ⟨_, _, PySem.W.mg_of X G a16, fun_mk (st := s__law_by_hand) l16 c16 k16⟩, ⟨_, _, PySem.W.mg_of X G a17, fun_mk (st := s_law) l17 c17 k17⟩, PySem.W.mg_none_of X G z1, PySem.W.mg_none_of X G z2, PySem.W.mg_none_of X G z3, PySem.W.mg_none_of X G z4, PySem.W.mg_none_of X G z5, PySem.W.mg_none_of X G z6, PySem.W.mg_none_of X G z7, PySem.W.mg_none_of X G z8, PySem.W.mg_none_of X G z9, PySem.W.mg_none_of X G z10, ⟨_, PySem.W.mg_of X G g1⟩, ⟨_, PySem.W.mg_of X G g2⟩, ⟨_, PySem.W.mg_of X G g3⟩, ⟨_, PySem.W.mg_of X G g4⟩, ⟨_, PySem.W.mg_of X G g5⟩, ⟨C2, xf2, _, XC2, ⟨oexC_of xl2 xv2 xs2 xb2 xt2 xk2, xg2, xh2, xc2, xz1, xz2, xo2, NO2⟩, xi2, xj2, fun_mk (st := i_BadSource) xp2 xq2 xr2⟩, TB1, TB2, TB3, TB4⟩
  have e := hfa.symm.trans (PySem.W.mg_of X G a17)
  cases e
  refine ⟨PySem.W.fnOf "law" "law" (defArgs s_law) (defBody s_law) (defScope s_law) .none kV17 dc17 pm17 an17 cd17 ct17, fun s v => .of_eq rfl, fun base _ _ => ?_⟩
  exact law_at (cl_law (P := l.prog) (w := w) (base := base) T) hfa (fun_mk (st := s_law) l17 c17 k17) lt
end DL
set_option Elab.async false
set_option linter.all false
set_option maxRecDepth 100000
set_option maxHeartbeats 4000000
namespace DL
open PySem L2
theorem fits_true {d : D} {m : Mem} (hf : d.fit = true) (hn : d.nodes < 60000) : F__law_equal [d, d] m = .ok (.bl true) m := by
  refine run_pure rfl rfl fun K h0 hK => ?_
  simp [b__law_equal, envOf, wkRng1, in62_of (i := 60000) (by decide)]
  refine for_rule (fun i ρ M => ∃ (st : List D) (a b c e : Option D), ρ = [some d, some d, some (.ref m.length), a, b, c, e] ∧ M = m ++ [.lst (st.map twice)] ∧ D.fits st = true ∧ D.nodess st + i ≤ d.nodes) ⟨[d], _, _, _, _, rfl, rfl, by simp [D.fits, hf], by simp [D.nodess]⟩ (fun _ _ _ _ => trivial) ?_ ?_
  · rintro i x ρ M hd ⟨st, a, b, c, e, rfl, rfl, h1, h2⟩
    refine ⟨_, rfl, fun K1 n1 c1 b1 r1 => ?_⟩
    rcases List.eq_nil_or_concat st with rfl | ⟨st', y, rfl⟩
    · simp [b__law_equal_2, gLen1]
      exact r1 _ _ (hK _)
    · rw [List.concat_eq_append] at *
      rw [fits_all, List.all_append] at h1
      have hy : y.fit = true := by simpa using (Bool.and_eq_true_iff.mp h1).2
      have hst : D.fits st' = true := by rw [fits_all]; exact (Bool.and_eq_true_iff.mp h1).1
      rw [nodess_app] at h2
      have hy1 := nodes_pos y
      have hnn : D.nodess [y] = y.nodes := by simp [D.nodess]
      have nz : ¬ ((st'.length : Int) + 1 = 0) := by omega
      have pop : gPop (.ref m.length) [] (m ++ [Cell.lst (st'.map twice ++ [.tup [y, y]])]) = .ok (.tup [y, y]) (m ++ [.lst (st'.map twice)]) := by simp [gPop, lstAt]
      cases y with
      | non =>
        simp [b__law_equal_2, gLen1, lstAt, pop, nz, twice]
        exact n1 _ _ ⟨st', _, _, _, _, rfl, rfl, hst, by omega⟩
      | bl k =>
        simp [b__law_equal_2, gLen1, lstAt, pop, nz, twice]
        exact n1 _ _ ⟨st', _, _, _, _, rfl, rfl, hst, by omega⟩
      | int k =>
        simp [b__law_equal_2, gLen1, lstAt, pop, nz, twice]
        exact n1 _ _ ⟨st', _, _, _, _, rfl, rfl, hst, by omega⟩
      | str k =>
        simp [b__law_equal_2, gLen1, lstAt, pop, nz, twice]
        exact n1 _ _ ⟨st', _, _, _, _, rfl, rfl, hst, by omega⟩
      | rot ds => simp [D.fit] at hy
      | rol ds => simp [D.fit] at hy
      | ref k => simp [D.fit] at hy
      | exo _ _ _ => simp [D.fit] at hy
      | tup ds =>
        have hds : D.fits ds = true := by simpa [D.fit] using hy
        have hnd : (D.tup ds).nodes = D.nodess ds + 1 := by simp [D.nodes]
        have l1 := nodess_len ds
        have l2 := nodess_len st'
        simp [b__law_equal_2, gLen1, lstAt, pop, nz, twice]
        refine Ev.of (a := .non) (m := m ++ [.lst ((st' ++ ds).map twice)]) ?_ (n1 _ _ ⟨st' ++ ds, _, _, _, _, rfl, rfl, by rw [fits_all] at hst hds ⊢; rw [List.all_append, hst, hds]; rfl, by rw [nodess_app]; omega⟩)
        refine eGc_last [.lst (ds.map twice)] ?_ rfl (lst_bel (twice_plains (by rw [fits_all] at hst hds ⊢; rw [List.all_append, hst, hds]; rfl)))
        simp [lstAt]
        rw [eLc_pure (w := ⟨rgD 0 ds.length, none⟩) (List.range ds.length) (fun i => .int (0 + (i : Nat))) (fun _ => true) (fun i => twice ((ds[i]?).getD .non)) (by simp [in62_nat (n := ds.length) (by omega)]) rfl (by rw [szl, List.length_range]; omega) trivial ?_]
        · rw [List.filter_eq_self.mpr fun _ _ => rfl]
          simp [gExt, lstAt]
          rw [if_pos (by rw [szl]; omega)]
          simp
          exact range_get ds twice .non
        · intro i hi l
          have hi' : i < ds.length := List.mem_range.mp hi
          refine ⟨_, rfl, rfl, fun _ => ?_⟩
          have hx : ds[i]? = some (ds[i]'hi') := List.getElem?_eq_getElem hi'
          simp [b__law_equal_1, wipeR, atI_get hx, hx, twice]
  · rintro ρ M ⟨st, a, b, c, e, rfl, rfl, h1, h2⟩
    rw [show (Wk.mk (rgD 0 60000) none).ds.length = 60000 from rgD_len] at h2
    omega
theorem drop_s {t h : Nat} {m : Mem} {place : Nat} {many : Int} (tb : Tub t h m) (hp : place < 64) (hm : many ≤ 1000000) : Ev (F__law_dip [.ref t, .int (place : Nat), .int many] m) (DropP t h many m) := by
  refine run_ev rfl fun K _ hr => ?_
  have hr' : ∀ (r : Int) (m' : Mem), 0 ≤ r → (many < 2 → r = 0) → (2 ≤ many → r < many) → Tub t h m' → Off t h m m' → K.rt (.int r) m' := fun r m' a b c d e =>
    hr _ _ rfl (gc_off e d tb) ⟨r, rfl, a, b, c, by rw [← e.len, List.take_length]; exact d, by rw [← e.len, List.take_length]; exact e⟩
  by_cases h2 : many < 2
  · simp [b__law_dip, envOf, h2]
    exact hr' 0 m (Int.le_refl _) (fun _ => rfl) (fun z => by omega) tb .refl
  obtain ⟨ne, ⟨s, d, n, hc⟩, ⟨l, hl, ok⟩⟩ := tb
  have ht := get_lt' hc
  have hh := get_lt' hl
  have nz : ¬ many = 0 := by omega
  have a1 : ∀ (M : Mem) (s d n : Int), M[t]? = some (.dK (tubK s d n h)) → gIx (.ref t) (.str "stir") M = .ok (.int s) M := fun M s d n e => by unfold gIx; simp only [e]; rfl
  have a2 : ∀ (M : Mem) (s d n : Int), M[t]? = some (.dK (tubK s d n h)) → gIx (.ref t) (.str "digits") M = .ok (.int d) M := fun M s d n e => by unfold gIx; simp only [e]; rfl
  have a3 : ∀ (M : Mem) (s d n : Int), M[t]? = some (.dK (tubK s d n h)) → gIx (.ref t) (.str "turns") M = .ok (.int n) M := fun M s d n e => by unfold gIx; simp only [e]; rfl
  have a4 : ∀ (M : Mem) (s d n : Int), M[t]? = some (.dK (tubK s d n h)) → gIx (.ref t) (.str "habits") M = .ok (.ref h) M := fun M s d n e => by unfold gIx; simp only [e]; rfl
  have p1 : ∀ (M : Mem) (s d n x : Int), M[t]? = some (.dK (tubK s d n h)) → putI (.ref t) (.str "stir") (.int x) M = some (M.set t (.dK (tubK x d n h))) := fun M s d n x e => by unfold putI; simp only [e]; rw [if_pos (by show 4 < sizeLine; rw [szl]; omega)]; rfl
  have p2 : ∀ (M : Mem) (s d n x : Int), M[t]? = some (.dK (tubK s d n h)) → putI (.ref t) (.str "digits") (.int x) M = some (M.set t (.dK (tubK s x n h))) := fun M s d n x e => by unfold putI; simp only [e]; rw [if_pos (by show 4 < sizeLine; rw [szl]; omega)]; rfl
  have p3 : ∀ (M : Mem) (s d n x : Int), M[t]? = some (.dK (tubK s d n h)) → putI (.ref t) (.str "turns") (.int x) M = some (M.set t (.dK (tubK s d x h))) := fun M s d n x e => by unfold putI; simp only [e]; rw [if_pos (by show 4 < sizeLine; rw [szl]; omega)]; rfl
  -- the turn
  have c1 : (m.set t (.dK (tubK s d (n + 1) h)))[t]? = some (.dK (tubK s d (n + 1) h)) := by rw [List.getElem?_set_self ht]
  simp [b__law_dip, envOf, h2, a3 m s d n hc, p3 m s d n _ hc, a2 _ s d (n + 1) c1, a1 _ s d (n + 1) c1, a3 _ s d (n + 1) c1]
  by_cases hd : many ≤ d
  · have nb : many.natAbs < 1073741824 := by omega
    simp [hd, nz, nb, p2 _ s d (n + 1) _ c1, a2 _ s d (n + 1) c1]
    have f := fmod_lt (a := d) (b := many) (by omega)
    refine hr' _ _ f.1 (fun z => by omega) (fun _ => f.2) ⟨ne, ⟨s, _, n + 1, by rw [List.getElem?_set_self ht]⟩, ⟨l, by rw [List.getElem?_set_ne ne]; exact hl, ok⟩⟩ .set
  · have g1 : sm64 2862933555777941757 = true := rfl
    have g2 : sm64 43 = true := rfl
    generalize hX : (s * 2862933555777941757 + (n + 1) * 43 + 3).fmod 2305843009213693907 = X
    have c2 : (m.set t (.dK (tubK X d (n + 1) h)))[t]? = some (.dK (tubK X d (n + 1) h)) := by rw [List.getElem?_set_self ht]
    have d2 : (m.set t (.dK (tubK X d (n + 1) h)))[h]? = some (.dK (l.map hab)) := by rw [List.getElem?_set_ne ne]; exact hl
    have in1 : gIn true (.int (place : Nat)) (.ref h) (m.set t (.dK (tubK X d (n + 1) h))) = .ok (.bl (!(getK (l.map hab) (.inl (place : Int))).isSome)) (m.set t (.dK (tubK X d (n + 1) h))) := by
      unfold gIn; simp only [d2]; rfl
    have fb := fun a : Int => fmod_lt (a := a) (b := many) (by omega)
    cases hg : getK (l.map hab) (.inl (place : Int)) with
    | some v =>
      obtain ⟨p, hp1, hp2, rfl⟩ := hab_get hg
      have ha := (ok.lt p hp1).2
      have ix : gIx (.ref h) (.int (place : Nat)) (m.set t (.dK (tubK X d (n + 1) h))) = .ok (.tup [.int p.2.1, .int p.2.2]) (m.set t (.dK (tubK X d (n + 1) h))) := by
        unfold gIx; simp only [d2]; unfold dkIx; simp only [keyOf, Option.bind, hg]; rfl
      have tub' : Tub t h (m.set t (.dK (tubK X d (n + 1) h))) := ⟨ne, ⟨_, _, _, c2⟩, ⟨l, d2, ok⟩⟩
      have off : Off t h m (m.set t (.dK (tubK X d (n + 1) h))) := .set
      simp [hd, g1, g2, a1 _ s d (n + 1) c1, a3 _ s d (n + 1) c1, p1 _ s d (n + 1) _ c1, hX, a4 _ X d (n + 1) c2, in1, hg, ix]
      generalize p.2.1 = a at ha
      generalize p.2.2 = b
      by_cases h3 : a < 3
      · simp [h3, nz]
        obtain rfl | rfl | rfl : a = 0 ∨ a = 1 ∨ a = 2 := by omega
        · simp; exact hr' _ _ (Int.le_refl _) (fun z => by omega) (fun _ => by omega) tub' off
        · simp; exact hr' _ _ (by omega) (fun z => by omega) (fun _ => by omega) tub' off
        · simp; exact hr' _ _ (fb _).1 (fun z => by omega) (fun _ => (fb _).2) tub' off
      · simp [h3, nz, a1 _ X d (n + 1) c2]
        exact hr' _ _ (fb _).1 (fun z => by omega) (fun _ => (fb _).2) tub' off
    | none =>
      obtain ⟨k1, k2⟩ := hab_none hg
      have f := fmod_lt (a := X / 4096) (b := 17) (by omega)
      generalize hM1 : m.set t (.dK (tubK X d (n + 1) h)) = M1 at *
      have hb : (l.map hab).length < sizeLine := by rw [szl, List.length_map]; have := ok.len; omega
      have pz : ∀ a b : Int, putI (.ref h) (.int (place : Nat)) (.tup [.int a, .int b]) M1 = some (M1.set h (.dK (l.map hab ++ [(.inl (place : Int), .tup [.int a, .int b])]))) := fun a b => by
        unfold putI; simp only [d2]; rw [if_pos hb]; simp only [keyOf, Option.map]; rw [(k2 _).1]
      have hh1 : h < M1.length := get_lt' d2
      generalize hA : (X / 4096).fmod 17 = A at f
      generalize hB : X / 2147483648 = B
      have c3 : (M1.set h (.dK (l.map hab ++ [(.inl (place : Int), .tup [.int A, .int B])])))[t]? = some (.dK (tubK X d (n + 1) h)) := by rw [List.getElem?_set_ne (Ne.symm ne)]; exact c2
      have d3 : (M1.set h (.dK (l.map hab ++ [(.inl (place : Int), .tup [.int A, .int B])])))[h]? = some (.dK ((l ++ [(place, A, B)]).map hab)) := by rw [List.getElem?_set_self hh1, List.map_append]; rfl
      have ix : gIx (.ref h) (.int (place : Nat)) (M1.set h (.dK (l.map hab ++ [(.inl (place : Int), .tup [.int A, .int B])]))) = .ok (.tup [.int A, .int B]) (M1.set h (.dK (l.map hab ++ [(.inl (place : Int), .tup [.int A, .int B])]))) := by
        have q := (k2 (.tup [.int A, .int B])).2
        have d4 : (M1.set h (.dK (l.map hab ++ [(.inl (place : Int), .tup [.int A, .int B])])))[h]? = some (.dK (l.map hab ++ [(.inl (place : Int), .tup [.int A, .int B])])) := by rw [List.getElem?_set_self hh1]
        unfold gIx; simp only [d4]; unfold dkIx; simp only [keyOf, Option.bind, q]; rfl
      have ok' : HabOk (l ++ [(place, A, B)]) := by
        refine ⟨?_, fun p hp' => ?_⟩
        · rw [List.map_append]
          exact List.nodup_append.mpr ⟨ok.nd, by simp, by intro x hx y hy; rw [show y = place by simpa using hy]; rintro rfl; exact k1 hx⟩
        · rcases List.mem_append.mp hp' with z | z
          · exact ok.lt p z
          · rw [show p = (place, A, B) by simpa using z]; exact ⟨hp, f.1⟩
      have tub' : Tub t h (M1.set h (.dK (l.map hab ++ [(.inl (place : Int), .tup [.int A, .int B])]))) := ⟨ne, ⟨_, _, _, c3⟩, ⟨_, d3, ok'⟩⟩
      have off : Off t h m (M1.set h (.dK (l.map hab ++ [(.inl (place : Int), .tup [.int A, .int B])]))) := Off.trans (by rw [← hM1]; exact Off.set) Off.set'
      simp [hd, g1, g2, a1 _ s d (n + 1) c1, a3 _ s d (n + 1) c1, p1 _ s d (n + 1) _ c1, hX, hM1, a4 _ X d (n + 1) c2, in1, hg, a1 _ X d (n + 1) c2, hA, hB, pz, a4 _ X d (n + 1) c3, ix]
      have ha := f.1
      by_cases h3 : A < 3
      · simp [h3, nz]
        rcases (show A = 0 ∨ A = 1 ∨ A = 2 by omega) with e | e | e
        · subst e; simp; exact hr' _ _ (Int.le_refl _) (fun z => by omega) (fun _ => by omega) tub' off
        · subst e; simp; exact hr' _ _ (by omega) (fun z => by omega) (fun _ => by omega) tub' off
        · subst e; simp; exact hr' _ _ (fb _).1 (fun z => by omega) (fun _ => (fb _).2) tub' off
      · simp [h3, nz, a1 _ X d (n + 1) c3]
        exact hr' _ _ (fb _).1 (fun z => by omega) (fun _ => (fb _).2) tub' off
/-- an item drawn -/
theorem item_s {t h : Nat} {m : Mem} {place : Nat} {ds : List D} (tb : Tub t h m) (hp : place < 64) (h0 : ds ≠ []) (hl : ds.length ≤ 1000) (hd : D.plains ds = true) : Ev (F__law_of [.ref t, .int (place : Nat), .tup ds] m) fun d m' => d ∈ ds ∧ Tub t h m' ∧ Off t h m m' := by
  refine run_ev rfl fun K _ hr => ?_
  simp [b__law_of, envOf]
  refine (drop_s (many := (ds.length : Nat)) tb hp (by omega)).mono ?_
  rintro d m' ⟨r, rfl, h1, h2, h3, h4, h5⟩
  have hpos := List.length_pos_iff.mpr h0
  obtain ⟨n, rfl⟩ := Int.eq_ofNat_of_zero_le h1
  have hn : n < ds.length := by
    by_cases z : (2 : Int) ≤ ds.length
    · have := h3 z; omega
    · have := h2 (by omega); omega
  have hx : ds[n]? = some (ds[n]'hn) := List.getElem?_eq_getElem hn
  simp [atI_get hx]
  have hm : ds[n] ∈ ds := List.getElem_mem hn
  refine hr _ _ (D.bel_plain _ (by rw [plains_all, List.all_eq_true] at hd; exact hd _ hm)) (gc_off h5 h4 tb) ⟨hm, ?_, ?_⟩
  · rw [← h5.len, List.take_length]; exact h4
  · rw [← h5.len, List.take_length]; exact h5
theorem tub_s {ns : List Int} : Ev (F__law_jug [.rol (ns.map .int)] []) fun d m => d = .ref 0 ∧ Tub 0 1 m := by
  suffices hsuf : Ev (F__law_jug [.rol (ns.map .int)] []) fun d m => d = .ref 0 ∧ ∃ (s d : Int) (L : List D), m = [.dK (tubK s d 0 1), .dK [], .lst L] by
    refine hsuf.mono ?_
    rintro d m ⟨rfl, s, d, L, rfl⟩
    exact ⟨rfl, by decide, ⟨s, d, 0, rfl⟩, ⟨[], rfl, ⟨List.nodup_nil, (fun p hp => nomatch hp)⟩⟩⟩
  have key : ∀ K : Kt, (∀ (s d : Int) (L : List D), K.rt (.ref 0) [.dK (tubK s d 0 1), .dK [], .lst L]) → SEv (b__law_jug (envOf ["script", "jug", "cell", "size"] [.rol (ns.map .int)]) []) K := by
    intro K hr
    have e1 : eDisp (prCons (eC (.str "stir")) (eC (.int 28029)) (prCons (eC (.str "digits")) (eC (.int 0)) (prCons (eC (.str "turns")) (eC (.int 0)) (prCons (eC (.str "habits")) eDictK prNil)))) [some (.rol (ns.map .int)), none, none, none] [] = .ok (.ref 0) [.dK (tubK 28029 0 0 1), .dK []] := by
      unfold eDisp
      simp [keyOf]
      rfl
    simp [b__law_jug, envOf, e1, gSl]
    refine for_rule (w := ⟨cut (ns.map D.int) none (some 52), some (2, cut (ns.map D.int) none (some 52))⟩) (fun i ρ M => (∃ a b, ρ = [some (.rol (ns.map .int)), some (.ref 0), a, b]) ∧ ∃ s d, M = [.dK (tubK s d 0 1), .dK [], .lst (cut (ns.map D.int) none (some 52))]) ⟨⟨_, _, rfl⟩, _, _, rfl⟩ ?_ ?_ ?_
    · rintro i ρ M ⟨_, s, d, rfl⟩; rfl
    · rintro i x ρ M hd ⟨⟨a, b, rfl⟩, s, d, rfl⟩
      rw [cut_ints] at hd
      obtain ⟨c, hc, rfl⟩ := map_get hd
      refine ⟨_, rfl, fun K1 n1 c1 b1 r1 => ?_⟩
      generalize hL : cut (ns.map D.int) none (some 52) = L at *
      have t0 : ∀ s d : Int, [Cell.dK (tubK s d 0 1), .dK [], .lst L][0]? = some (.dK (tubK s d 0 1)) := fun s d => rfl
      obtain ⟨Z, hZ⟩ : ∃ Z : Int, eBin gMod (eArgs (on1 gAbs) (aCons (eArgs (on1 gInt) (aCons (eVar 2) aNil)) aNil)) (eBin gShl (eC (.int 1)) (eC (.int 1200))) [some (.rol (ns.map .int)), some (.ref 0), some (.int c), b] [.dK (tubK s d 0 1), .dK [], .lst L] = .ok (.int Z) [.dK (tubK s d 0 1), .dK [], .lst L] := by
        have e1 : eBin gShl (eC (.int 1)) (eC (.int 1200)) [some (.rol (ns.map .int)), some (.ref 0), some (.int c), b] [.dK (tubK s d 0 1), .dK [], .lst L] = .ok (.int (1 * 2 ^ (1200 : Int).toNat)) [.dK (tubK s d 0 1), .dK [], .lst L] := by
          rw [eBin_ap, eC_ap, bind_ok, eC_ap, bind_ok, gShl_int, if_pos (by decide)]
        obtain ⟨W, e0⟩ : ∃ W : Int, eArgs (on1 gAbs) (aCons (eArgs (on1 gInt) (aCons (eVar 2) aNil)) aNil) [some (.rol (ns.map .int)), some (.ref 0), some (.int c), b] [.dK (tubK s d 0 1), .dK [], .lst L] = .ok (.int W) [.dK (tubK s d 0 1), .dK [], .lst L] := ⟨_, rfl⟩
        refine ⟨W.fmod (1 * 2 ^ (1200 : Int).toNat), ?_⟩
        rw [eBin_ap, e0, bind_ok, e1, bind_ok, gMod_int, if_pos (shl_ne _)]
      simp only [b__law_jug_1, sSeq_ap, sSet_ap, tgN_ap, List.set_cons_succ, List.set_cons_zero, hZ, so_ok, seq_next]
      have g1 : sm64 39373 = true := rfl
      simp [tget_stir (t0 s d), tput_stir (t0 s d), g1]
      generalize (s * 39373 + Z.fmod 1000000199 + 9).fmod 2305843009213693907 = s'
      by_cases hz : (10 : Int) ^ 18 ≤ Z
      · simp at hz
        simp [hz, tput_digits (t0 s' d)]
        exact n1 _ _ ⟨⟨_, _, rfl⟩, _, _, rfl⟩
      · simp at hz
        simp [show ¬ (1000000000000000000 : Int) ≤ Z by omega]
        exact n1 _ _ ⟨⟨_, _, rfl⟩, _, _, rfl⟩
    · rintro ρ M ⟨⟨a, b, rfl⟩, s, d, rfl⟩
      simp
      exact hr _ _ _
  have := key ⟨fun _ _ => False, fun _ _ => False, fun _ _ => False, fun d m => d = .ref 0 ∧ ∃ (s d : Int) (L : List D), m = [.dK (tubK s d 0 1), .dK [], .lst L]⟩ fun s d L => ⟨rfl, s, d, L, rfl⟩
  show Ev (runF _ _ _ _ _) _
  unfold runF
  rw [if_pos (show [D.rol (ns.map D.int)].length = 1 from rfl)]
  revert this
  cases b__law_jug (envOf ["script", "jug", "cell", "size"] [.rol (ns.map .int)]) [] with
  | ret d' m' =>
    rintro ⟨rfl, q⟩
    show Ev (gcD _ _ _) _
    unfold gcD
    rw [if_neg (by simp [D.bel])]
    exact ⟨rfl, q⟩
  | next ρ m' => exact fun h => h.elim
  | brk ρ m' => exact fun h => h.elim
  | cont ρ m' => exact fun h => h.elim
  | exc x ρ m' => exact fun h => h.elim
  | bad => exact fun h => h.elim
theorem any_s {t h : Nat} {m : Mem} {place : Nat} {ds : List D} (tb : Tub t h m) (hp : place < 64) (h0 : ds ≠ []) (hl : ds.length ≤ 1000) : Ev (F__law_of [.ref t, .int (place : Nat), .tup ds] m) fun d m' => d ∈ ds ∧ Tub t h m' ∧ Off t h m m' := by
  refine run_same rfl fun K hr => ?_
  simp [b__law_of, envOf]
  refine (drop_s (many := (ds.length : Nat)) tb hp (by omega)).mono ?_
  rintro d m' ⟨r, rfl, h1, h2, h3, h4, h5⟩
  have hpos := List.length_pos_iff.mpr h0
  obtain ⟨n, rfl⟩ := Int.eq_ofNat_of_zero_le h1
  have hn : n < ds.length := by
    by_cases z : (2 : Int) ≤ ds.length
    · have := h3 z; omega
    · have := h2 (by omega); omega
  have hx : ds[n]? = some (ds[n]'hn) := List.getElem?_eq_getElem hn
  simp [atI_get hx]
  exact hr _ _ h4 h5 (List.getElem_mem hn)
end DL
set_option Elab.async false
set_option linter.all false
set_option maxRecDepth 100000
set_option maxHeartbeats 1000000
namespace DL
open PySem L2
/-! ### the reading, sign by sign -/
def mkS (l : List Nat) : Str := ⟨l.toArray⟩
@[simp] theorem mkS_tl (l : List Nat) : (mkS l).cps.toList = l := by simp [mkS]
theorem mkS_len (l : List Nat) : (mkS l).length = l.length := by simp [mkS, Str.length]
def smS : Str := "abcdefghijklmnopqrstuvwxyz"
def fgS : Str := "0123456789"
def sgS : Str := "*(){}:;,.=!"
def smL : List Nat := smS.cps.toList
def fgL : List Nat := fgS.cps.toList
def sgL : List Nat := sgS.cps.toList
def run (S l : List Nat) : Nat := (l.takeWhile fun c => decide (c ∈ S)).length
def tokD (k : Str) (v : D) (n p : Nat) : D := .tup [.str k, v, .int n, .int p]
def valOf (w : List Nat) : Int := (PySem.intText? (mkS w)).getD 0
def numT (n p : Nat) (cs : List Nat) (neg : Nat) (b : List Nat) : (D × Nat) ⊕ Str :=
  if run fgL b = 0 then .inr "sign" else if 14 < neg + run fgL b then .inr "long" else if b.head? = some 48 ∧ 1 < neg + run fgL b then .inr "number" else .inl (tokD "number" (.int (valOf (cs.take (neg + run fgL b)))) n p, neg + run fgL b)
def tok1 (n p : Nat) : List Nat → (D × Nat) ⊕ Str
  | [] => .inr "sign"
  | c :: r =>
    if c ∈ smL then (if 8 < run smL (c :: r) then .inr "long" else .inl (tokD "word" (.str (mkS ((c :: r).take (run smL (c :: r))))) n p, run smL (c :: r)))
    else if c = 45 then numT n p (c :: r) 1 r
    else if c ∈ fgL then numT n p (c :: r) 0 (c :: r)
    else if c ∈ sgL then .inl (tokD "sign" (.str (mkS [c])) n p, 1)
    else .inr "sign"
def com (r : List Nat) : Nat := (r.takeWhile fun c => decide (c ≠ 10)).length
abbrev Res := List D × Option (Nat × Nat × Str)
def Res.cons (t : D) (q : Res) : Res := (t :: q.1, q.2)
def scan (n p : Nat) (cs : List Nat) : Res :=
  match cs with
  | [] => ([], none)
  | c :: r =>
    if c = 10 then scan (n + 1) 1 r
    else if c = 35 then scan n (p + 1 + com r) (r.drop (com r))
    else if c = 32 then scan n (p + 1) r
    else match tok1 n p (c :: r) with
      | .inl (t, k) => Res.cons t (scan n (p + k) (r.drop (k - 1)))
      | .inr w => ([], some (n, p, w))
termination_by cs.length
decreasing_by
  all_goals simp
  all_goals omega
theorem scan_nil {n p : Nat} : scan n p [] = ([], none) := by rw [scan]
theorem scan_nl {n p : Nat} {r : List Nat} : scan n p (10 :: r) = scan (n + 1) 1 r := by rw [scan, if_pos rfl]
theorem scan_hash {n p : Nat} {r : List Nat} : scan n p (35 :: r) = scan n (p + 1 + com r) (r.drop (com r)) := by rw [scan, if_neg (by decide), if_pos rfl]
theorem scan_sp {n p : Nat} {r : List Nat} : scan n p (32 :: r) = scan n (p + 1) r := by rw [scan, if_neg (by decide), if_neg (by decide), if_pos rfl]
theorem scan_tok {n p c : Nat} {r : List Nat} {t : D} {k : Nat} (h1 : c ≠ 10) (h2 : c ≠ 35) (h3 : c ≠ 32) (h : tok1 n p (c :: r) = .inl (t, k)) : scan n p (c :: r) = Res.cons t (scan n (p + k) (r.drop (k - 1))) := by rw [scan, if_neg h1, if_neg h2, if_neg h3, h]
theorem scan_bad {n p c : Nat} {r : List Nat} {w : Str} (h1 : c ≠ 10) (h2 : c ≠ 35) (h3 : c ≠ 32) (h : tok1 n p (c :: r) = .inr w) : scan n p (c :: r) = ([], some (n, p, w)) := by rw [scan, if_neg h1, if_neg h2, if_neg h3, h]
theorem run_le (S l : List Nat) : run S l ≤ l.length := by
  unfold run
  exact (List.takeWhile_sublist _).length_le
theorem run_nil (S : List Nat) : run S [] = 0 := rfl
theorem run_in {S r : List Nat} {c : Nat} (h : c ∈ S) : run S (c :: r) = run S r + 1 := by unfold run; rw [List.takeWhile_cons, if_pos (by simpa using h)]; rfl
theorem run_out {S r : List Nat} {c : Nat} (h : c ∉ S) : run S (c :: r) = 0 := by unfold run; rw [List.takeWhile_cons, if_neg (by simpa using h)]; rfl
theorem run_app {S R : List Nat} (h : ∀ c, R.head? = some c → c ∉ S) : ∀ l : List Nat, run S (l ++ R) = run S l
  | [] => by
    cases R with
    | nil => rfl
    | cons c R => rw [List.nil_append, run_out (h c rfl)]; rfl
  | c :: l => by
    by_cases q : c ∈ S
    · rw [List.cons_append, run_in q, run_in q, run_app h l]
    · rw [List.cons_append, run_out q, run_out q]
theorem blanks {n : Nat} {R : List Nat} : ∀ (l : List Nat) (p : Nat), scan n p (l ++ R) = scan n (p + run [32] l) (l.drop (run [32] l) ++ R)
  | [], p => by simp [run_nil]
  | c :: l, p => by
    by_cases q : c = 32
    · subst q
      rw [List.cons_append, scan_sp, blanks l (p + 1), run_in (by simp), List.drop_succ_cons, show p + 1 + run [32] l = p + (run [32] l + 1) by omega]
    · rw [run_out (by simpa using q)]; simp
theorem run_stop {S l : List Nat} {c : Nat} (h : (l.drop (run S l)).head? = some c) : c ∉ S := by
  induction l with
  | nil => simp [run_nil] at h
  | cons a l ih =>
    by_cases q : a ∈ S
    · rw [run_in q, List.drop_succ_cons] at h; exact ih h
    · rw [run_out q] at h
      have : a = c := by simpa using h
      rw [← this]; exact q
/-- what stands behind a line -/
def Stop (R : List Nat) : Prop := R = [] ∨ ∃ X, R = 10 :: X
theorem Stop.head {R : List Nat} (h : Stop R) {c : Nat} (e : R.head? = some c) : c = 10 := by
  rcases h with rfl | ⟨X, rfl⟩
  · cases e
  · simpa using e.symm
theorem nl_sm : (10 : Nat) ∉ smL := by decide +kernel
theorem nl_fg : (10 : Nat) ∉ fgL := by decide +kernel
theorem run_sm {R : List Nat} (h : Stop R) (l : List Nat) : run smL (l ++ R) = run smL l := run_app (fun c e => by rw [h.head e]; exact nl_sm) l
theorem run_fg {R : List Nat} (h : Stop R) (l : List Nat) : run fgL (l ++ R) = run fgL l := run_app (fun c e => by rw [h.head e]; exact nl_fg) l
theorem numT_app {n p neg : Nat} {cs b R : List Nat} (h : Stop R) (hb : neg + b.length = cs.length) : numT n p (cs ++ R) neg (b ++ R) = numT n p cs neg b := by
  unfold numT
  rw [run_fg h]
  by_cases z : run fgL b = 0
  · rw [if_pos z, if_pos z]
  · have hr := run_le fgL b
    have hne : b ≠ [] := fun e => z (by rw [e]; rfl)
    have e1 : (b ++ R).head? = b.head? := by cases b with
      | nil => exact absurd rfl hne
      | cons x b => rfl
    rw [e1, List.take_append_of_le_length (by omega)]
theorem tok1_app {n p : Nat} {l R : List Nat} (h : Stop R) (hl : l ≠ []) : tok1 n p (l ++ R) = tok1 n p l := by
  cases l with
  | nil => exact absurd rfl hl
  | cons c r =>
    have e1 := run_sm h (c :: r)
    have e2 := numT_app (n := n) (p := p) (neg := 1) (cs := c :: r) (b := r) h (by simp; omega)
    have e3 := numT_app (n := n) (p := p) (neg := 0) (cs := c :: r) (b := c :: r) h (by simp)
    have hr := run_le smL (c :: r)
    have e4 : ((c :: r) ++ R).take (run smL (c :: r)) = (c :: r).take (run smL (c :: r)) := List.take_append_of_le_length hr
    simp only [List.cons_append] at e1 e2 e3 e4 ⊢
    simp only [tok1, e1, e2, e3, e4]
theorem numT_size {n p neg k : Nat} {cs b : List Nat} {t : D} (h : numT n p cs neg b = .inl (t, k)) : k = neg + run fgL b ∧ run fgL b ≠ 0 := by
  unfold numT at h
  split at h
  · cases h
  · rename_i z
    split at h
    · cases h
    · split at h
      · cases h
      · cases h; exact ⟨rfl, z⟩
theorem tok1_size {n p k c : Nat} {r : List Nat} {t : D} (h : tok1 n p (c :: r) = .inl (t, k)) : 1 ≤ k ∧ k ≤ r.length + 1 := by
  simp only [tok1] at h
  split at h
  · rename_i q
    split at h
    · cases h
    · cases h
      have := run_le smL (c :: r)
      rw [run_in q] at this ⊢
      simp at this
      omega
  · split at h
    · obtain ⟨a, b⟩ := numT_size h
      have := run_le fgL r
      omega
    · split at h
      · rename_i q
        obtain ⟨a, b⟩ := numT_size h
        have := run_le fgL (c :: r)
        simp at this
        omega
      · split at h
        · cases h; omega
        · cases h
def tailS (n : Nat) : List Nat → Res | [] => ([], none) | _ :: X => scan (n + 1) 1 X
theorem scan_stop {n p : Nat} {R : List Nat} (h : Stop R) : scan n p R = tailS n R := by
  rcases h with rfl | ⟨X, rfl⟩
  · rw [scan_nil]; rfl
  · rw [scan_nl]; rfl
theorem com_all {r R : List Nat} (h : Stop R) (hr : (10 : Nat) ∉ r) : com (r ++ R) = r.length := by
  induction r with
  | nil =>
    rcases h with rfl | ⟨X, rfl⟩
    · rfl
    · simp [com]
  | cons c r ih =>
    have hc : c ≠ 10 := fun e => hr (by rw [e]; exact List.mem_cons_self)
    have := ih fun z => hr (List.mem_cons_of_mem _ z)
    unfold com at this ⊢
    rw [List.cons_append, List.takeWhile_cons, if_pos (by simpa using hc), List.length_cons, this]; rfl
theorem scan_remark {n p : Nat} {r R : List Nat} (h : Stop R) (hr : (10 : Nat) ∉ r) : scan n p (35 :: r ++ R) = tailS n R := by
  rw [List.cons_append, scan_hash, com_all h hr, List.drop_left, scan_stop h]
def restR : List (List Nat) → List Nat | [] => [] | l :: r => 10 :: (l ++ restR r)
theorem restR_stop : ∀ ls : List (List Nat), Stop (restR ls)
  | [] => .inl rfl
  | l :: r => .inr ⟨_, rfl⟩
theorem pre_ten {c : Nat} {r : List Nat} : TL.pre [10] (c :: r) = decide (c = 10) := by
  show ((c :: r).take 1 == [10]) = _
  by_cases h : c = 10
  · subst h; rfl
  · rw [decide_eq_false h]
    simp [h]
theorem spl_rest : ∀ (L acc : List Nat), restR (TL.spl [10] 0 acc L) = 10 :: (acc ++ L)
  | [], acc => by rw [TL.spl_nil]; simp [restR]
  | c :: r, acc => by
    by_cases h : c = 10
    · subst h
      rw [TL.spl_hit (by rw [pre_ten]; rfl)]
      show 10 :: (acc ++ restR (TL.spl [10] 0 [] r)) = _
      rw [spl_rest r []]; rfl
    · rw [TL.spl_miss (by rw [pre_ten]; exact decide_eq_false h), spl_rest r (acc ++ [c])]
      simp
theorem spl_no : ∀ (L acc : List Nat), (10 : Nat) ∉ acc → ∀ l ∈ TL.spl [10] 0 acc L, (10 : Nat) ∉ l
  | [], acc, h, l, hl => by
    rw [TL.spl_nil] at hl
    rw [show l = acc by simpa using hl]; exact h
  | c :: r, acc, h, l, hl => by
    by_cases e : c = 10
    · subst e
      rw [TL.spl_hit (by rw [pre_ten]; rfl)] at hl
      rcases List.mem_cons.mp hl with q | q
      · rw [q]; exact h
      · exact spl_no r [] (by simp) l q
    · rw [TL.spl_miss (by rw [pre_ten]; exact decide_eq_false e)] at hl
      exact spl_no r (acc ++ [c]) (by simp [h]; exact fun z => e z.symm) l hl
end DL
set_option Elab.async false
set_option linter.all false
set_option maxRecDepth 100000
set_option maxHeartbeats 1000000
namespace DL
open PySem L2
theorem XSEv.s {o : SO} {K : Kt} (h : XSEv (fun _ _ => False) o K) : SEv o K := by cases o <;> exact h
/-- a def that raises x, with leavings -/
theorem run_excJ {N : List Str} {n : Nat} {g : SFn} {ds : List D} {m : Mem} {x : Exn} (hl : ds.length = n) (hh : ∀ (E : Exn → Mem → Prop) (K : Kt), (∀ j, E x (m ++ j)) → XSEv E (g (envOf N ds) m) K) : ∃ j, runF N n g ds m = .exc x (m ++ j) := by
  have h := hh (fun x' m' => x' = x ∧ ∃ j, m' = m ++ j) ⟨fun _ _ => False, fun _ _ => False, fun _ _ => False, fun _ _ => False⟩ fun j => ⟨rfl, j, rfl⟩
  unfold runF
  rw [if_pos hl]
  revert h
  cases g (envOf N ds) m with
  | ret d' m' => exact fun h => h.elim
  | next ρ m' => exact fun h => h.elim
  | brk ρ m' => exact fun h => h.elim
  | cont ρ m' => exact fun h => h.elim
  | exc x' ρ m' => rintro ⟨rfl, j, rfl⟩; exact ⟨j, rfl⟩
  | bad => exact fun h => h.elim
theorem slen (x : Str) : x.cps.toList.length = x.length := Array.length_toList
theorem in_chr (neg : Bool) (c : Nat) (z : Str) (m : Mem) : gIn neg (.str ⟨#[c]⟩) (.str z) m = .ok (.bl (negB neg (decide (c ∈ z.cps.toList)))) m := by
  show Out.ok (D.bl (negB neg (!(Builtin.Str.occurrences z ⟨#[c]⟩ 0 z.length 1).isEmpty))) m = _
  rw [StrLaws.found_one]
theorem ix_chr {x : Str} {e c : Nat} {m : Mem} (h : x.cps.toList[e]? = some c) : gIx (.str x) (.int (e : Nat)) m = .ok (.str ⟨#[c]⟩) m := by
  show ofO ((atI x.cps.toList (e : Nat)).map fun c => D.str ⟨#[c]⟩) m = _
  rw [atI_get h]; rfl
theorem chr_eq {c : Nat} {s : Str} {k : Nat} (h : s = ⟨#[k]⟩) : decide ((⟨#[c]⟩ : Str) = s) = decide (c = k) := by
  subst h
  simp
theorem drop_get {α : Type} {l : List α} {e : Nat} {c : α} (h : l[e]? = some c) : l.drop e = c :: l.drop (e + 1) := by
  have hi := get_lt' h
  rw [List.drop_eq_getElem_cons hi]
  rw [List.getElem?_eq_getElem hi] at h
  rw [Option.some.inj h]
theorem cutS_at {x : Str} {a b : Nat} (h1 : a ≤ b) (h2 : b ≤ x.length) : cutS x (some (a : Int)) (some (b : Int)) = mkS ((x.cps.toList.drop a).take (b - a)) := by
  unfold cutS
  rw [HT.sIx_nat, HT.sIx_nat, Nat.min_eq_left (show a ≤ x.length by omega), Nat.min_eq_left h2]; rfl
theorem run_end_s {x z : Str} {a : Nat} {m : Mem} (h : a ≤ x.length) : F_run_end [.str x, .int (a : Nat), .str z] m = .ok (.int ((a + run z.cps.toList (x.cps.toList.drop a) : Nat) : Int)) m := by
  refine run_pure rfl rfl fun K h0 hK => ?_
  simp [b_run_end, envOf]
  refine while_rule (n := x.length - a) (fun n ρ M => ∃ j : Nat, ρ = [some (.str x), some (.int (a : Nat)), some (.str z), some (.int ((a + j : Nat) : Int))] ∧ M = m ∧ a + j ≤ x.length ∧ n = x.length - (a + j) ∧ run z.cps.toList (x.cps.toList.drop a) = j + run z.cps.toList (x.cps.toList.drop (a + j))) ⟨0, by simp, rfl, by omega, rfl, by simp⟩ ?_
  rintro n ρ M ⟨j, rfl, rfl, hj, rfl, hr⟩
  by_cases hl : a + j < x.length
  · have hx : x.cps.toList[a + j]? = some (x.cps.toList[a + j]'(by rw [slen]; exact hl)) := List.getElem?_eq_getElem _
    generalize x.cps.toList[a + j]'(by rw [slen]; exact hl) = c at hx
    have e1 := ix_chr (m := M) hx
    have hl' : ((a + j : Nat) : Int) < (x.length : Int) := by omega
    rw [drop_get hx] at hr
    simp only [tAndF_ap, eTst_ap, eBin_ap, eVar_ap, eArgs_ap, aCons_ap, aNil_ap, on1_ap, List.getElem?_cons_succ, List.getElem?_cons_zero, bind_ok, gLen_str, gLtA_int, decide_eq_true hl', if_true, e1, in_chr, negB, ev_ok]
    by_cases q : c ∈ z.cps.toList
    · rw [run_in q] at hr
      have qd : (if false = true then !decide (c ∈ z.cps.toList) else decide (c ∈ z.cps.toList)) = true := by simp [q]
      simp only [qd, if_true]
      intro K1 n1 c1 b1 r1
      simp [b_run_end_1]
      refine n1 (x.length - (a + (j + 1))) _ _ (by omega) ⟨j + 1, ?_, rfl, by omega, rfl, ?_⟩
      · rw [show ((a : Int) + (j : Int) + 1) = ((a + (j + 1) : Nat) : Int) by omega]
      · rw [hr, show a + j + 1 = a + (j + 1) by omega]; omega
    · rw [run_out q] at hr
      have qd : (if false = true then !decide (c ∈ z.cps.toList) else decide (c ∈ z.cps.toList)) = false := by simp [q]
      simp only [qd]
      rw [if_neg (by simp)]
      simp
      rw [hr] at h0
      simpa using h0
  · have hl' : ¬ ((a + j : Nat) : Int) < (x.length : Int) := by omega
    have e2 : x.cps.toList.drop (a + j) = [] := List.drop_eq_nil_of_le (by rw [slen]; omega)
    rw [e2, run_nil] at hr
    rw [hr] at h0
    simp [hl']
    have hl2 : ¬ ((a : Int) + (j : Int) < (x.length : Int)) := by omega
    simp [hl2]
    simpa using h0
end DL
set_option Elab.async false
set_option linter.all false
set_option maxRecDepth 100000
set_option maxHeartbeats 1000000
namespace DL
open PySem L2
noncomputable def c_number_token_6 : SFn := (sRet (eArgs mkTup (aCons (eArgs mkTup (aCons (eC (.str "number")) (aCons (eGc (eArgs (on1 gInt) (aCons (eSl (eVar 1) (oSome (eVar 2)) (oSome (eVar 4))) aNil))) (aCons (eVar 0) (aCons (eBin gAdd (eVar 2) (eC (.int 1))) aNil))))) (aCons (eVar 4) aNil))))
noncomputable def c_number_token_5 : SFn := sSeq (sIf (tAndF (eTst (eBin gEq (eBin gIx (eVar 1) (eVar 3)) (eC (.str "0")))) (eTst (eBin gGt (eBin gSub (eVar 4) (eVar 2)) (eC (.int 1))))) (sRaise "BadSource" ["line", "place", "word"] (aCons (eVar 0) (aCons (eBin gAdd (eVar 2) (eC (.int 1))) (aCons (eC (.str "number")) aNil)))) sSkip) c_number_token_6
noncomputable def c_number_token_4 : SFn := sSeq (sIf (eTst (eBin gGt (eBin gSub (eVar 4) (eVar 2)) (eC (.int 14)))) (sRaise "BadSource" ["line", "place", "word"] (aCons (eVar 0) (aCons (eBin gAdd (eVar 2) (eC (.int 1))) (aCons (eC (.str "long")) aNil)))) sSkip) c_number_token_5
noncomputable def c_number_token_3 : SFn := sSeq (sIf (eTst (eBin gEq (eVar 4) (eVar 3))) (sRaise "BadSource" ["line", "place", "word"] (aCons (eVar 0) (aCons (eBin gAdd (eVar 2) (eC (.int 1))) (aCons (eC (.str "sign")) aNil)))) sSkip) c_number_token_4
noncomputable def c_number_token_2 : SFn := sSeq (sSet 4 (eArgs F_run_end (aCons (eVar 1) (aCons (eVar 3) (aCons (eC (.str "0123456789")) aNil))))) c_number_token_3
noncomputable def c_number_token_1 : SFn := sSeq (sSet 3 (eIf (eTst (eBin gEq (eBin gIx (eVar 1) (eVar 2)) (eC (.str "-")))) (eBin gAdd (eVar 2) (eC (.int 1))) (eVar 2))) c_number_token_2
theorem chain_number_token : b_number_token = c_number_token_1 := rfl
def badQ (n p : Nat) (w : Str) : Exn := ⟨"BadSource", [("word", .str w), ("place", .int p), ("line", .int n)]⟩
theorem take_run (S : List Nat) : ∀ l : List Nat, ∀ c ∈ l.take (run S l), c ∈ S
  | [], c, h => by simp at h
  | d :: l, c, h => by
    by_cases q : d ∈ S
    · rw [run_in q, List.take_succ_cons] at h
      rcases List.mem_cons.mp h with e | h
      · rw [e]; exact q
      · exact take_run S l c h
    · rw [run_out q] at h; simp at h
theorem fg_rng : ∀ c ∈ fgL, 48 ≤ c ∧ c ≤ 57 := by decide +kernel
/-- the piece is a number's text -/
theorem piece_num {cs b : List Nat} {neg : Nat} (hb : (neg = 0 ∧ b = cs) ∨ (neg = 1 ∧ cs = 45 :: b)) (h0 : run fgL b ≠ 0) (h1 : neg + run fgL b ≤ 4300) : PySem.intText? (mkS (cs.take (neg + run fgL b))) = some (valOf (cs.take (neg + run fgL b))) := by
  have hr := run_le fgL b
  have hd : PySem.NumText.AllDigits (b.take (run fgL b)) := fun c hc => fg_rng c (take_run _ _ c hc)
  have hne : b.take (run fgL b) ≠ [] := fun e => by
    have := congrArg List.length e
    rw [List.length_take, Nat.min_eq_left hr] at this
    exact h0 this
  have key : ∃ v, PySem.intText? (mkS (cs.take (neg + run fgL b))) = some v := by
    rcases hb with ⟨rfl, rfl⟩ | ⟨rfl, rfl⟩
    · rw [Nat.zero_add]
      refine ⟨_, PySem.intText_digits (by rw [mkS_tl]; exact hd) (by rw [mkS_tl]; exact hne) ?_⟩
      rw [mkS_len, List.length_take]; omega
    · refine ⟨_, PySem.intText_neg (cs := b.take (run fgL b)) (by rw [mkS_tl, Nat.add_comm, List.take_succ_cons]) hd hne ?_⟩
      rw [mkS_len, List.length_take]; omega
  obtain ⟨v, hv⟩ := key
  unfold valOf
  rw [hv]; rfl
theorem number_tail {x : Str} {a n neg : Nat} {m : Mem} {E : Exn → Mem → Prop} {K : Kt} (hl : a + neg ≤ x.length) (hb : (neg = 0) ∨ (neg = 1 ∧ x.cps.toList.drop a = 45 :: x.cps.toList.drop (a + 1)))
    (h0 : ∀ t k, numT n (a + 1) (x.cps.toList.drop a) neg (x.cps.toList.drop (a + neg)) = .inl (t, k) → K.rt (.tup [t, .int ((a + k : Nat) : Int)]) m)
    (h1 : ∀ w, numT n (a + 1) (x.cps.toList.drop a) neg (x.cps.toList.drop (a + neg)) = .inr w → E (badQ n (a + 1) w) m) :
    XSEv E (c_number_token_2 [some (.int (n : Nat)), some (.str x), some (.int (a : Nat)), some (.int ((a + neg : Nat) : Int)), none] m) K := by
  have hb2 : (neg = 0 ∧ x.cps.toList.drop (a + neg) = x.cps.toList.drop a) ∨ (neg = 1 ∧ x.cps.toList.drop a = 45 :: x.cps.toList.drop (a + neg)) := by
    rcases hb with rfl | ⟨rfl, h⟩
    · exact .inl ⟨rfl, rfl⟩
    · exact .inr ⟨rfl, h⟩
  have e1 := run_end_s (x := x) (z := fgS) (m := m) hl
  rw [show fgS.cps.toList = fgL from rfl] at e1
  have hr := run_le fgL (x.cps.toList.drop (a + neg))
  rw [List.length_drop, slen] at hr
  have pn := piece_num hb2
  have hh : run fgL (x.cps.toList.drop (a + neg)) ≠ 0 → ∃ c, x.cps.toList[a + neg]? = some c ∧ (x.cps.toList.drop (a + neg)).head? = some c := fun z => by
    have hlt : a + neg < x.cps.toList.length := by rw [slen]; omega
    refine ⟨_, List.getElem?_eq_getElem hlt, ?_⟩
    rw [List.drop_eq_getElem_cons hlt]; rfl
  have ec : ((a : Int) + 1) = ((a + 1 : Nat) : Int) := by omega
  unfold numT at h0 h1
  generalize run fgL (x.cps.toList.drop (a + neg)) = k at *
  unfold c_number_token_2
  simp only [sSeq_ap, sSet_ap, eArgs_ap, aCons_ap, aNil_ap, eVar_ap, eC_ap, List.getElem?_cons_succ, List.getElem?_cons_zero, bind_ok]
  rw [show (Str.ofString "0123456789") = fgS from rfl, e1]
  simp only [so_ok, seq_next, List.set_cons_succ, List.set_cons_zero]
  unfold c_number_token_3
  by_cases z : k = 0
  · subst z
    rw [if_pos rfl] at h1
    have := h1 _ rfl
    simp only [badQ] at this
    simp
    rw [ec]
    exact this
  · rw [if_neg z] at h0 h1
    have z1 : ¬ ((a + neg + k : Nat) : Int) = ((a + neg : Nat) : Int) := by omega
    simp only [sSeq_ap, sIf_ap, eTst_ap, eBin_ap, eVar_ap, List.getElem?_cons_succ, List.getElem?_cons_zero, bind_ok, gEq_int, Bool.false_eq_true, if_false, decide_eq_false z1, so_ok, sSkip_ap, seq_next]
    unfold c_number_token_4
    by_cases y : 14 < neg + k
    · rw [if_pos y] at h1
      have := h1 _ rfl
      simp only [badQ] at this
      have y1 : (14 : Int) < ((a + neg + k : Nat) : Int) - (a : Nat) := by omega
      simp only [sSeq_ap, sIf_ap, eTst_ap, eBin_ap, eVar_ap, eC_ap, List.getElem?_cons_succ, List.getElem?_cons_zero, bind_ok, gSub_int, gGt_int, decide_eq_true y1, if_true, so_ok]
      simp
      rw [ec]
      exact this
    · rw [if_neg y] at h0 h1
      have y1 : ¬ (14 : Int) < ((a + neg + k : Nat) : Int) - (a : Nat) := by omega
      simp only [sSeq_ap, sIf_ap, eTst_ap, eBin_ap, eVar_ap, eC_ap, List.getElem?_cons_succ, List.getElem?_cons_zero, bind_ok, gSub_int, gGt_int, decide_eq_false y1, Bool.false_eq_true, if_false, so_ok, sSkip_ap, seq_next]
      obtain ⟨c, hc1, hc2⟩ := hh z
      rw [hc2] at h0 h1
      have ei := ix_chr (m := m) hc1
      unfold c_number_token_5
      by_cases v : c = 48 ∧ 1 < neg + k
      · rw [if_pos ⟨by rw [v.1], v.2⟩] at h1
        have := h1 _ rfl
        simp only [badQ] at this
        have v1 : (1 : Int) < ((a + neg + k : Nat) : Int) - (a : Nat) := by omega
        have v2 : decide ((⟨#[c]⟩ : Str) = Str.ofString "0") = true := by rw [chr_eq (s := Str.ofString "0") (k := 48) rfl]; simpa using v.1
        simp only [sSeq_ap, sIf_ap, tAndF_ap, eTst_ap, eBin_ap, eVar_ap, eC_ap, List.getElem?_cons_succ, List.getElem?_cons_zero, bind_ok, ei, gEq_str, Bool.false_eq_true, if_false, v2, if_true, gSub_int, gGt_int, decide_eq_true v1, so_ok]
        simp
        rw [ec]
        exact this
      · have v' : ¬ (some c = some 48 ∧ 1 < neg + k) := fun q => v ⟨by simpa using q.1, q.2⟩
        rw [if_neg v'] at h0
        have := h0 _ _ rfl
        have pk := pn z (by omega)
        have cs := cutS_at (x := x) (a := a) (b := a + neg + k) (by omega) (by omega)
        rw [show a + neg + k - a = neg + k by omega] at cs
        have gi : eGc (eArgs (on1 gInt) (aCons (eSl (eVar 1) (oSome (eVar 2)) (oSome (eVar 4))) aNil)) [some (.int (n : Nat)), some (.str x), some (.int (a : Nat)), some (.int ((a + neg : Nat) : Int)), some (.int ((a + neg + k : Nat) : Int))] m = .ok (.int (valOf ((x.cps.toList.drop a).take (neg + k)))) m := by
          refine eGc_pure (j := []) ?_ (by simp [D.bel])
          simp only [eArgs_ap, aCons_ap, aNil_ap, eSl_ap, oSome_ap, eVar_ap, List.getElem?_cons_succ, List.getElem?_cons_zero, bind_ok, on1_ap]
          show gInt (.str (cutS x (some (a : Int)) (some ((a + neg + k : Nat) : Int)))) m = _
          rw [cs]
          unfold gInt
          simp only
          rw [if_pos (by rw [mkS_len, List.length_take]; omega), pk, List.append_nil]
        have fin : XSEv E ((sRet (eArgs mkTup (aCons (eArgs mkTup (aCons (eC (.str "number")) (aCons (eGc (eArgs (on1 gInt) (aCons (eSl (eVar 1) (oSome (eVar 2)) (oSome (eVar 4))) aNil))) (aCons (eVar 0) (aCons (eBin gAdd (eVar 2) (eC (.int 1))) aNil))))) (aCons (eVar 4) aNil)))) [some (.int (n : Nat)), some (.str x), some (.int (a : Nat)), some (.int ((a + neg : Nat) : Int)), some (.int ((a + neg + k : Nat) : Int))] m) K := by
          simp only [sRet_ap, eArgs_ap, aCons_ap, aNil_ap, eC_ap, gi, bind_ok, eVar_ap, List.getElem?_cons_succ, List.getElem?_cons_zero, eBin_ap, gAdd_int, mkTup_cons, List.length_nil, List.length_cons]
          rw [if_pos (by decide), bind_ok, bind_ok, mkTup_small (by simp), so_ok, xsev_ret]
          rw [show a + neg + k = a + (neg + k) by omega, ec]
          exact this
        by_cases v1 : (1 : Int) < ((a + neg + k : Nat) : Int) - (a : Nat)
        · have v0 : c ≠ 48 := fun q => v ⟨q, by omega⟩
          have v2 : decide ((⟨#[c]⟩ : Str) = Str.ofString "0") = false := by rw [chr_eq (s := Str.ofString "0") (k := 48) rfl]; simpa using v0
          simp only [sSeq_ap, sIf_ap, tAndF_ap, eTst_ap, eBin_ap, eVar_ap, eC_ap, List.getElem?_cons_succ, List.getElem?_cons_zero, bind_ok, ei, gEq_str, Bool.false_eq_true, if_false, v2, so_ok, sSkip_ap, seq_next]
          exact fin
        · simp only [sSeq_ap, sIf_ap, tAndF_ap, eTst_ap, eBin_ap, eVar_ap, eC_ap, List.getElem?_cons_succ, List.getElem?_cons_zero, bind_ok, ei, gEq_str, Bool.false_eq_true, if_false, gSub_int, gGt_int, decide_eq_false v1]
          cases decide ((⟨#[c]⟩ : Str) = Str.ofString "0") with
          | true =>
            simp only [if_true, so_ok, Bool.false_eq_true, if_false, sSkip_ap, seq_next]
            exact fin
          | false =>
            simp only [so_ok, Bool.false_eq_true, if_false, sSkip_ap, seq_next]
            exact fin
theorem word_xs {x : Str} {a n : Nat} {m : Mem} {E : Exn → Mem → Prop} {K : Kt} (hl : a ≤ x.length)
    (h0 : ¬ 8 < run smL (x.cps.toList.drop a) → K.rt (.tup [tokD "word" (.str (mkS ((x.cps.toList.drop a).take (run smL (x.cps.toList.drop a))))) n (a + 1), .int ((a + run smL (x.cps.toList.drop a) : Nat) : Int)]) m)
    (h1 : 8 < run smL (x.cps.toList.drop a) → E (badQ n (a + 1) "long") m) :
    XSEv E (b_word_token [some (.int (n : Nat)), some (.str x), some (.int (a : Nat)), none] m) K := by
  have e1 := run_end_s (x := x) (z := smS) (m := m) hl
  rw [show smS.cps.toList = smL from rfl] at e1
  have hr := run_le smL (x.cps.toList.drop a)
  rw [List.length_drop, slen] at hr
  have ec : ((a : Int) + 1) = ((a + 1 : Nat) : Int) := by omega
  generalize run smL (x.cps.toList.drop a) = k at *
  unfold b_word_token
  simp only [sSeq_ap, sSet_ap, eArgs_ap, aCons_ap, aNil_ap, eVar_ap, eC_ap, List.getElem?_cons_succ, List.getElem?_cons_zero, bind_ok]
  rw [show (Str.ofString "abcdefghijklmnopqrstuvwxyz") = smS from rfl, e1]
  simp only [so_ok, seq_next, List.set_cons_succ, List.set_cons_zero]
  by_cases y : 8 < k
  · have := h1 y
    simp only [badQ] at this
    have y1 : (8 : Int) < ((a + k : Nat) : Int) - (a : Nat) := by omega
    simp only [sSeq_ap, sIf_ap, eTst_ap, eBin_ap, eVar_ap, eC_ap, List.getElem?_cons_succ, List.getElem?_cons_zero, bind_ok, gSub_int, gGt_int, decide_eq_true y1, if_true, so_ok]
    simp
    rw [ec]
    exact this
  · have := h0 y
    have y1 : ¬ (8 : Int) < ((a + k : Nat) : Int) - (a : Nat) := by omega
    simp only [sSeq_ap, sIf_ap, eTst_ap, eBin_ap, eVar_ap, eC_ap, List.getElem?_cons_succ, List.getElem?_cons_zero, bind_ok, gSub_int, gGt_int, decide_eq_false y1, Bool.false_eq_true, if_false, so_ok, sSkip_ap, seq_next]
    have cs := cutS_at (x := x) (a := a) (b := a + k) (by omega) (by omega)
    rw [show a + k - a = k by omega] at cs
    simp only [sRet_ap, eArgs_ap, aCons_ap, aNil_ap, eC_ap, eSl_ap, oSome_ap, bind_ok, eVar_ap, List.getElem?_cons_succ, List.getElem?_cons_zero, eBin_ap, gAdd_int]
    rw [show gSl (.str x) (some (a : Int)) (some ((a + k : Nat) : Int)) m = .ok (.str (cutS x (some (a : Int)) (some ((a + k : Nat) : Int)))) m from rfl, cs]
    simp only [bind_ok]
    rw [mkTup_small (by simp), bind_ok, bind_ok, mkTup_small (by simp), so_ok, xsev_ret, ec]
    exact this
theorem tokD_plain {k : Str} {v : D} {n p : Nat} (h : v.plain = true) : (tokD k v n p).plain = true := by simp [tokD, D.plain, D.plains, h]
theorem numT_plain {n p neg k : Nat} {cs b : List Nat} {t : D} (h : numT n p cs neg b = .inl (t, k)) : t.plain = true := by
  unfold numT at h
  split at h
  · cases h
  · split at h
    · cases h
    · split at h
      · cases h
      · cases h; exact tokD_plain rfl
theorem number_head {x : Str} {a n neg : Nat} {m : Mem} {E : Exn → Mem → Prop} {K : Kt} {c : Nat} (hc : x.cps.toList[a]? = some c) (hb : (neg = 0 ∧ c ≠ 45) ∨ (neg = 1 ∧ c = 45))
    (h0 : ∀ t k, numT n (a + 1) (x.cps.toList.drop a) neg (x.cps.toList.drop (a + neg)) = .inl (t, k) → K.rt (.tup [t, .int ((a + k : Nat) : Int)]) m)
    (h1 : ∀ w, numT n (a + 1) (x.cps.toList.drop a) neg (x.cps.toList.drop (a + neg)) = .inr w → E (badQ n (a + 1) w) m) :
    XSEv E (b_number_token [some (.int (n : Nat)), some (.str x), some (.int (a : Nat)), none, none] m) K := by
  have hl := get_lt' hc
  rw [slen] at hl
  have ei := ix_chr (m := m) hc
  rw [chain_number_token]
  unfold c_number_token_1
  have key := number_tail (m := m) (K := K) (E := E) (neg := neg) (a := a) (n := n) (x := x) (by omega) (by
    rcases hb with ⟨e, _⟩ | ⟨e, e2⟩
    · exact .inl e
    · exact .inr ⟨e, by rw [drop_get hc, e2]⟩) h0 h1
  have e3 : sSet 3 (eIf (eTst (eBin gEq (eBin gIx (eVar 1) (eVar 2)) (eC (.str "-")))) (eBin gAdd (eVar 2) (eC (.int 1))) (eVar 2)) [some (.int (n : Nat)), some (.str x), some (.int (a : Nat)), none, none] m = .next [some (.int (n : Nat)), some (.str x), some (.int (a : Nat)), some (.int ((a + neg : Nat) : Int)), none] m := by
    simp only [sSet_ap, eIf_ap, eTst_ap, eBin_ap, eVar_ap, eC_ap, List.getElem?_cons_succ, List.getElem?_cons_zero, bind_ok, ei, gEq_str, Bool.false_eq_true, if_false]
    rw [chr_eq (s := Str.ofString "-") (k := 45) rfl]
    rcases hb with ⟨rfl, e⟩ | ⟨rfl, e⟩
    · simp [e]
    · simp [e]
  rw [sSeq_ap, e3, seq_next]
  exact key
theorem number_ok {x : Str} {a n neg c k : Nat} {t : D} {m : Mem} (hc : x.cps.toList[a]? = some c) (hb : (neg = 0 ∧ c ≠ 45) ∨ (neg = 1 ∧ c = 45)) (h : numT n (a + 1) (x.cps.toList.drop a) neg (x.cps.toList.drop (a + neg)) = .inl (t, k)) :
    F_number_token [.int (n : Nat), .str x, .int (a : Nat)] m = .ok (.tup [t, .int ((a + k : Nat) : Int)]) m := by
  refine run_pure rfl (by simp [D.plain, D.plains, numT_plain h]) fun K h0 hK => XSEv.s (number_head hc hb (fun t' k' e => ?_) fun w e => ?_)
  · rw [h] at e; cases e; exact h0
  · rw [h] at e; cases e
theorem number_x {x : Str} {a n neg c : Nat} {w : Str} {m : Mem} (hc : x.cps.toList[a]? = some c) (hb : (neg = 0 ∧ c ≠ 45) ∨ (neg = 1 ∧ c = 45)) (h : numT n (a + 1) (x.cps.toList.drop a) neg (x.cps.toList.drop (a + neg)) = .inr w) :
    F_number_token [.int (n : Nat), .str x, .int (a : Nat)] m = .exc (badQ n (a + 1) w) m := by
  refine run_exc rfl fun E K h0 => number_head hc hb (fun t' k' e => ?_) fun w e => ?_
  · rw [h] at e; cases e
  · rw [h] at e; cases e; exact h0
theorem word_ok {x : Str} {a n : Nat} {m : Mem} (hl : a ≤ x.length) (h : ¬ 8 < run smL (x.cps.toList.drop a)) :
    F_word_token [.int (n : Nat), .str x, .int (a : Nat)] m = .ok (.tup [tokD "word" (.str (mkS ((x.cps.toList.drop a).take (run smL (x.cps.toList.drop a))))) n (a + 1), .int ((a + run smL (x.cps.toList.drop a) : Nat) : Int)]) m := by
  refine run_pure rfl (by simp [D.plain, D.plains]; exact tokD_plain rfl) fun K h0 hK => XSEv.s (word_xs hl (fun _ => h0) fun e => absurd e h)
theorem word_x {x : Str} {a n : Nat} {m : Mem} (hl : a ≤ x.length) (h : 8 < run smL (x.cps.toList.drop a)) : F_word_token [.int (n : Nat), .str x, .int (a : Nat)] m = .exc (badQ n (a + 1) "long") m := by
  refine run_exc rfl fun E K h0 => word_xs hl (fun e => absurd h e) fun _ => h0
theorem tok1_plain {n p k : Nat} {l : List Nat} {t : D} (h : tok1 n p l = .inl (t, k)) : t.plain = true := by
  cases l with
  | nil => cases h
  | cons c r =>
    simp only [tok1] at h
    split at h
    · split at h
      · cases h
      · cases h; exact tokD_plain rfl
    · split at h
      · exact numT_plain h
      · split at h
        · exact numT_plain h
        · split at h
          · cases h; exact tokD_plain rfl
          · cases h
theorem token_xs {x : Str} {a n c : Nat} {m : Mem} {E : Exn → Mem → Prop} {K : Kt} (hc : x.cps.toList[a]? = some c)
    (h0 : ∀ t k, tok1 n (a + 1) (x.cps.toList.drop a) = .inl (t, k) → K.rt (.tup [t, .int ((a + k : Nat) : Int)]) m)
    (h1 : ∀ w, tok1 n (a + 1) (x.cps.toList.drop a) = .inr w → E (badQ n (a + 1) w) m) :
    XSEv E (b_token_from [some (.int (n : Nat)), some (.str x), some (.int (a : Nat)), none] m) K := by
  have hl := get_lt' hc
  rw [slen] at hl
  have ei := ix_chr (m := m) hc
  have ec : ((a : Int) + 1) = ((a + 1 : Nat) : Int) := by omega
  have i1 : ∀ (s : Str) (S : List Nat), s.cps.toList = S → gIn false (.str ⟨#[c]⟩) (.str s) m = .ok (.bl (decide (c ∈ S))) m := fun s S e => by rw [in_chr, e]; rfl
  have i2 := i1 (Str.ofString "abcdefghijklmnopqrstuvwxyz") smL rfl
  have i3 := i1 (Str.ofString "0123456789") fgL rfl
  have i4 := i1 (Str.ofString "*(){}:;,.=!") sgL rfl
  have e5 : decide ((⟨#[c]⟩ : Str) = Str.ofString "-") = decide (c = 45) := chr_eq rfl
  have dg := drop_get hc
  rw [dg] at h0 h1
  simp only [tok1] at h0 h1
  rw [← dg] at h0 h1
  unfold b_token_from
  simp only [sSeq_ap, sSet_ap, eBin_ap, eVar_ap, List.getElem?_cons_succ, List.getElem?_cons_zero, bind_ok, ei, so_ok, seq_next, List.set_cons_succ, List.set_cons_zero, sIf_ap, eTst_ap, eC_ap, i2]
  by_cases q1 : c ∈ smL
  · rw [if_pos q1] at h0 h1
    rw [decide_eq_true q1, if_pos rfl]
    simp only [sRet_ap, eArgs_ap, aCons_ap, aNil_ap, eVar_ap, List.getElem?_cons_succ, List.getElem?_cons_zero, bind_ok]
    by_cases y : 8 < run smL (x.cps.toList.drop a)
    · rw [if_pos y] at h1
      rw [word_x (by omega) y]
      exact h1 _ rfl
    · rw [if_neg y] at h0
      rw [word_ok (by omega) y]
      exact h0 _ _ rfl
  · rw [if_neg q1] at h0 h1
    rw [decide_eq_false q1]
    simp only [Bool.false_eq_true, if_false, sSkip_ap, seq_next, sSeq_ap, sIf_ap, tOrF_ap, eTst_ap, eBin_ap, eVar_ap, eC_ap, List.getElem?_cons_succ, List.getElem?_cons_zero, bind_ok, gEq_str, e5, i3]
    by_cases q2 : c = 45
    · rw [if_pos q2] at h0 h1
      rw [decide_eq_true q2, if_pos rfl, so_ok, if_pos rfl]
      simp only [sRet_ap, eArgs_ap, aCons_ap, aNil_ap, eVar_ap, List.getElem?_cons_succ, List.getElem?_cons_zero, bind_ok]
      cases hn : numT n (a + 1) (x.cps.toList.drop a) 1 (x.cps.toList.drop (a + 1)) with
      | inl tk =>
        obtain ⟨t, k⟩ := tk
        rw [number_ok hc (.inr ⟨rfl, q2⟩) hn]
        exact h0 _ _ hn
      | inr w =>
        rw [number_x hc (.inr ⟨rfl, q2⟩) hn]
        exact h1 _ hn
    · rw [if_neg q2] at h0 h1
      rw [decide_eq_false q2]
      simp only [Bool.false_eq_true, if_false, bind_ok, i3]
      by_cases q3 : c ∈ fgL
      · rw [if_pos q3] at h0 h1
        rw [decide_eq_true q3, so_ok, if_pos rfl]
        simp only [sRet_ap, eArgs_ap, aCons_ap, aNil_ap, eVar_ap, List.getElem?_cons_succ, List.getElem?_cons_zero, bind_ok]
        cases hn : numT n (a + 1) (x.cps.toList.drop a) 0 (x.cps.toList.drop a) with
        | inl tk =>
          obtain ⟨t, k⟩ := tk
          rw [number_ok (neg := 0) hc (.inl ⟨rfl, q2⟩) hn]
          exact h0 _ _ hn
        | inr w =>
          rw [number_x (neg := 0) hc (.inl ⟨rfl, q2⟩) hn]
          exact h1 _ hn
      · rw [if_neg q3] at h0 h1
        rw [decide_eq_false q3, so_ok]
        simp only [Bool.false_eq_true, if_false, sSkip_ap, seq_next, sSeq_ap, sIf_ap, eTst_ap, eBin_ap, eVar_ap, eC_ap, List.getElem?_cons_succ, List.getElem?_cons_zero, bind_ok, i4, so_ok]
        by_cases q4 : c ∈ sgL
        · rw [if_pos q4] at h0
          rw [decide_eq_true q4, if_pos rfl]
          simp only [sRet_ap, eArgs_ap, aCons_ap, aNil_ap, eVar_ap, eBin_ap, eC_ap, gAdd_int, List.getElem?_cons_succ, List.getElem?_cons_zero, bind_ok]
          rw [mkTup_small (by simp), bind_ok, bind_ok, mkTup_small (by simp), so_ok, seq_ret, xsev_ret, ec]
          exact h0 _ _ rfl
        · rw [if_neg q4] at h1
          rw [decide_eq_false q4]
          have := h1 _ rfl
          simp only [badQ] at this
          simp
          rw [ec]
          exact this
theorem token_ok {x : Str} {a n c k : Nat} {t : D} {m : Mem} (hc : x.cps.toList[a]? = some c) (h : tok1 n (a + 1) (x.cps.toList.drop a) = .inl (t, k)) : F_token_from [.int (n : Nat), .str x, .int (a : Nat)] m = .ok (.tup [t, .int ((a + k : Nat) : Int)]) m := by
  refine run_pure rfl (by simp [D.plain, D.plains, tok1_plain h]) fun K h0 hK => XSEv.s (token_xs hc (fun t' k' e => ?_) fun w e => ?_)
  · rw [h] at e; cases e; exact h0
  · rw [h] at e; cases e
theorem token_x {x : Str} {a n c : Nat} {w : Str} {m : Mem} (hc : x.cps.toList[a]? = some c) (h : tok1 n (a + 1) (x.cps.toList.drop a) = .inr w) : F_token_from [.int (n : Nat), .str x, .int (a : Nat)] m = .exc (badQ n (a + 1) w) m := by
  refine run_exc rfl fun E K h0 => token_xs hc (fun t' k' e => ?_) fun w e => ?_
  · rw [h] at e; cases e
  · rw [h] at e; cases e; exact h0
end DL
set_option Elab.async false
set_option linter.all false
set_option maxRecDepth 100000
set_option maxHeartbeats 1000000
namespace DL
open PySem L2
theorem whileX_rule {E : Exn → Mem → Prop} {c : TFn} {f : SFn} {K : Kt} (I : Nat → Rho → Mem → Prop) {n : Nat} {ρ : Rho} {m : Mem} (h0 : I n ρ m)
    (hs : ∀ n ρ m, I n ρ m → Ev (c ρ m) fun b m1 => if b = true then ∀ K' : Kt, (∀ k ρ m, k < n → I k ρ m → K'.nx ρ m) → (∀ k ρ m, k < n → I k ρ m → K'.ct ρ m) → (∀ ρ m, K.nx ρ m → K'.bk ρ m) → (∀ d m, K.rt d m → K'.rt d m) → XSEv E (f ρ m1) K' else K.nx ρ m1) : XSEv E (sWhile c f ρ m) K := by
  have go : ∀ (n : Nat) (ρ : Rho) (m : Mem), I n ρ m → ∃ k, XSEv E (whileN c f k ρ m) K := by
    intro n
    induction n using Nat.strongRecOn with
    | ind n ih =>
      intro ρ m h
      have h1 := hs n ρ m h
      cases hc : c ρ m with
      | exc x m1 => rw [hc] at h1; exact h1.elim
      | bad => rw [hc] at h1; exact h1.elim
      | ok b m1 =>
        rw [hc, ev_ok] at h1
        cases b with
        | false => exact ⟨1, by unfold whileN; rw [hc]; exact h1⟩
        | true =>
          rw [if_pos rfl] at h1
          have h2 := h1 ⟨fun ρ m => ∃ k, k < n ∧ I k ρ m, K.nx, fun ρ m => ∃ k, k < n ∧ I k ρ m, K.rt⟩ (fun k ρ m a b => ⟨k, a, b⟩) (fun k ρ m a b => ⟨k, a, b⟩) (fun _ _ z => z) (fun _ _ z => z)
          cases hf : f ρ m1 with
          | next ρ2 m2 =>
            rw [hf] at h2
            obtain ⟨k, k1, k2⟩ := h2
            obtain ⟨j, hj⟩ := ih k k1 ρ2 m2 k2
            exact ⟨j + 1, by unfold whileN; rw [hc]; rw [so_ok, if_pos rfl, hf]; exact hj⟩
          | cont ρ2 m2 =>
            rw [hf] at h2
            obtain ⟨k, k1, k2⟩ := h2
            obtain ⟨j, hj⟩ := ih k k1 ρ2 m2 k2
            exact ⟨j + 1, by unfold whileN; rw [hc]; rw [so_ok, if_pos rfl, hf]; exact hj⟩
          | brk ρ2 m2 => rw [hf] at h2; exact ⟨1, by unfold whileN; rw [hc]; rw [so_ok, if_pos rfl, hf]; exact h2⟩
          | ret v m2 => rw [hf] at h2; exact ⟨1, by unfold whileN; rw [hc]; rw [so_ok, if_pos rfl, hf]; exact h2⟩
          | exc x ρ2 m2 => rw [hf] at h2; exact ⟨1, by unfold whileN; rw [hc]; rw [so_ok, if_pos rfl, hf]; exact h2⟩
          | bad => rw [hf] at h2; exact h2.elim
  obtain ⟨k, hk⟩ := go n ρ m h0
  rw [while_is (n := k) fun z => by rw [z] at hk; exact hk]
  exact hk
/-! ### what is told is well formed, and no more than there are signs -/
def Tok (t : D) : Prop := t.fit = true ∧ t.nodes ≤ 5
theorem tokD_tok {k : Str} {v : D} {n p : Nat} (h1 : v.fit = true) (h2 : v.nodes = 1) : Tok (tokD k v n p) := by
  unfold Tok tokD
  simp [D.fit, D.fits, D.nodes, D.nodess, h1, h2]
theorem numT_tok {n p neg k : Nat} {cs b : List Nat} {t : D} (h : numT n p cs neg b = .inl (t, k)) : Tok t := by
  unfold numT at h
  split at h
  · cases h
  · split at h
    · cases h
    · split at h
      · cases h
      · cases h; exact tokD_tok rfl (by simp [D.nodes])
theorem tok1_tok {n p k : Nat} {l : List Nat} {t : D} (h : tok1 n p l = .inl (t, k)) : Tok t := by
  cases l with
  | nil => cases h
  | cons c r =>
    simp only [tok1] at h
    split at h
    · split at h
      · cases h
      · cases h; exact tokD_tok rfl (by simp [D.nodes])
    · split at h
      · exact numT_tok h
      · split at h
        · exact numT_tok h
        · split at h
          · cases h; exact tokD_tok rfl (by simp [D.nodes])
          · cases h
theorem scan_ok : ∀ (f : Nat) (cs : List Nat) (n p : Nat), cs.length ≤ f → (scan n p cs).1.length ≤ cs.length ∧ ∀ t ∈ (scan n p cs).1, Tok t
  | 0, cs, n, p, h => by
    have : cs = [] := List.eq_nil_of_length_eq_zero (by omega)
    subst this
    rw [scan_nil]; exact ⟨by simp, fun t ht => nomatch ht⟩
  | f + 1, [], n, p, h => by rw [scan_nil]; exact ⟨by simp, fun t ht => nomatch ht⟩
  | f + 1, c :: r, n, p, h => by
    have hr : r.length ≤ f := by simpa using h
    by_cases h1 : c = 10
    · subst h1
      rw [scan_nl]
      obtain ⟨a, b⟩ := scan_ok f r (n + 1) 1 hr
      exact ⟨by simp; omega, b⟩
    · by_cases h2 : c = 35
      · subst h2
        rw [scan_hash]
        obtain ⟨a, b⟩ := scan_ok f (r.drop (com r)) n (p + 1 + com r) (by simp; omega)
        exact ⟨by simp at a ⊢; omega, b⟩
      · by_cases h3 : c = 32
        · subst h3
          rw [scan_sp]
          obtain ⟨a, b⟩ := scan_ok f r n (p + 1) hr
          exact ⟨by simp; omega, b⟩
        · cases ht : tok1 n p (c :: r) with
          | inl tk =>
            obtain ⟨t, k⟩ := tk
            rw [scan_tok h1 h2 h3 ht]
            obtain ⟨a, b⟩ := scan_ok f (r.drop (k - 1)) n (p + k) (by simp; omega)
            refine ⟨by simp [Res.cons] at a ⊢; omega, fun x hx => ?_⟩
            rcases List.mem_cons.mp (show x ∈ t :: _ from hx) with e | hx
            · rw [e]; exact tok1_tok ht
            · exact b x hx
          | inr w =>
            rw [scan_bad h1 h2 h3 ht]
            exact ⟨by simp, fun t ht => nomatch ht⟩
def addR (ts : List D) (q : Res) : Res := (ts ++ q.1, q.2)
theorem addR_cons {ts : List D} {t : D} {q : Res} : addR ts (Res.cons t q) = addR (ts ++ [t]) q := by simp [addR, Res.cons]
/-! ### tokens_of -/
theorem tokens_xs {x : Str} {m : Mem} {E : Exn → Mem → Prop} {K : Kt} (hl : x.length ≤ 1000000)
    (h0 : (scan 1 1 x.cps.toList).2 = none → ∀ j, K.rt (.tup (scan 1 1 x.cps.toList).1) (m ++ j)) (h1 : ∀ n p w, (scan 1 1 x.cps.toList).2 = some (n, p, w) → ∀ j, E (badQ n p w) (m ++ j)) :
    XSEv E (b_tokens_of [some (.str x), none, none, none, none, none] m) K := by
  have hlen : (scan 1 1 x.cps.toList).1.length ≤ 1000000 := by
    have := (scan_ok _ x.cps.toList 1 1 (Nat.le_refl _)).1
    rw [slen] at this
    omega
  have hrest := spl_rest x.cps.toList []
  have hno := spl_no x.cps.toList [] (by simp)
  have hs0 : scan 1 1 x.cps.toList = addR [] (tailS 0 (restR (TL.spl [10] 0 [] x.cps.toList))) := by
    rw [hrest]
    show _ = ([] ++ (scan 1 1 x.cps.toList).1, (scan 1 1 x.cps.toList).2)
    rw [List.nil_append]
  have gs : ∀ M : Mem, gSplit (.str x) (.str (Str.ofString "\n")) M = .ok (.ref M.length) (M ++ [.lst ((TL.spl [10] 0 [] x.cps.toList).map fun l => D.str (mkS l))]) := fun M => by
    unfold gSplit splL
    simp only
    rw [if_pos (by
      have e1 : (Str.ofString "\n").length = 1 := by decide +kernel
      have e2 : (Str.ofString "\n").cps.all (· < 256) = true := by decide +kernel
      rw [e1, e2, decide_eq_true (p := x.length ≤ 16000000) (by omega)]; rfl), List.map_map]
    rfl
  generalize hQ : scan 1 1 x.cps.toList = Q at *
  generalize TL.spl [10] 0 [] x.cps.toList = ls at *
  unfold b_tokens_of
  simp [gs, wkEnum]
  have wk : wkOf (.ref (m.length + 1)) (m ++ [Cell.lst [], .lst (ls.map fun l => D.str (mkS l))]) = .ok ⟨ls.map fun l => D.str (mkS l), some (m.length + 1, ls.map fun l => D.str (mkS l))⟩ (m ++ [Cell.lst [], .lst (ls.map fun l => D.str (mkS l))]) := by
    have e : (m ++ [Cell.lst [], .lst (ls.map fun l => D.str (mkS l))])[m.length + 1]? = some (.lst (ls.map fun l => D.str (mkS l))) := by simp
    unfold wkOf; simp only [e]
  refine XEv.of wk ?_
  simp only [xev_ok]
  refine forX_rule (w := ⟨enD (ls.map fun l => D.str (mkS l)), some (m.length + 1, ls.map fun l => D.str (mkS l))⟩) (fun i ρ M => (∃ a b c d, ρ = [some (.str x), some (.ref m.length), a, b, c, d]) ∧ ∃ ts, M = m ++ [Cell.lst ts, .lst (ls.map fun l => D.str (mkS l))] ∧ Q = addR ts (tailS i (restR (ls.drop i)))) ⟨⟨_, _, _, _, rfl⟩, [], rfl, by rw [List.drop_zero]; exact hs0⟩ ?_ ?_ ?_
  · rintro i ρ M ⟨_, ts, rfl, _⟩
    show _ = _
    simp
  · rintro i d ρ M hd ⟨⟨a, b, c, d', rfl⟩, ts, rfl, hq⟩
    obtain ⟨y, hy, rfl⟩ := enD_inv hd
    obtain ⟨l, hli, rfl⟩ := map_get hy
    have hnl := hno l (List.mem_of_getElem? hli)
    rw [drop_get hli] at hq
    have hq0 : Q = addR ts (scan (i + 1) 1 (l ++ restR (ls.drop (i + 1)))) := hq
    clear hq
    have hR := restR_stop (ls.drop (i + 1))
    generalize restR (ls.drop (i + 1)) = R at *
    refine ⟨_, rfl, fun K1 n1 c1 b1 r1 => ?_⟩
    have sl : (mkS l).length = l.length := mkS_len l
    have e1 : ∀ M : Mem, F_run_end [.str (mkS l), .int 0, .str (Str.ofString " ")] M = .ok (.int ((run [32] l : Nat) : Int)) M := fun M => by
      have := run_end_s (x := mkS l) (z := Str.ofString " ") (a := 0) (m := M) (Nat.zero_le _)
      rw [show (Str.ofString " ").cps.toList = [32] from by decide +kernel] at this
      simpa using this
    simp [b_tokens_of_2, e1]
    rw [blanks] at hq0
    have hk0 := run_le [32] l
    refine whileX_rule (n := l.length - run [32] l) (fun n ρ M => ∃ (k : Nat) (ts : List D) (tk : Option D), ρ = [some (.str x), some (.ref m.length), some (.int (i : Nat)), some (.str (mkS l)), some (.int (k : Nat)), tk] ∧ M = m ++ [Cell.lst ts, .lst (ls.map fun l => D.str (mkS l))] ∧ k ≤ l.length ∧ n = l.length - k ∧ (∀ c, l[k]? = some c → c ≠ 32) ∧ Q = addR ts (scan (i + 1) (k + 1) (l.drop k ++ R)))
      ⟨run [32] l, ts, _, rfl, rfl, hk0, rfl, fun c hc e => ?_, by rw [hq0, Nat.add_comm 1]⟩ ?_
    · have := run_stop (S := [32]) (l := l) (c := c) (by rw [drop_get hc]; rfl)
      exact this (by simp [e])
    · rintro n ρ M ⟨k, ts, tk, rfl, rfl, hk, rfl, h32, hq⟩
      have fin : Q = addR ts (tailS (i + 1) R) → K1.nx [some (.str x), some (.ref m.length), some (.int (i : Nat)), some (.str (mkS l)), some (.int (k : Nat)), tk] (m ++ [Cell.lst ts, .lst (ls.map fun l => D.str (mkS l))]) := fun e => n1 _ _ ⟨⟨_, _, _, _, rfl⟩, ts, rfl, e⟩
      by_cases hlt : k < l.length
      · have hc : l[k]? = some (l[k]'hlt) := List.getElem?_eq_getElem hlt
        generalize l[k]'hlt = c at hc
        have hcx : (mkS l).cps.toList[k]? = some c := by rw [mkS_tl]; exact hc
        have ei := fun M : Mem => ix_chr (m := M) hcx
        have hcm := List.mem_of_getElem? hc
        have c10 : c ≠ 10 := fun e => hnl (e ▸ hcm)
        have c32 := h32 c hc
        have dg := drop_get hc
        have hlt' : (k : Int) < ((mkS l).length : Int) := by rw [sl]; omega
        have e35 : decide ((⟨#[c]⟩ : Str) = Str.ofString "#") = decide (c = 35) := chr_eq rfl
        simp only [tAndF_ap, eTst_ap, eBin_ap, eVar_ap, eArgs_ap, aCons_ap, aNil_ap, on1_ap, List.getElem?_cons_succ, List.getElem?_cons_zero, bind_ok, gLen_str, gLtA_int, decide_eq_true hlt', if_true, ei, eC_ap, gNe, gEq_str, e35, ev_ok]
        by_cases c35 : c = 35
        · subst c35
          simp
          refine fin ?_
          rw [hq, dg, scan_remark hR fun z => hnl (List.mem_of_mem_drop z)]
        · simp only [decide_eq_false c35, Bool.not_false, if_true]
          intro K2 n2 c2 b2 r2
          have tlk : (mkS l).cps.toList.drop k = l.drop k := by rw [mkS_tl]
          have ta := tok1_app (n := i + 1) (p := k + 1) (l := l.drop k) hR (by rw [dg]; exact List.cons_ne_nil _ _)
          unfold b_tokens_of_1
          have ei1 : ((i : Int) + 1) = ((i + 1 : Nat) : Int) := by omega
          cases ht : tok1 (i + 1) (k + 1) (l.drop k) with
          | inr w =>
            have ex := token_x (n := i + 1) (m := m ++ [Cell.lst ts, .lst (ls.map fun l => D.str (mkS l))]) hcx (w := w) (by rw [tlk]; exact ht)
            rw [ht, dg, List.cons_append] at ta
            rw [dg, List.cons_append, scan_bad c10 c35 c32 ta] at hq
            have h2 : Q.2 = some (i + 1, k + 1, w) := by rw [hq]; rfl
            simp only [sSeq_ap, sAsg_ap, eArgs_ap, aCons_ap, aNil_ap, eVar_ap, eBin_ap, eC_ap, List.getElem?_cons_succ, List.getElem?_cons_zero, bind_ok, gAdd_int, ei1, ex, so_exc, seq_exc, xsev_exc]
            exact h1 _ _ _ h2 _
          | inl tz =>
            obtain ⟨t, z⟩ := tz
            have ex := token_ok (n := i + 1) (m := m ++ [Cell.lst ts, .lst (ls.map fun l => D.str (mkS l))]) hcx (t := t) (k := z) (by rw [tlk]; exact ht)
            have tsz := ht
            rw [dg] at tsz
            obtain ⟨z1, z2⟩ := tok1_size tsz
            have hz : k + z ≤ l.length := by rw [List.length_drop] at z2; omega
            rw [ht, dg, List.cons_append] at ta
            have dd : (l.drop (k + 1) ++ R).drop (z - 1) = l.drop (k + z) ++ R := by
              rw [List.drop_append_of_le_length (by rw [List.length_drop]; omega), List.drop_drop, show k + 1 + (z - 1) = k + z by omega]
            rw [dg, List.cons_append, scan_tok c10 c35 c32 ta, addR_cons, dd, blanks] at hq
            have e2 := run_end_s (x := mkS l) (z := Str.ofString " ") (a := k + z) (m := m ++ [Cell.lst (ts ++ [t]), .lst (ls.map fun l => D.str (mkS l))]) (by rw [sl]; exact hz)
            rw [show (Str.ofString " ").cps.toList = [32] from by decide +kernel, mkS_tl] at e2
            have hr := run_le [32] (l.drop (k + z))
            rw [List.length_drop] at hr
            have tb : ts.length < 1000000 := by
              have := congrArg (fun q : Res => q.1.length) hq
              simp [addR] at this
              omega
            have la : lstAt (.ref m.length) (m ++ [Cell.lst ts, .lst (ls.map fun l => D.str (mkS l))]) = some (m.length, ts) := by simp [lstAt]
            have ga : gApp (.ref m.length) [t] (m ++ [Cell.lst ts, .lst (ls.map fun l => D.str (mkS l))]) = .ok .non (m ++ [Cell.lst (ts ++ [t]), .lst (ls.map fun l => D.str (mkS l))]) := by
              unfold gApp
              simp only [la]
              rw [if_pos (by rw [szl]; omega)]
              simp
            simp only [sSeq_ap, sAsg_ap, eArgs_ap, aCons_ap, aNil_ap, eVar_ap, eBin_ap, eC_ap, List.getElem?_cons_succ, List.getElem?_cons_zero, bind_ok, gAdd_int, ei1, ex, so_ok, tgTup_tup, tgCons_ap, tgNil_ap, tgN_ap, Option.bind_some, List.set_cons_succ, List.set_cons_zero, seq_next, sExpr_ap, eMeth_ap, la, ga, sSet_ap, e2, xsev_next]
            refine n2 (l.length - (k + z + run [32] (l.drop (k + z)))) _ _ (by omega) ⟨k + z + run [32] (l.drop (k + z)), ts ++ [t], _, rfl, rfl, by omega, rfl, fun c hc e => ?_, ?_⟩
            · have := run_stop (S := [32]) (l := l.drop (k + z)) (c := c) (by rw [List.drop_drop, drop_get hc]; rfl)
              exact this (by simp [e])
            · rw [hq, List.drop_drop, show k + 1 + z + run [32] (l.drop (k + z)) = k + z + run [32] (l.drop (k + z)) + 1 by omega]
      · have hlt' : ¬ (k : Int) < ((mkS l).length : Int) := by rw [sl]; omega
        have dn : l.drop k = [] := List.drop_eq_nil_of_le (by omega)
        simp [hlt']
        refine fin ?_
        rw [hq, dn, List.nil_append, scan_stop hR]
  · rintro ρ M ⟨⟨a, b, c, d, rfl⟩, ts, rfl, hq⟩
    have hle : (Wk.mk (enD (ls.map fun l => D.str (mkS l))) (some (m.length + 1, ls.map fun l => D.str (mkS l)))).ds.length = ls.length := by
      show (enD _).length = _
      rw [enD_len, List.length_map]
    rw [hle, List.drop_length] at hq
    have hq' : Q = (ts, none) := by rw [hq]; simp [addR, tailS, restR]
    have gt : gTuple (.ref m.length) (m ++ [Cell.lst ts, .lst (ls.map fun l => D.str (mkS l))]) = .ok (.tup ts) (m ++ [Cell.lst ts, .lst (ls.map fun l => D.str (mkS l))]) := by unfold gTuple; simp
    simp [gt]
    have := h0 (by rw [hq'])
    rw [hq'] at this
    exact this _
end DL
set_option Elab.async false
set_option linter.all false
set_option maxRecDepth 100000
set_option maxHeartbeats 1000000
namespace DL
open PySem L2
/-! ### the law's own reading -/
noncomputable def c__law_due_3_12 : SFn := (sPar 4 3 (aCons (eBin gAdd (eVar 4) (eVar 9)) (aCons (eBin gAdd (eVar 3) (eVar 9)) aNil)))
noncomputable def c__law_due_3_11 : SFn := sSeq (sIf (eTst (eBin gNe (eVar 8) (eC (.str " ")))) (sExpr (eMeth gApp (eVar 1) (aCons (eIf (eTst (eBin (gIn false) (eVar 8) (eVar 5))) (eArgs mkTup (aCons (eC (.str "word")) (aCons (eVar 12) (aCons (eVar 2) (aCons (eVar 3) aNil))))) (eIf (eTst (eBin gEq (eVar 11) (eVar 6))) (eArgs mkTup (aCons (eC (.str "number")) (aCons (eArgs (on1 gInt) (aCons (eVar 12) aNil)) (aCons (eVar 2) (aCons (eVar 3) aNil))))) (eArgs mkTup (aCons (eC (.str "sign")) (aCons (eVar 8) (aCons (eVar 2) (aCons (eVar 3) aNil))))))) aNil))) sSkip) c__law_due_3_12
noncomputable def c__law_due_3_10 : SFn := sSeq (sIf (tAndF (eTst (eBin gEq (eVar 11) (eVar 6))) (tOrF (tAndF (eTst (eBin gEq (eBin gIx (eVar 12) (eC (.int 0))) (eC (.str "0")))) (eTst (eBin gGt (eVar 9) (eC (.int 1))))) (eTst (eBin gEq (eSl (eVar 12) oNone (oSome (eC (.int 2)))) (eC (.str "-0")))))) (sRet (eArgs mkTup (aCons (eC (.str "bad")) (aCons (eVar 2) (aCons (eVar 3) (aCons (eC (.str "number")) aNil)))))) sSkip) c__law_due_3_11
noncomputable def c__law_due_3_9 : SFn := sSeq (sIf (tOrF (tAndF (eTst (eBin (gIn false) (eVar 8) (eVar 5))) (eTst (eBin gGt (eVar 9) (eC (.int 8))))) (tAndF (eTst (eBin gEq (eVar 11) (eVar 6))) (eTst (eBin gGt (eVar 9) (eC (.int 14)))))) (sRet (eArgs mkTup (aCons (eC (.str "bad")) (aCons (eVar 2) (aCons (eVar 3) (aCons (eC (.str "long")) aNil)))))) sSkip) c__law_due_3_10
noncomputable def c__law_due_3_8 : SFn := sSeq (sIf (tOrF (tAndF (eTst (eBin gEq (eVar 8) (eC (.str "-")))) (eTst (eBin gEq (eVar 9) (eC (.int 1))))) (eTst (eBin (gIn true) (eVar 8) (eBin gAdd (eBin gAdd (eVar 5) (eVar 6)) (eC (.str "-*(){}:;,.=! ")))))) (sRet (eArgs mkTup (aCons (eC (.str "bad")) (aCons (eVar 2) (aCons (eVar 3) (aCons (eC (.str "sign")) aNil)))))) sSkip) c__law_due_3_9
noncomputable def c__law_due_3_7 : SFn := sSeq (sSet 12 (eSl (eVar 0) (oSome (eVar 4)) (oSome (eBin gAdd (eVar 4) (eVar 9))))) c__law_due_3_8
noncomputable def c__law_due_3_6 : SFn := sSeq (sFor (iRng2 (eC (.int 1)) (eBin gSub (eArgs (on1 gLen1) (aCons (eVar 0) aNil)) (eVar 4))) (tgN 10) b__law_due_2) c__law_due_3_7
noncomputable def c__law_due_3_5 : SFn := sSeq (sSet 11 (eIf (tOrF (eTst (eBin (gIn false) (eVar 8) (eVar 6))) (eTst (eBin gEq (eVar 8) (eC (.str "-"))))) (eVar 6) (eIf (eTst (eBin (gIn false) (eVar 8) (eVar 5))) (eVar 5) (eC (.str ""))))) c__law_due_3_6
noncomputable def c__law_due_3_4 : SFn := sSeq (sIf (eTst (eBin gEq (eVar 8) (eC (.str "#")))) (sSeq (sFor (iRng1 (eBin gSub (eArgs (on1 gLen1) (aCons (eVar 0) aNil)) (eVar 4))) (tgN 10) b__law_due_1)
    (sSeq (sPar 4 3 (aCons (eBin gAdd (eVar 4) (eVar 9)) (aCons (eBin gAdd (eVar 3) (eVar 9)) aNil)))
    sCont)) sSkip) c__law_due_3_5
noncomputable def c__law_due_3_3 : SFn := sSeq (sIf (eTst (eBin gEq (eVar 8) (eC (.str "\n")))) (sSeq (sPar3 2 3 4 (aCons (eBin gAdd (eVar 2) (eC (.int 1))) (aCons (eC (.int 1)) (aCons (eBin gAdd (eVar 4) (eC (.int 1))) aNil))))
    sCont) sSkip) c__law_due_3_4
noncomputable def c__law_due_3_2 : SFn := sSeq (sPar 8 9 (aCons (eBin gIx (eVar 0) (eVar 4)) (aCons (eC (.int 1)) aNil))) c__law_due_3_3
noncomputable def c__law_due_3_1 : SFn := sSeq (sIf (eTst (eBin gGe (eVar 4) (eArgs (on1 gLen1) (aCons (eVar 0) aNil)))) sBrk sSkip) c__law_due_3_2
theorem chain__law_due_3 : b__law_due_3 = c__law_due_3_1 := rfl
noncomputable def c__law_due_4 : SFn := (sRet (eArgs mkTup (aCons (eC (.str "told")) (aCons (eArgs (on1 gTuple) (aCons (eVar 1) aNil)) aNil))))
noncomputable def c__law_due_3 : SFn := sSeq (sFor (iRng1 (eBin gAdd (eArgs (on1 gLen1) (aCons (eVar 0) aNil)) (eC (.int 1)))) (tgN 7) b__law_due_3) c__law_due_4
noncomputable def c__law_due_2 : SFn := sSeq (sAsg (tgTup (tgCons (tgN 5) (tgCons (tgN 6) tgNil))) (eArgs mkTup (aCons (eC (.str "abcdefghijklmnopqrstuvwxyz")) (aCons (eC (.str "0123456789")) aNil)))) c__law_due_3
noncomputable def c__law_due_1 : SFn := sSeq (sAsg (tgTup (tgCons (tgN 1) (tgCons (tgN 2) (tgCons (tgN 3) (tgCons (tgN 4) tgNil))))) (eArgs mkTup (aCons (eArgs mkLst aNil) (aCons (eC (.int 1)) (aCons (eC (.int 1)) (aCons (eC (.int 0)) aNil)))))) c__law_due_2
theorem chain__law_due : b__law_due = c__law_due_1 := rfl
def allS : Str := smS ++ fgS ++ ("-*(){}:;,.=! " : Str)
theorem allS_mem (c : Nat) : c ∈ allS.cps.toList ↔ c ∈ smL ∨ c ∈ fgL ∨ c = 45 ∨ c ∈ sgL ∨ c = 32 := by
  have e : allS.cps.toList = smL ++ fgL ++ (45 :: (sgL ++ [32])) := by decide +kernel
  rw [e]
  simp only [List.mem_append, List.mem_cons, List.not_mem_nil, or_false]
  constructor
  · rintro ((h | h) | h | h | h) <;> simp [h]
  · rintro (h | h | h | h | h) <;> simp [h]
theorem sm_dis : ∀ c ∈ smL, c ∉ fgL ∧ c ≠ 45 ∧ c ≠ 32 ∧ c ∉ sgL := by decide +kernel
theorem fg_dis : ∀ c ∈ fgL, c ∉ smL ∧ c ≠ 45 ∧ c ≠ 32 ∧ c ∉ sgL := by decide +kernel
theorem sg_dis : ∀ c ∈ sgL, c ∉ smL ∧ c ≠ 45 ∧ c ≠ 32 ∧ c ∉ fgL := by decide +kernel
theorem c45_dis : (45 : Nat) ∉ smL ∧ (45 : Nat) ∉ fgL ∧ (45 : Nat) ∉ sgL := by decide +kernel
theorem c32_dis : (32 : Nat) ∉ smL ∧ (32 : Nat) ∉ fgL ∧ (32 : Nat) ∉ sgL := by decide +kernel
abbrev dEnv (x : Str) (r n p a : Nat) (lap : Option D) (c k : Nat) (more : Option D) (many piece : Str) : Rho :=
  [some (.str x), some (.ref r), some (.int (n : Nat)), some (.int (p : Nat)), some (.int (a : Nat)), some (.str smS), some (.str fgS), lap, some (.str ⟨#[c]⟩), some (.int (k : Nat)), more, some (.str many), some (.str piece)]
def badD (n p : Nat) (w : Str) : D := .tup [.str "bad", .int (n : Nat), .int (p : Nat), .str w]
section
variable {x : Str} {n p a : Nat} {lap more : Option D} {c k : Nat} {many piece : Str} {m : Mem} {ts : List D} {K : Kt}
theorem due_12 {M : Mem} {r : Nat} (h : K.nx (dEnv x r n (p + k) (a + k) lap c k more many piece) M) : SEv (c__law_due_3_12 (dEnv x r n p a lap c k more many piece) M) K := by
  unfold c__law_due_3_12
  simp only [sPar_ap, aCons_ap, aNil_ap, eBin_ap, eVar_ap, dEnv, List.getElem?_cons_succ, List.getElem?_cons_zero, bind_ok, gAdd_int, so_ok, List.set_cons_succ, List.set_cons_zero, sev_next]
  rw [show ((a : Int) + (k : Int)) = ((a + k : Nat) : Int) by omega, show ((p : Int) + (k : Int)) = ((p + k : Nat) : Int) by omega]
  exact h
theorem due_11 (hl : ts.length < 1000000) {v : D} (h32 : c ≠ 32)
    (hv : ∀ M : Mem, (eIf (eTst (eBin (gIn false) (eVar 8) (eVar 5))) (eArgs mkTup (aCons (eC (.str "word")) (aCons (eVar 12) (aCons (eVar 2) (aCons (eVar 3) aNil))))) (eIf (eTst (eBin gEq (eVar 11) (eVar 6))) (eArgs mkTup (aCons (eC (.str "number")) (aCons (eArgs (on1 gInt) (aCons (eVar 12) aNil)) (aCons (eVar 2) (aCons (eVar 3) aNil))))) (eArgs mkTup (aCons (eC (.str "sign")) (aCons (eVar 8) (aCons (eVar 2) (aCons (eVar 3) aNil))))))) (dEnv x m.length n p a lap c k more many piece) M = .ok v M)
    (h : K.nx (dEnv x m.length n (p + k) (a + k) lap c k more many piece) (m ++ [.lst (ts ++ [v])])) : SEv (c__law_due_3_11 (dEnv x m.length n p a lap c k more many piece) (m ++ [.lst ts])) K := by
  unfold c__law_due_3_11
  have e : decide ((⟨#[c]⟩ : Str) = Str.ofString " ") = false := by rw [chr_eq (s := Str.ofString " ") (k := 32) rfl]; simpa using h32
  have la : lstAt (.ref m.length) (m ++ [Cell.lst ts]) = some (m.length, ts) := by simp [lstAt]
  have ga : gApp (.ref m.length) [v] (m ++ [Cell.lst ts]) = .ok .non (m ++ [Cell.lst (ts ++ [v])]) := by
    unfold gApp
    simp only [la]
    rw [if_pos (by rw [szl]; omega)]
    simp
  have e1 : sIf (eTst (eBin gNe (eVar 8) (eC (.str " ")))) (sExpr (eMeth gApp (eVar 1) (aCons (eIf (eTst (eBin (gIn false) (eVar 8) (eVar 5))) (eArgs mkTup (aCons (eC (.str "word")) (aCons (eVar 12) (aCons (eVar 2) (aCons (eVar 3) aNil))))) (eIf (eTst (eBin gEq (eVar 11) (eVar 6))) (eArgs mkTup (aCons (eC (.str "number")) (aCons (eArgs (on1 gInt) (aCons (eVar 12) aNil)) (aCons (eVar 2) (aCons (eVar 3) aNil))))) (eArgs mkTup (aCons (eC (.str "sign")) (aCons (eVar 8) (aCons (eVar 2) (aCons (eVar 3) aNil))))))) aNil))) sSkip (dEnv x m.length n p a lap c k more many piece) (m ++ [.lst ts])
      = .next (dEnv x m.length n p a lap c k more many piece) (m ++ [Cell.lst (ts ++ [v])]) := by
    rw [sIf_ap]
    have e2 : eTst (eBin gNe (eVar 8) (eC (.str " "))) (dEnv x m.length n p a lap c k more many piece) (m ++ [.lst ts]) = .ok true (m ++ [.lst ts]) := by
      simp only [eTst_ap, eBin_ap, eVar_ap, eC_ap, dEnv, List.getElem?_cons_succ, List.getElem?_cons_zero, bind_ok, gNe, gEq_str, e, if_true, Bool.not_false]
    rw [e2, so_ok, if_pos rfl, sExpr_ap, eMeth_ap]
    simp only [eVar_ap, dEnv, List.getElem?_cons_succ, List.getElem?_cons_zero, bind_ok, la]
    rw [aCons_ap]
    have := hv (m ++ [.lst ts])
    simp only [dEnv] at this
    rw [this]
    simp only [bind_ok, aNil_ap, ga, so_ok]
  rw [sSeq_ap, e1, seq_next]
  exact due_12 h
theorem due_11s {M : Mem} {r : Nat} (h : K.nx (dEnv x r n (p + k) (a + k) lap 32 k more many piece) M) : SEv (c__law_due_3_11 (dEnv x r n p a lap 32 k more many piece) M) K := by
  unfold c__law_due_3_11
  have e : decide ((⟨#[32]⟩ : Str) = Str.ofString " ") = true := by rw [chr_eq (s := Str.ofString " ") (k := 32) rfl]; rfl
  rw [sSeq_ap, sIf_ap]
  have e2 : eTst (eBin gNe (eVar 8) (eC (.str " "))) (dEnv x r n p a lap 32 k more many piece) M = .ok false M := by
    simp only [eTst_ap, eBin_ap, eVar_ap, eC_ap, dEnv, List.getElem?_cons_succ, List.getElem?_cons_zero, bind_ok, gNe, gEq_str, e, if_true, Bool.not_true]
  rw [e2, so_ok, if_neg (by simp), sSkip_ap, seq_next]
  exact due_12 h
theorem due_10 {M : Mem} {r : Nat} (hm : many ≠ fgS) (h : SEv (c__law_due_3_11 (dEnv x r n p a lap c k more many piece) M) K) : SEv (c__law_due_3_10 (dEnv x r n p a lap c k more many piece) M) K := by
  unfold c__law_due_3_10
  rw [sSeq_ap, sIf_ap]
  have e2 : tAndF (eTst (eBin gEq (eVar 11) (eVar 6))) (tOrF (tAndF (eTst (eBin gEq (eBin gIx (eVar 12) (eC (.int 0))) (eC (.str "0")))) (eTst (eBin gGt (eVar 9) (eC (.int 1))))) (eTst (eBin gEq (eSl (eVar 12) oNone (oSome (eC (.int 2)))) (eC (.str "-0"))))) (dEnv x r n p a lap c k more many piece) M = .ok false M := by
    rw [tAndF_ap]
    simp only [eTst_ap, eBin_ap, eVar_ap, dEnv, List.getElem?_cons_succ, List.getElem?_cons_zero, bind_ok, gEq_str, decide_eq_false hm, Bool.false_eq_true, if_false]
  rw [e2, so_ok, if_neg (by simp), sSkip_ap, seq_next]
  exact h
theorem due_10n {M : Mem} {r : Nat} {c0 : Nat} {l : List Nat} (hp : piece = mkS (c0 :: l)) (h1 : (c0 = 48 ∧ 1 < k ∨ (c0 = 45 ∧ l.head? = some 48)) → K.rt (badD n p "number") M) (h : ¬ (c0 = 48 ∧ 1 < k ∨ (c0 = 45 ∧ l.head? = some 48)) → SEv (c__law_due_3_11 (dEnv x r n p a lap c k more fgS piece) M) K) : SEv (c__law_due_3_10 (dEnv x r n p a lap c k more fgS piece) M) K := by
  unfold c__law_due_3_10
  rw [sSeq_ap, sIf_ap]
  have ix : ∀ M : Mem, gIx (.str piece) (.int 0) M = .ok (.str ⟨#[c0]⟩) M := fun M => ix_chr (e := 0) (by rw [hp, mkS_tl]; rfl)
  have e48 : decide ((⟨#[c0]⟩ : Str) = Str.ofString "0") = decide (c0 = 48) := chr_eq rfl
  have sl : ∀ M : Mem, gSl (.str piece) none (some 2) M = .ok (.str (mkS (c0 :: l.take 1))) M := fun M => by
    show Out.ok (D.str (cutS piece none (some 2))) M = _
    unfold cutS
    rw [show (some (2 : Int)) = some ((2 : Nat) : Int) from rfl, HT.sIx_nat, HT.sIx_none, List.drop_zero, Nat.sub_zero, hp, mkS_len, mkS_tl]
    congr 2
    show (⟨(List.take (min 2 (c0 :: l).length) (c0 :: l)).toArray⟩ : Str) = mkS (c0 :: l.take 1)
    have : List.take (min 2 (c0 :: l).length) (c0 :: l) = c0 :: l.take 1 := by
      cases l with
      | nil => rfl
      | cons d l => simp
    rw [this]; rfl
  have em : decide (mkS (c0 :: l.take 1) = Str.ofString "-0") = (decide (c0 = 45) && decide (l.head? = some 48)) := by
    rw [show Str.ofString "-0" = mkS [45, 48] by decide +kernel]
    cases l with
    | nil => simp [mkS]
    | cons d l => simp [mkS]
  have e2 : tAndF (eTst (eBin gEq (eVar 11) (eVar 6))) (tOrF (tAndF (eTst (eBin gEq (eBin gIx (eVar 12) (eC (.int 0))) (eC (.str "0")))) (eTst (eBin gGt (eVar 9) (eC (.int 1))))) (eTst (eBin gEq (eSl (eVar 12) oNone (oSome (eC (.int 2)))) (eC (.str "-0"))))) (dEnv x r n p a lap c k more fgS piece) M = .ok (decide (c0 = 48 ∧ 1 < k ∨ (c0 = 45 ∧ l.head? = some 48))) M := by
    rw [tAndF_ap]
    have ed : decide (fgS = fgS) = true := decide_eq_true rfl
    simp only [eTst_ap, eBin_ap, eVar_ap, dEnv, List.getElem?_cons_succ, List.getElem?_cons_zero, bind_ok, gEq_str, ed, Bool.false_eq_true, if_false, if_true, tOrF_ap, tAndF_ap, eC_ap, ix, e48, gGt_int, eSl_ap, oNone_ap, oSome_ap, sl, em]
    by_cases q1 : c0 = 48
    · subst q1
      by_cases q2 : 1 < k
      · have q2' : (1 : Int) < (k : Int) := by omega
        simp [q2, q2']
      · have q2' : ¬ (1 : Int) < (k : Int) := by omega
        simp [q2, q2']
    · by_cases q3 : c0 = 45
      · subst q3
        simp
      · simp [q1, q3]
  rw [e2, so_ok]
  by_cases q : c0 = 48 ∧ 1 < k ∨ (c0 = 45 ∧ l.head? = some 48)
  · rw [if_pos (decide_eq_true q)]
    have := h1 q
    simp only [badD] at this
    simp only [sRet_ap, eArgs_ap, aCons_ap, aNil_ap, eC_ap, eVar_ap, dEnv, List.getElem?_cons_succ, List.getElem?_cons_zero, bind_ok]
    rw [mkTup_small (by simp), so_ok, seq_ret, sev_ret]
    exact this
  · rw [if_neg (by simpa using q), sSkip_ap, seq_next]
    exact h q
end
end DL
set_option Elab.async false
set_option linter.all false
set_option maxRecDepth 100000
set_option maxHeartbeats 1000000
namespace DL
open PySem L2
section
variable {x : Str} {n p a : Nat} {lap more : Option D} {c k : Nat} {many piece : Str} {M : Mem} {r : Nat} {K : Kt}
theorem due_9 (h1 : (c ∈ smL ∧ 8 < k ∨ (many = fgS ∧ 14 < k)) → K.rt (badD n p "long") M) (h : ¬ (c ∈ smL ∧ 8 < k ∨ (many = fgS ∧ 14 < k)) → SEv (c__law_due_3_10 (dEnv x r n p a lap c k more many piece) M) K) : SEv (c__law_due_3_9 (dEnv x r n p a lap c k more many piece) M) K := by
  unfold c__law_due_3_9
  rw [sSeq_ap, sIf_ap]
  have i2 : ∀ M : Mem, gIn false (.str ⟨#[c]⟩) (.str smS) M = .ok (.bl (decide (c ∈ smL))) M := fun M => by rw [in_chr]; rfl
  have e2 : tOrF (tAndF (eTst (eBin (gIn false) (eVar 8) (eVar 5))) (eTst (eBin gGt (eVar 9) (eC (.int 8))))) (tAndF (eTst (eBin gEq (eVar 11) (eVar 6))) (eTst (eBin gGt (eVar 9) (eC (.int 14))))) (dEnv x r n p a lap c k more many piece) M = .ok (decide (c ∈ smL ∧ 8 < k ∨ (many = fgS ∧ 14 < k))) M := by
    simp only [tOrF_ap, tAndF_ap, eTst_ap, eBin_ap, eVar_ap, dEnv, List.getElem?_cons_succ, List.getElem?_cons_zero, bind_ok, i2, eC_ap, gGt_int, gEq_str, Bool.false_eq_true, if_false]
    have z8 : decide ((8 : Int) < (k : Int)) = decide (8 < k) := by congr 1; simp; omega
    have z14 : decide ((14 : Int) < (k : Int)) = decide (14 < k) := by congr 1; simp; omega
    rw [z8, z14]
    by_cases q1 : c ∈ smL <;> by_cases q2 : 8 < k <;> by_cases q3 : many = fgS <;> by_cases q4 : 14 < k <;> simp [q1, q2, q3, q4]
  rw [e2, so_ok]
  by_cases q : c ∈ smL ∧ 8 < k ∨ (many = fgS ∧ 14 < k)
  · rw [if_pos (decide_eq_true q)]
    have := h1 q
    simp only [badD] at this
    simp only [sRet_ap, eArgs_ap, aCons_ap, aNil_ap, eC_ap, eVar_ap, dEnv, List.getElem?_cons_succ, List.getElem?_cons_zero, bind_ok]
    rw [mkTup_small (by simp), so_ok, seq_ret, sev_ret]
    exact this
  · rw [if_neg (by simpa using q), sSkip_ap, seq_next]
    exact h q
theorem due_8 (h1 : (c = 45 ∧ k = 1 ∨ c ∉ allS.cps.toList) → K.rt (badD n p "sign") M) (h : ¬ (c = 45 ∧ k = 1 ∨ c ∉ allS.cps.toList) → SEv (c__law_due_3_9 (dEnv x r n p a lap c k more many piece) M) K) : SEv (c__law_due_3_8 (dEnv x r n p a lap c k more many piece) M) K := by
  unfold c__law_due_3_8
  rw [sSeq_ap, sIf_ap]
  have i2 : ∀ M : Mem, gIn true (.str ⟨#[c]⟩) (.str allS) M = .ok (.bl (!decide (c ∈ allS.cps.toList))) M := fun M => by rw [in_chr]; rfl
  have e45 : decide ((⟨#[c]⟩ : Str) = Str.ofString "-") = decide (c = 45) := chr_eq rfl
  have a1 : ∀ M : Mem, gAdd (.str smS) (.str fgS) M = .ok (.str (smS ++ fgS)) M := fun M => by
    show (if smS.length + fgS.length ≤ sizeLine then Out.ok (D.str (smS ++ fgS)) M else .bad) = _
    rw [if_pos (by rw [szl]; decide +kernel)]
  have a2 : ∀ M : Mem, gAdd (.str (smS ++ fgS)) (.str (Str.ofString "-*(){}:;,.=! ")) M = .ok (.str allS) M := fun M => by
    show (if (smS ++ fgS).length + (Str.ofString "-*(){}:;,.=! ").length ≤ sizeLine then Out.ok (D.str (smS ++ fgS ++ Str.ofString "-*(){}:;,.=! ")) M else .bad) = _
    rw [if_pos (by rw [szl]; decide +kernel)]
    rfl
  have e2 : tOrF (tAndF (eTst (eBin gEq (eVar 8) (eC (.str "-")))) (eTst (eBin gEq (eVar 9) (eC (.int 1))))) (eTst (eBin (gIn true) (eVar 8) (eBin gAdd (eBin gAdd (eVar 5) (eVar 6)) (eC (.str "-*(){}:;,.=! "))))) (dEnv x r n p a lap c k more many piece) M = .ok (decide (c = 45 ∧ k = 1 ∨ c ∉ allS.cps.toList)) M := by
    simp only [tOrF_ap, tAndF_ap, eTst_ap, eBin_ap, eVar_ap, dEnv, List.getElem?_cons_succ, List.getElem?_cons_zero, bind_ok, eC_ap, gEq_str, gEq_int, e45, Bool.false_eq_true, if_false, a1, a2, i2]
    have z1 : decide ((k : Int) = 1) = decide (k = 1) := by congr 1; simp; omega
    rw [z1]
    by_cases q1 : c = 45 <;> by_cases q2 : k = 1 <;> by_cases q3 : c ∈ allS.cps.toList <;> simp [q1, q2, q3]
    all_goals (rw [q1] at q3; simp [q3])
  rw [e2, so_ok]
  by_cases q : c = 45 ∧ k = 1 ∨ c ∉ allS.cps.toList
  · rw [if_pos (decide_eq_true q)]
    have := h1 q
    simp only [badD] at this
    simp only [sRet_ap, eArgs_ap, aCons_ap, aNil_ap, eC_ap, eVar_ap, dEnv, List.getElem?_cons_succ, List.getElem?_cons_zero, bind_ok]
    rw [mkTup_small (by simp), so_ok, seq_ret, sev_ret]
    exact this
  · rw [if_neg (by simpa using q), sSkip_ap, seq_next]
    exact h q
theorem due_7 {e12 : Option D} (hl : a + k ≤ x.length) (h : SEv (c__law_due_3_8 (dEnv x r n p a lap c k more many (mkS ((x.cps.toList.drop a).take k))) M) K) :
    SEv (c__law_due_3_7 [some (.str x), some (.ref r), some (.int (n : Nat)), some (.int (p : Nat)), some (.int (a : Nat)), some (.str smS), some (.str fgS), lap, some (.str ⟨#[c]⟩), some (.int (k : Nat)), more, some (.str many), e12] M) K := by
  unfold c__law_due_3_7
  have cs := cutS_at (x := x) (a := a) (b := a + k) (by omega) hl
  rw [show a + k - a = k by omega] at cs
  simp only [sSeq_ap, sSet_ap, eSl_ap, oSome_ap, eBin_ap, eVar_ap, List.getElem?_cons_succ, List.getElem?_cons_zero, bind_ok, gAdd_int]
  rw [show ((a : Int) + (k : Int)) = ((a + k : Nat) : Int) by omega]
  rw [show gSl (.str x) (some (a : Int)) (some ((a + k : Nat) : Int)) M = .ok (.str (cutS x (some (a : Int)) (some ((a + k : Nat) : Int)))) M from rfl, cs]
  simp only [so_ok, seq_next, List.set_cons_succ, List.set_cons_zero]
  exact h
theorem rng_big {n : Nat} {m : Mem} (h : n ≤ 1000000) : wkRng2 (.int 1) (.int (n : Nat)) m = .ok ⟨rgD 1 (n - 1), none⟩ m := by
  show (if (in62 1 && in62 (n : Int)) = true then Out.ok (⟨rgD 1 ((n : Int) - 1).toNat, none⟩ : Wk) m else Out.bad) = _
  rw [if_pos (by rw [in62_nat (n := n) (by omega)]; rfl), show ((n : Int) - 1).toNat = n - 1 by omega]
theorem due_6 {e12 : Option D} (hl : a < x.length) (hx : x.length ≤ 1000000) (h : ∀ more, SEv (c__law_due_3_7 [some (.str x), some (.ref r), some (.int (n : Nat)), some (.int (p : Nat)), some (.int (a : Nat)), some (.str smS), some (.str fgS), lap, some (.str ⟨#[c]⟩), some (.int ((1 + run many.cps.toList (x.cps.toList.drop (a + 1)) : Nat) : Int)), more, some (.str many), e12] M) K) :
    SEv (c__law_due_3_6 [some (.str x), some (.ref r), some (.int (n : Nat)), some (.int (p : Nat)), some (.int (a : Nat)), some (.str smS), some (.str fgS), lap, some (.str ⟨#[c]⟩), some (.int 1), more, some (.str many), e12] M) K := by
  unfold c__law_due_3_6
  have es : ((x.length : Int) - (a : Int)) = ((x.length - a : Nat) : Int) := by omega
  simp only [sSeq_ap, sFor_ap, iRng2_ap, eC_ap, eBin_ap, eArgs_ap, aCons_ap, aNil_ap, on1_ap, eVar_ap, List.getElem?_cons_succ, List.getElem?_cons_zero, bind_ok, gLen_str, gSub_int, es, rng_big (n := x.length - a) (by omega), so_ok, sev_seq]
  refine for_rule (w := ⟨rgD 1 (x.length - a - 1), none⟩) (fun j ρ M' => (∃ more, ρ = [some (.str x), some (.ref r), some (.int (n : Nat)), some (.int (p : Nat)), some (.int (a : Nat)), some (.str smS), some (.str fgS), lap, some (.str ⟨#[c]⟩), some (.int ((1 + j : Nat) : Int)), more, some (.str many), e12]) ∧ M' = M ∧ run many.cps.toList (x.cps.toList.drop (a + 1)) = j + run many.cps.toList ((x.cps.toList.drop (a + 1)).drop j)) ⟨⟨_, rfl⟩, rfl, by simp⟩ (fun _ _ _ _ => trivial) ?_ ?_
  · rintro j d ρ M' hd ⟨⟨more, rfl⟩, rfl, hr⟩
    obtain ⟨rfl, hj⟩ := rgD_inv hd
    refine ⟨_, rfl, fun K1 n1 c1 b1 r1 => ?_⟩
    have hlt : a + 1 + j < x.cps.toList.length := by rw [slen]; omega
    have hc : x.cps.toList[a + (1 + j)]? = some (x.cps.toList[a + 1 + j]'hlt) := by rw [← Nat.add_assoc]; exact List.getElem?_eq_getElem hlt
    have hcd : (x.cps.toList.drop (a + 1))[j]? = some (x.cps.toList[a + 1 + j]'hlt) := by rw [List.getElem?_drop]; exact List.getElem?_eq_getElem hlt
    generalize x.cps.toList[a + 1 + j]'hlt = y at hc hcd
    have ei := ix_chr (m := M') hc
    have ea : ((a : Int) + (1 + (j : Int))) = ((a + (1 + j) : Nat) : Int) := by omega
    rw [drop_get hcd] at hr
    unfold b__law_due_2
    have e2 : tOrF (eTst (eBin gEq (eVar 11) (eC (.str "")))) (eTst (eBin (gIn true) (eBin gIx (eVar 0) (eBin gAdd (eVar 4) (eVar 10))) (eVar 11))) [some (.str x), some (.ref r), some (.int (n : Nat)), some (.int (p : Nat)), some (.int (a : Nat)), some (.str smS), some (.str fgS), lap, some (.str ⟨#[c]⟩), some (.int ((1 + j : Nat) : Int)), some (.int (1 + (j : Int))), some (.str many), e12] M' = .ok (decide (y ∉ many.cps.toList)) M' := by
      simp only [tOrF_ap, eTst_ap, eBin_ap, eVar_ap, eC_ap, List.getElem?_cons_succ, List.getElem?_cons_zero, bind_ok, gEq_str, Bool.false_eq_true, if_false, gAdd_int, ea, ei, in_chr, negB]
      by_cases q : many = Str.ofString ""
      · rw [decide_eq_true q, if_pos rfl]
        have : many.cps.toList = [] := by rw [q]; rfl
        rw [this]; simp
      · rw [decide_eq_false q, if_neg (by simp)]
        simp
    simp only [tgN_ap, List.set_cons_succ, List.set_cons_zero, sSeq_ap, sIf_ap, e2, so_ok]
    by_cases q : y ∈ many.cps.toList
    · rw [if_neg (by simpa using q)]
      rw [run_in q] at hr
      simp only [sSkip_ap, seq_next, sSet_ap, eBin_ap, eVar_ap, eC_ap, List.getElem?_cons_succ, List.getElem?_cons_zero, bind_ok, gAdd_int, so_ok, List.set_cons_succ, List.set_cons_zero, sev_next]
      refine n1 _ _ ⟨⟨some (.int (1 + (j : Int))), ?_⟩, rfl, ?_⟩
      · rw [show ((1 : Int) + (j : Int) + 1) = ((1 + (j + 1) : Nat) : Int) by omega]
      · rw [hr]; omega
    · rw [if_pos (by simpa using q)]
      rw [run_out q] at hr
      simp only [sBrk_ap, seq_brk, sev_brk]
      refine b1 _ _ ?_
      have := h (some (.int (1 + (j : Int))))
      rw [hr] at this
      exact this
  · rintro ρ M' ⟨⟨more, rfl⟩, rfl, hr⟩
    rw [show (Wk.mk (rgD 1 (x.length - a - 1)) none).ds.length = x.length - a - 1 from rgD_len] at hr ⊢
    have e0 : (x.cps.toList.drop (a + 1)).drop (x.length - a - 1) = [] := by rw [List.drop_drop]; exact List.drop_eq_nil_of_le (by rw [slen]; omega)
    rw [e0, run_nil, Nat.add_zero] at hr
    have := h more
    rw [hr] at this
    exact this
/-- the signs that may follow -/
def manyS (c : Nat) : Str := if c ∈ fgL ∨ c = 45 then fgS else if c ∈ smL then smS else Str.ofString ""
theorem due_5 {e11 e12 : Option D} (h : SEv (c__law_due_3_6 [some (.str x), some (.ref r), some (.int (n : Nat)), some (.int (p : Nat)), some (.int (a : Nat)), some (.str smS), some (.str fgS), lap, some (.str ⟨#[c]⟩), some (.int 1), more, some (.str (manyS c)), e12] M) K) :
    SEv (c__law_due_3_5 [some (.str x), some (.ref r), some (.int (n : Nat)), some (.int (p : Nat)), some (.int (a : Nat)), some (.str smS), some (.str fgS), lap, some (.str ⟨#[c]⟩), some (.int 1), more, e11, e12] M) K := by
  unfold c__law_due_3_5
  have i1 : ∀ M : Mem, gIn false (.str ⟨#[c]⟩) (.str smS) M = .ok (.bl (decide (c ∈ smL))) M := fun M => by rw [in_chr]; rfl
  have i2 : ∀ M : Mem, gIn false (.str ⟨#[c]⟩) (.str fgS) M = .ok (.bl (decide (c ∈ fgL))) M := fun M => by rw [in_chr]; rfl
  have e45 : decide ((⟨#[c]⟩ : Str) = Str.ofString "-") = decide (c = 45) := chr_eq rfl
  have e3 : sSet 11 (eIf (tOrF (eTst (eBin (gIn false) (eVar 8) (eVar 6))) (eTst (eBin gEq (eVar 8) (eC (.str "-"))))) (eVar 6) (eIf (eTst (eBin (gIn false) (eVar 8) (eVar 5))) (eVar 5) (eC (.str "")))) [some (.str x), some (.ref r), some (.int (n : Nat)), some (.int (p : Nat)), some (.int (a : Nat)), some (.str smS), some (.str fgS), lap, some (.str ⟨#[c]⟩), some (.int 1), more, e11, e12] M = .next [some (.str x), some (.ref r), some (.int (n : Nat)), some (.int (p : Nat)), some (.int (a : Nat)), some (.str smS), some (.str fgS), lap, some (.str ⟨#[c]⟩), some (.int 1), more, some (.str (manyS c)), e12] M := by
    simp only [sSet_ap, eIf_ap, tOrF_ap, eTst_ap, eBin_ap, eVar_ap, eC_ap, List.getElem?_cons_succ, List.getElem?_cons_zero, bind_ok, i1, i2, gEq_str, Bool.false_eq_true, if_false, e45]
    unfold manyS
    by_cases q1 : c ∈ fgL <;> by_cases q2 : c = 45 <;> by_cases q3 : c ∈ smL <;> simp [q1, q2, q3]
    all_goals (subst q2; simp [q1, q3])
  rw [sSeq_ap, e3, seq_next]
  exact h
end
end DL
set_option Elab.async false
set_option linter.all false
set_option maxRecDepth 100000
set_option maxHeartbeats 1000000
namespace DL
open PySem L2
theorem sm_ne_fg : smS ≠ fgS := by decide +kernel
theorem no_ne_fg : Str.ofString "" ≠ fgS := by decide +kernel
section
variable {x : Str} {n p a : Nat} {lap more : Option D} {c k : Nat} {many piece : Str} {r : Nat}
theorem v_word (hc : c ∈ smL) (M : Mem) : (eIf (eTst (eBin (gIn false) (eVar 8) (eVar 5))) (eArgs mkTup (aCons (eC (.str "word")) (aCons (eVar 12) (aCons (eVar 2) (aCons (eVar 3) aNil))))) (eIf (eTst (eBin gEq (eVar 11) (eVar 6))) (eArgs mkTup (aCons (eC (.str "number")) (aCons (eArgs (on1 gInt) (aCons (eVar 12) aNil)) (aCons (eVar 2) (aCons (eVar 3) aNil))))) (eArgs mkTup (aCons (eC (.str "sign")) (aCons (eVar 8) (aCons (eVar 2) (aCons (eVar 3) aNil))))))) (dEnv x r n p a lap c k more many piece) M = .ok (tokD "word" (.str piece) n p) M := by
  have i1 : ∀ M : Mem, gIn false (.str ⟨#[c]⟩) (.str smS) M = .ok (.bl (decide (c ∈ smL))) M := fun M => by rw [in_chr]; rfl
  simp only [eIf_ap, eTst_ap, eBin_ap, eVar_ap, dEnv, List.getElem?_cons_succ, List.getElem?_cons_zero, bind_ok, i1, decide_eq_true hc, if_true, eArgs_ap, aCons_ap, aNil_ap, eC_ap]
  rw [mkTup_small (by simp)]; rfl
theorem v_num (hc : c ∉ smL) {v : Int} (hv : ∀ M : Mem, gInt (.str piece) M = .ok (.int v) M) (M : Mem) : (eIf (eTst (eBin (gIn false) (eVar 8) (eVar 5))) (eArgs mkTup (aCons (eC (.str "word")) (aCons (eVar 12) (aCons (eVar 2) (aCons (eVar 3) aNil))))) (eIf (eTst (eBin gEq (eVar 11) (eVar 6))) (eArgs mkTup (aCons (eC (.str "number")) (aCons (eArgs (on1 gInt) (aCons (eVar 12) aNil)) (aCons (eVar 2) (aCons (eVar 3) aNil))))) (eArgs mkTup (aCons (eC (.str "sign")) (aCons (eVar 8) (aCons (eVar 2) (aCons (eVar 3) aNil))))))) (dEnv x r n p a lap c k more fgS piece) M = .ok (tokD "number" (.int v) n p) M := by
  have i1 : ∀ M : Mem, gIn false (.str ⟨#[c]⟩) (.str smS) M = .ok (.bl (decide (c ∈ smL))) M := fun M => by rw [in_chr]; rfl
  have ed : decide (fgS = fgS) = true := decide_eq_true rfl
  simp only [eIf_ap, eTst_ap, eBin_ap, eVar_ap, dEnv, List.getElem?_cons_succ, List.getElem?_cons_zero, bind_ok, i1, decide_eq_false hc, Bool.false_eq_true, if_false, gEq_str, ed, if_true, eArgs_ap, aCons_ap, aNil_ap, eC_ap, on1_ap, hv]
  rw [mkTup_small (by simp)]; rfl
theorem v_sign (hc : c ∉ smL) (hm : many ≠ fgS) (M : Mem) : (eIf (eTst (eBin (gIn false) (eVar 8) (eVar 5))) (eArgs mkTup (aCons (eC (.str "word")) (aCons (eVar 12) (aCons (eVar 2) (aCons (eVar 3) aNil))))) (eIf (eTst (eBin gEq (eVar 11) (eVar 6))) (eArgs mkTup (aCons (eC (.str "number")) (aCons (eArgs (on1 gInt) (aCons (eVar 12) aNil)) (aCons (eVar 2) (aCons (eVar 3) aNil))))) (eArgs mkTup (aCons (eC (.str "sign")) (aCons (eVar 8) (aCons (eVar 2) (aCons (eVar 3) aNil))))))) (dEnv x r n p a lap c k more many piece) M = .ok (tokD "sign" (.str (mkS [c])) n p) M := by
  have i1 : ∀ M : Mem, gIn false (.str ⟨#[c]⟩) (.str smS) M = .ok (.bl (decide (c ∈ smL))) M := fun M => by rw [in_chr]; rfl
  simp only [eIf_ap, eTst_ap, eBin_ap, eVar_ap, dEnv, List.getElem?_cons_succ, List.getElem?_cons_zero, bind_ok, i1, decide_eq_false hc, Bool.false_eq_true, if_false, gEq_str, decide_eq_false hm, eArgs_ap, aCons_ap, aNil_ap, eC_ap]
  rw [mkTup_small (by simp)]; rfl
end
theorem due_sign {x : Str} {n p a c : Nat} {m : Mem} {ts : List D} {K : Kt} {e7 e10 e11 e12 : Option D} (hx : x.length ≤ 1000000) (hts : ts.length < 1000000) (hc : x.cps.toList[a]? = some c)
    (hsp : c = 32 → ∀ e7 e8 e9 e10 e11 e12, K.nx [some (.str x), some (.ref m.length), some (.int (n : Nat)), some (.int ((p + 1 : Nat) : Int)), some (.int ((a + 1 : Nat) : Int)), some (.str smS), some (.str fgS), e7, e8, e9, e10, e11, e12] (m ++ [.lst ts]))
    (htok : c ≠ 32 → ∀ t k, tok1 n p (x.cps.toList.drop a) = .inl (t, k) → ∀ e7 e8 e9 e10 e11 e12, K.nx [some (.str x), some (.ref m.length), some (.int (n : Nat)), some (.int ((p + k : Nat) : Int)), some (.int ((a + k : Nat) : Int)), some (.str smS), some (.str fgS), e7, e8, e9, e10, e11, e12] (m ++ [.lst (ts ++ [t])]))
    (hbad : c ≠ 32 → ∀ w, tok1 n p (x.cps.toList.drop a) = .inr w → K.rt (badD n p w) (m ++ [.lst ts])) :
    SEv (c__law_due_3_5 [some (.str x), some (.ref m.length), some (.int (n : Nat)), some (.int (p : Nat)), some (.int (a : Nat)), some (.str smS), some (.str fgS), e7, some (.str ⟨#[c]⟩), some (.int 1), e10, e11, e12] (m ++ [.lst ts])) K := by
  have hl := get_lt' hc
  rw [slen] at hl
  have dg := drop_get hc
  have hr := fun S => run_le S (x.cps.toList.drop (a + 1))
  have hrl : (x.cps.toList.drop (a + 1)).length = x.length - (a + 1) := by rw [List.length_drop, slen]
  rw [dg] at htok hbad
  simp only [tok1] at htok hbad
  refine due_5 (due_6 hl hx fun more => due_7 (by have := hr (manyS c).cps.toList; omega) ?_)
  rw [dg]
  generalize x.cps.toList.drop (a + 1) = rr at *
  have al := allS_mem c
  by_cases q1 : c ∈ smL
  · obtain ⟨d1, d2, d3, d4⟩ := sm_dis c q1
    have em : manyS c = smS := by unfold manyS; rw [if_neg (by simp [d1, d2]), if_pos q1]
    rw [em, show smS.cps.toList = smL from rfl, Nat.add_comm 1, ← run_in q1]
    have ht := htok d3
    have hb := hbad d3
    rw [if_pos q1] at ht hb
    refine due_8 (fun q => absurd q ?_) fun _ => due_9 (fun q => ?_) fun q => due_10 sm_ne_fg (due_11 (v := tokD "word" (.str (mkS ((c :: rr).take (run smL (c :: rr))))) n p) hts d3 (v_word q1) ?_)
    · rintro (⟨e, _⟩ | e)
      · exact d2 e
      · exact e (al.mpr (.inl q1))
    · have q8 : 8 < run smL (c :: rr) := by
        rcases q with ⟨_, h⟩ | ⟨h, _⟩
        · exact h
        · exact absurd h sm_ne_fg
      rw [if_pos q8] at hb
      exact hb _ rfl
    · have q8 : ¬ 8 < run smL (c :: rr) := fun h => q (.inl ⟨q1, h⟩)
      rw [if_neg q8] at ht
      exact ht _ _ rfl _ _ _ _ _ _
  · simp only [if_neg q1] at htok hbad
    by_cases q2 : c = 45
    · subst q2
      have ht := htok (by decide)
      have hb := hbad (by decide)
      rw [if_pos rfl] at ht hb
      have em : manyS 45 = fgS := by unfold manyS; rw [if_pos (.inr rfl)]
      rw [em, show fgS.cps.toList = fgL from rfl]
      have hrr := hr fgL
      unfold numT at ht hb
      refine due_8 (fun q => ?_) fun q => due_9 (fun q' => ?_) fun q' => due_10n (c0 := 45) (l := rr.take (run fgL rr)) (by rw [Nat.add_comm 1, List.take_succ_cons]) (fun q'' => ?_) fun q'' => ?_
      · have z : run fgL rr = 0 := by
          rcases q with ⟨_, h⟩ | h
          · omega
          · exact absurd (al.mpr (.inr (.inr (.inl rfl)))) h
        rw [if_pos z] at hb
        exact hb _ rfl
      · have z : run fgL rr ≠ 0 := fun z => q (.inl ⟨rfl, by rw [z]⟩)
        have y : 14 < 1 + run fgL rr := by
          rcases q' with ⟨h, _⟩ | ⟨_, h⟩
          · exact absurd h q1
          · exact h
        rw [if_neg z, if_pos y] at hb
        exact hb _ rfl
      · have z : run fgL rr ≠ 0 := fun z => q (.inl ⟨rfl, by rw [z]⟩)
        have y : ¬ 14 < 1 + run fgL rr := fun y => q' (.inr ⟨rfl, y⟩)
        have v : rr.head? = some 48 := by
          rcases q'' with ⟨h, _⟩ | ⟨_, h⟩
          · cases h
          · cases rr with
            | nil => simp at h
            | cons d rr =>
              obtain ⟨j, hj⟩ := Nat.exists_eq_succ_of_ne_zero z
              rw [hj, List.take_succ_cons] at h
              exact h
        rw [if_neg z, if_neg y, if_pos ⟨v, by omega⟩] at hb
        exact hb _ rfl
      · have z : run fgL rr ≠ 0 := fun z => q (.inl ⟨rfl, by rw [z]⟩)
        have y : ¬ 14 < 1 + run fgL rr := fun y => q' (.inr ⟨rfl, y⟩)
        have v : ¬ (rr.head? = some 48 ∧ 1 < 1 + run fgL rr) := fun ⟨v, _⟩ => q'' (.inr ⟨rfl, by
          cases rr with
          | nil => cases v
          | cons d rr =>
            obtain ⟨j, hj⟩ := Nat.exists_eq_succ_of_ne_zero z
            rw [hj, List.take_succ_cons]
            exact v⟩)
        rw [if_neg z, if_neg y, if_neg v] at ht
        have pn := piece_num (cs := 45 :: rr) (b := rr) (neg := 1) (.inr ⟨rfl, rfl⟩) z (by omega)
        refine due_11 (v := tokD "number" (.int (valOf ((45 :: rr).take (1 + run fgL rr)))) n p) hts (by decide) (v_num q1 fun M => ?_) (ht _ _ rfl _ _ _ _ _ _)
        unfold gInt
        simp only
        rw [if_pos (by rw [mkS_len, List.length_take]; omega), pn]
    · simp only [if_neg q2] at htok hbad
      by_cases q3 : c ∈ fgL
      · obtain ⟨d1, d2, d3, d4⟩ := fg_dis c q3
        have ht := htok d3
        have hb := hbad d3
        rw [if_pos q3] at ht hb
        have em : manyS c = fgS := by unfold manyS; rw [if_pos (.inl q3)]
        have hrr := run_le fgL (c :: rr)
        have z : run fgL (c :: rr) ≠ 0 := by rw [run_in q3]; omega
        rw [em, show fgS.cps.toList = fgL from rfl, Nat.add_comm 1, ← run_in q3]
        unfold numT at ht hb
        rw [if_neg z, Nat.zero_add] at ht hb
        refine due_8 (fun q => absurd q ?_) fun _ => due_9 (fun q' => ?_) fun q' => due_10n (c0 := c) (l := rr.take (run fgL rr)) (by rw [run_in q3, List.take_succ_cons]) (fun q'' => ?_) fun q'' => ?_
        · rintro (⟨e, _⟩ | e)
          · exact q2 e
          · exact e (al.mpr (.inr (.inl q3)))
        · have y : 14 < run fgL (c :: rr) := by
            rcases q' with ⟨h, _⟩ | ⟨_, h⟩
            · exact absurd h q1
            · exact h
          rw [if_pos y] at hb
          exact hb _ rfl
        · have y : ¬ 14 < run fgL (c :: rr) := fun y => q' (.inr ⟨rfl, y⟩)
          have v : c = 48 ∧ 1 < run fgL (c :: rr) := by
            rcases q'' with h | ⟨h, _⟩
            · exact h
            · exact absurd h q2
          rw [if_neg y, if_pos ⟨by rw [List.head?_cons, v.1], v.2⟩] at hb
          exact hb _ rfl
        · have y : ¬ 14 < run fgL (c :: rr) := fun y => q' (.inr ⟨rfl, y⟩)
          have v : ¬ ((c :: rr).head? = some 48 ∧ 1 < run fgL (c :: rr)) := fun ⟨v, w⟩ => q'' (.inl ⟨by simpa using v, w⟩)
          rw [if_neg y, if_neg v] at ht
          have pn := piece_num (cs := c :: rr) (b := c :: rr) (neg := 0) (.inl ⟨rfl, rfl⟩) z (by omega)
          rw [Nat.zero_add] at pn
          refine due_11 (v := tokD "number" (.int (valOf ((c :: rr).take (run fgL (c :: rr))))) n p) hts d3 (v_num q1 fun M => ?_) (ht _ _ rfl _ _ _ _ _ _)
          unfold gInt
          simp only
          rw [if_pos (by rw [mkS_len, List.length_take]; omega), pn]
      · simp only [if_neg q3] at htok hbad
        have em : manyS c = Str.ofString "" := by unfold manyS; rw [if_neg (by simp [q3, q2]), if_neg q1]
        have e0 : run (Str.ofString "").cps.toList rr = 0 := by
          have : (Str.ofString "").cps.toList = [] := rfl
          rw [this]
          cases rr with
          | nil => rfl
          | cons d rr => exact run_out (by simp)
        rw [em, e0]
        by_cases q4 : c ∈ sgL
        · obtain ⟨d1, d2, d3, d4⟩ := sg_dis c q4
          have ht := htok d3
          rw [if_pos q4] at ht
          refine due_8 (fun q => absurd q ?_) fun _ => due_9 (fun q' => absurd q' ?_) fun q' => due_10 no_ne_fg (due_11 (v := tokD "sign" (.str (mkS [c])) n p) hts d3 (v_sign q1 no_ne_fg) (ht _ _ rfl _ _ _ _ _ _))
          · rintro (⟨e, _⟩ | e)
            · exact q2 e
            · exact e (al.mpr (.inr (.inr (.inr (.inl q4)))))
          · rintro (⟨e, _⟩ | ⟨e, _⟩)
            · exact q1 e
            · exact no_ne_fg e
        · by_cases q5 : c = 32
          · subst q5
            refine due_8 (fun q => absurd q ?_) fun _ => due_9 (fun q' => absurd q' ?_) fun q' => due_10 no_ne_fg (due_11s (hsp rfl _ _ _ _ _ _))
            · rintro (⟨e, _⟩ | e)
              · exact q2 e
              · exact e (al.mpr (.inr (.inr (.inr (.inr rfl)))))
            · rintro (⟨e, _⟩ | ⟨e, _⟩)
              · exact q1 e
              · exact no_ne_fg e
          · have hb := hbad q5
            rw [if_neg q4] at hb
            refine due_8 (fun q => hb _ rfl) fun q => absurd (Or.inr fun z => ?_) q
            rcases al.mp z with h | h | h | h | h
            · exact q1 h
            · exact q3 h
            · exact q2 h
            · exact q4 h
            · exact q5 h
end DL
set_option Elab.async false
set_option linter.all false
set_option maxRecDepth 100000
set_option maxHeartbeats 1000000
namespace DL
open PySem L2
theorem com_in {c : Nat} {r : List Nat} (h : c ≠ 10) : com (c :: r) = com r + 1 := by unfold com; rw [List.takeWhile_cons, if_pos (by simpa using h)]; rfl
theorem com_out {r : List Nat} : com (10 :: r) = 0 := by unfold com; rw [List.takeWhile_cons, if_neg (by simp)]; rfl
theorem com_nil : com [] = 0 := rfl
theorem due_hash {x : Str} {n p a : Nat} {r : Nat} {M : Mem} {K : Kt} {e7 e10 e11 e12 : Option D} (hx : x.length ≤ 1000000) (hc : x.cps.toList[a]? = some 35)
    (h : ∀ e7 e8 e9 e10 e11 e12, K.ct [some (.str x), some (.ref r), some (.int (n : Nat)), some (.int ((p + (1 + com (x.cps.toList.drop (a + 1))) : Nat) : Int)), some (.int ((a + (1 + com (x.cps.toList.drop (a + 1))) : Nat) : Int)), some (.str smS), some (.str fgS), e7, e8, e9, e10, e11, e12] M) :
    SEv (c__law_due_3_4 [some (.str x), some (.ref r), some (.int (n : Nat)), some (.int (p : Nat)), some (.int (a : Nat)), some (.str smS), some (.str fgS), e7, some (.str ⟨#[35]⟩), some (.int 1), e10, e11, e12] M) K := by
  have hl := get_lt' hc
  rw [slen] at hl
  have es : ((x.length : Int) - (a : Int)) = ((x.length - a : Nat) : Int) := by omega
  have e35 : decide ((⟨#[35]⟩ : Str) = Str.ofString "#") = true := by rw [chr_eq (s := Str.ofString "#") (k := 35) rfl]; rfl
  unfold c__law_due_3_4
  simp only [sSeq_ap, sIf_ap, eTst_ap, eBin_ap, eVar_ap, eC_ap, List.getElem?_cons_succ, List.getElem?_cons_zero, bind_ok, gEq_str, Bool.false_eq_true, if_false, e35, so_ok, if_true, sFor_ap, iRng1_ap, eArgs_ap, aCons_ap, aNil_ap, on1_ap, gLen_str, gSub_int, es, wkRng1_nat]
  rw [if_pos (in62_nat (n := x.length - a) (by omega)), so_ok]
  simp only [sev_seq]
  refine for_rule (w := ⟨rgD 0 (x.length - a), none⟩) (fun j ρ M' => (∃ e10, ρ = [some (.str x), some (.ref r), some (.int (n : Nat)), some (.int (p : Nat)), some (.int (a : Nat)), some (.str smS), some (.str fgS), e7, some (.str ⟨#[35]⟩), some (.int ((max j 1 : Nat) : Int)), e10, e11, e12]) ∧ M' = M ∧ com (x.cps.toList.drop (a + 1)) = (j - 1) + com ((x.cps.toList.drop (a + 1)).drop (j - 1))) ⟨⟨_, rfl⟩, rfl, by simp⟩ (fun _ _ _ _ => trivial) ?_ ?_
  · rintro j d ρ M' hd ⟨⟨e10, rfl⟩, rfl, hr⟩
    obtain ⟨rfl, hj⟩ := rgD_inv hd
    refine ⟨_, rfl, fun K1 n1 c1 b1 r1 => ?_⟩
    have hlt : a + j < x.cps.toList.length := by rw [slen]; omega
    have hcj : x.cps.toList[a + j]? = some (x.cps.toList[a + j]'hlt) := List.getElem?_eq_getElem hlt
    generalize x.cps.toList[a + j]'hlt = y at hcj
    have ei := ix_chr (m := M') hcj
    have ea : ((a : Int) + (0 + (j : Int))) = ((a + j : Nat) : Int) := by omega
    have ey : decide ((⟨#[y]⟩ : Str) = Str.ofString "\n") = decide (y = 10) := chr_eq rfl
    unfold b__law_due_1
    simp only [tgN_ap, List.set_cons_succ, List.set_cons_zero, sSeq_ap, sIf_ap, eTst_ap, eBin_ap, eVar_ap, eC_ap, List.getElem?_cons_succ, List.getElem?_cons_zero, bind_ok, gAdd_int, ea, ei, gEq_str, Bool.false_eq_true, if_false, ey, so_ok]
    by_cases q : y = 10
    · subst q
      have j1 : 1 ≤ j := by
        rcases Nat.eq_zero_or_pos j with z | z
        · subst z
          rw [Nat.add_zero, hc] at hcj
          cases hcj
        · exact z
      rw [decide_eq_true rfl, if_pos rfl]
      simp only [sBrk_ap, seq_brk, sev_brk]
      refine b1 _ _ ?_
      have hd : (x.cps.toList.drop (a + 1))[j - 1]? = some 10 := by rw [List.getElem?_drop, show a + 1 + (j - 1) = a + j by omega]; exact hcj
      rw [drop_get hd, com_out] at hr
      have hm : max j 1 = 1 + com (x.cps.toList.drop (a + 1)) := by omega
      simp only [sSeq_ap, sPar_ap, aCons_ap, aNil_ap, eBin_ap, eVar_ap, List.getElem?_cons_succ, List.getElem?_cons_zero, bind_ok, gAdd_int, so_ok, List.set_cons_succ, List.set_cons_zero, seq_next, sCont_ap, seq_cont, sev_cont]
      rw [hm, show ((a : Int) + ((1 + com (x.cps.toList.drop (a + 1)) : Nat) : Int)) = ((a + (1 + com (x.cps.toList.drop (a + 1))) : Nat) : Int) by omega, show ((p : Int) + ((1 + com (x.cps.toList.drop (a + 1)) : Nat) : Int)) = ((p + (1 + com (x.cps.toList.drop (a + 1))) : Nat) : Int) by omega]
      exact h _ _ _ _ _ _
    · rw [decide_eq_false q, if_neg (by simp)]
      simp only [sSkip_ap, seq_next, sSet_ap, eBin_ap, eVar_ap, eC_ap, List.getElem?_cons_succ, List.getElem?_cons_zero, bind_ok, gAdd_int, so_ok, List.set_cons_succ, List.set_cons_zero, sev_next]
      refine n1 _ _ ⟨⟨some (.int (0 + (j : Int))), ?_⟩, rfl, ?_⟩
      · rw [show max (j + 1) 1 = j + 1 by omega, show (0 + (j : Int) + 1) = ((j + 1 : Nat) : Int) by omega]
      · rw [Nat.add_sub_cancel]
        rcases Nat.eq_zero_or_pos j with z | z
        · subst z; simp
        · have hd : (x.cps.toList.drop (a + 1))[j - 1]? = some y := by rw [List.getElem?_drop, show a + 1 + (j - 1) = a + j by omega]; exact hcj
          rw [drop_get hd, com_in q, show j - 1 + 1 = j by omega] at hr
          omega
  · rintro ρ M' ⟨⟨e10, rfl⟩, rfl, hr⟩
    rw [show (Wk.mk (rgD 0 (x.length - a)) none).ds.length = x.length - a from rgD_len] at hr ⊢
    have e0 : (x.cps.toList.drop (a + 1)).drop (x.length - a - 1) = [] := by rw [List.drop_drop]; exact List.drop_eq_nil_of_le (by rw [slen]; omega)
    rw [e0, com_nil] at hr
    have hm : max (x.length - a) 1 = 1 + com (x.cps.toList.drop (a + 1)) := by omega
    simp only [sSeq_ap, sPar_ap, aCons_ap, aNil_ap, eBin_ap, eVar_ap, List.getElem?_cons_succ, List.getElem?_cons_zero, bind_ok, gAdd_int, so_ok, List.set_cons_succ, List.set_cons_zero, seq_next, sCont_ap, seq_cont, sev_cont]
    rw [hm, show ((a : Int) + ((1 + com (x.cps.toList.drop (a + 1)) : Nat) : Int)) = ((a + (1 + com (x.cps.toList.drop (a + 1))) : Nat) : Int) by omega, show ((p : Int) + ((1 + com (x.cps.toList.drop (a + 1)) : Nat) : Int)) = ((p + (1 + com (x.cps.toList.drop (a + 1))) : Nat) : Int) by omega]
    exact h _ _ _ _ _ _
def resD (q : Res) : D := match q.2 with | none => .tup [.str "told", .tup q.1] | some (n, p, w) => badD n p w
theorem resD_fit {cs : List Nat} {n p : Nat} (h : cs.length ≤ 11000) : (resD (scan n p cs)).fit = true ∧ (resD (scan n p cs)).nodes < 60000 := by
  obtain ⟨h1, h2⟩ := scan_ok _ cs n p (Nat.le_refl _)
  generalize scan n p cs = q at *
  obtain ⟨ts, o⟩ := q
  cases o with
  | some o =>
    obtain ⟨n, p, w⟩ := o
    simp [resD, badD, D.fit, D.fits, D.nodes, D.nodess]
  | none =>
    have hf : (D.tup ts).fit = true := by
      simp only [D.fit, fits_all]
      exact List.all_eq_true.mpr fun t ht => (h2 t ht).1
    have hn := nodess_map (f := id) (c := 5) (l := ts) fun t ht => (h2 t ht).2
    rw [List.map_id] at hn
    have h1' : ts.length ≤ cs.length := h1
    refine ⟨?_, ?_⟩
    · show (D.tup [.str "told", .tup ts]).fit = true
      simp only [D.fit, D.fits, Bool.and_true, Bool.true_and] at hf ⊢
      exact hf
    · show (D.tup [.str "told", .tup ts]).nodes < 60000
      simp only [D.nodes, D.nodess]
      omega
theorem resD_plain {cs : List Nat} {n p : Nat} : (resD (scan n p cs)).plain = true := by
  obtain ⟨h1, h2⟩ := scan_ok _ cs n p (Nat.le_refl _)
  generalize scan n p cs = q at *
  obtain ⟨ts, o⟩ := q
  cases o with
  | some o =>
    obtain ⟨n, p, w⟩ := o
    simp [resD, badD, D.plain, D.plains]
  | none =>
    have : D.plains ts = true := by
      rw [plains_all]
      exact List.all_eq_true.mpr fun t ht => fit_plain t (h2 t ht).1
    show (D.tup [.str "told", .tup ts]).plain = true
    simp [D.plain, D.plains, this]
theorem law_due_s {x : Str} {m : Mem} (hx : x.length ≤ 100000) : F__law_due [.str x] m = .ok (resD (scan 1 1 x.cps.toList)) m := by
  refine run_pure rfl resD_plain fun K h0 hK => ?_
  rw [chain__law_due, show envOf ["text", "told", "line", "place", "at", "letters", "figures", "lap", "sign", "size", "more", "many", "piece"] [.str x] = [some (.str x), none, none, none, none, none, none, none, none, none, none, none, none] from rfl]
  have hlen : (scan 1 1 x.cps.toList).1.length ≤ 100000 := by
    have := (scan_ok _ x.cps.toList 1 1 (Nat.le_refl _)).1
    rw [slen] at this
    omega
  have hs0 : scan 1 1 x.cps.toList = addR [] (scan 1 1 (x.cps.toList.drop 0)) := by simp [addR]
  generalize hQ : scan 1 1 x.cps.toList = Q at *
  have es : ((x.length : Int) + 1) = ((x.length + 1 : Nat) : Int) := by omega
  unfold c__law_due_1
  simp only [sSeq_ap, sAsg_ap, eArgs_ap, aCons_ap, aNil_ap, eC_ap, mkLst_nil, bind_ok, mkTup_cons, List.length_cons, List.length_nil]
  rw [if_pos (by decide), so_ok]
  simp only [tgTup_tup, tgCons_ap, tgNil_ap, tgN_ap, Option.bind_some, List.set_cons_succ, List.set_cons_zero, seq_next]
  unfold c__law_due_2
  simp only [sSeq_ap, sAsg_ap, eArgs_ap, aCons_ap, aNil_ap, eC_ap, bind_ok]
  rw [mkTup_small (by simp), so_ok]
  simp only [tgTup_tup, tgCons_ap, tgNil_ap, tgN_ap, Option.bind_some, List.set_cons_succ, List.set_cons_zero, seq_next]
  unfold c__law_due_3
  simp only [sSeq_ap, sFor_ap, iRng1_ap, eBin_ap, eArgs_ap, aCons_ap, aNil_ap, on1_ap, eVar_ap, eC_ap, List.getElem?_cons_succ, List.getElem?_cons_zero, bind_ok, gLen_str, gAdd_int, es, wkRng1_nat]
  rw [if_pos (in62_nat (n := x.length + 1) (by omega)), so_ok]
  simp only [sev_seq]
  refine for_rule (w := ⟨rgD 0 (x.length + 1), none⟩) (fun i ρ M => ∃ (n p a : Nat) (ts : List D) (e7 e8 e9 e10 e11 e12 : Option D), ρ = [some (.str x), some (.ref m.length), some (.int (n : Nat)), some (.int (p : Nat)), some (.int (a : Nat)), some (.str smS), some (.str fgS), e7, e8, e9, e10, e11, e12] ∧ M = m ++ [.lst ts] ∧ a ≤ x.length ∧ i ≤ a ∧ Q = addR ts (scan n p (x.cps.toList.drop a)))
    ⟨1, 1, 0, [], _, _, _, _, _, _, rfl, rfl, Nat.zero_le _, Nat.le_refl _, hs0⟩ (fun _ _ _ _ => trivial) ?_ ?_
  · rintro i d ρ M hd ⟨n, p, a, ts, e7, e8, e9, e10, e11, e12, rfl, rfl, ha, hi, hq⟩
    refine ⟨_, rfl, fun K1 n1 c1 b1 r1 => ?_⟩
    have tb : ts.length < 1000000 := by
      have := congrArg (fun q : Res => q.1.length) hq
      simp [addR] at this
      omega
    rw [chain__law_due_3]
    unfold c__law_due_3_1
    by_cases hge : a < x.length
    · have hge' : ¬ (x.length : Int) ≤ (a : Int) := by omega
      have hlt : a < x.cps.toList.length := by rw [slen]; exact hge
      have hc : x.cps.toList[a]? = some (x.cps.toList[a]'hlt) := List.getElem?_eq_getElem hlt
      generalize x.cps.toList[a]'hlt = c at hc
      have ei := ix_chr (m := m ++ [.lst ts]) hc
      have dg := drop_get hc
      have e10' : decide ((⟨#[c]⟩ : Str) = Str.ofString "\n") = decide (c = 10) := chr_eq rfl
      simp only [List.set_cons_succ, List.set_cons_zero, sSeq_ap, sIf_ap, eTst_ap, eBin_ap, eVar_ap, eArgs_ap, aCons_ap, aNil_ap, on1_ap, List.getElem?_cons_succ, List.getElem?_cons_zero, bind_ok, gLen_str, gGe_int, decide_eq_false hge', Bool.false_eq_true, if_false, so_ok, sSkip_ap, seq_next]
      unfold c__law_due_3_2
      simp only [sSeq_ap, sPar_ap, aCons_ap, aNil_ap, eBin_ap, eVar_ap, eC_ap, List.getElem?_cons_succ, List.getElem?_cons_zero, bind_ok, ei, so_ok, List.set_cons_succ, List.set_cons_zero, seq_next]
      unfold c__law_due_3_3
      by_cases q10 : c = 10
      · subst q10
        rw [dg, scan_nl] at hq
        simp only [sSeq_ap, sIf_ap, eTst_ap, eBin_ap, eVar_ap, eC_ap, List.getElem?_cons_succ, List.getElem?_cons_zero, bind_ok, gEq_str, Bool.false_eq_true, if_false, e10', decide_true, if_true, so_ok, sPar3_ap, aCons_ap, aNil_ap, gAdd_int, List.set_cons_succ, List.set_cons_zero, seq_next, sCont_ap, seq_cont, sev_cont]
        rw [show ((n : Int) + 1) = ((n + 1 : Nat) : Int) by omega, show ((a : Int) + 1) = ((a + 1 : Nat) : Int) by omega]
        exact c1 _ _ ⟨n + 1, 1, a + 1, ts, _, _, _, _, _, _, rfl, rfl, by omega, by omega, hq⟩
      · rw [sSeq_ap, sIf_ap]
        simp only [eTst_ap, eBin_ap, eVar_ap, eC_ap, List.getElem?_cons_succ, List.getElem?_cons_zero, bind_ok, gEq_str, Bool.false_eq_true, if_false, e10', decide_eq_false q10, so_ok, sSkip_ap, seq_next]
        by_cases q35 : c = 35
        · subst q35
          rw [dg, scan_hash] at hq
          refine due_hash (by omega) hc fun e7 e8 e9 e10 e11 e12 => c1 _ _ ⟨n, _, _, ts, _, _, _, _, _, _, rfl, rfl, ?_, by omega, ?_⟩
          · have := (List.takeWhile_sublist (fun c => decide (c ≠ 10)) (l := x.cps.toList.drop (a + 1))).length_le
            rw [List.length_drop, slen] at this
            unfold com
            omega
          · rw [hq, List.drop_drop, show a + 1 + com (x.cps.toList.drop (a + 1)) = a + (1 + com (x.cps.toList.drop (a + 1))) by omega, show p + 1 + com (x.cps.toList.drop (a + 1)) = p + (1 + com (x.cps.toList.drop (a + 1))) by omega]
        · unfold c__law_due_3_4
          have e35 : decide ((⟨#[c]⟩ : Str) = Str.ofString "#") = decide (c = 35) := chr_eq rfl
          rw [sSeq_ap, sIf_ap]
          simp only [eTst_ap, eBin_ap, eVar_ap, eC_ap, List.getElem?_cons_succ, List.getElem?_cons_zero, bind_ok, gEq_str, Bool.false_eq_true, if_false, e35, decide_eq_false q35, so_ok, sSkip_ap, seq_next]
          refine due_sign (by omega) tb hc (fun q32 e7 e8 e9 e10 e11 e12 => ?_) (fun q32 t k ht e7 e8 e9 e10 e11 e12 => ?_) fun q32 w hw => ?_
          · subst q32
            rw [dg, scan_sp] at hq
            exact n1 _ _ ⟨n, _, _, ts, _, _, _, _, _, _, rfl, rfl, by omega, by omega, hq⟩
          · have ht' := ht
            rw [dg] at ht'
            obtain ⟨k1, k2⟩ := tok1_size ht'
            rw [List.length_drop, slen] at k2
            rw [dg, scan_tok q10 q35 q32 ht', addR_cons, List.drop_drop, show a + 1 + (k - 1) = a + k by omega] at hq
            exact n1 _ _ ⟨n, _, _, ts ++ [t], _, _, _, _, _, _, rfl, rfl, by omega, by omega, hq⟩
          · rw [dg] at hw
            rw [dg, scan_bad q10 q35 q32 hw] at hq
            refine r1 _ _ ?_
            have hr : resD Q = badD n p w := by rw [hq]; rfl
            rw [hr] at hK
            exact hK _
    · have hge' : (x.length : Int) ≤ (a : Int) := by omega
      have ae : a = x.length := by omega
      simp only [List.set_cons_succ, List.set_cons_zero, sSeq_ap, sIf_ap, eTst_ap, eBin_ap, eVar_ap, eArgs_ap, aCons_ap, aNil_ap, on1_ap, List.getElem?_cons_succ, List.getElem?_cons_zero, bind_ok, gLen_str, gGe_int, decide_eq_true hge', if_true, so_ok, sBrk_ap, seq_brk, sev_brk]
      refine b1 _ _ ?_
      rw [List.drop_eq_nil_of_le (by rw [slen]; omega), scan_nil] at hq
      have hr : resD Q = .tup [.str "told", .tup ts] := by rw [hq]; simp [addR, resD]
      rw [hr] at hK
      have gt : gTuple (.ref m.length) (m ++ [Cell.lst ts]) = .ok (.tup ts) (m ++ [Cell.lst ts]) := by unfold gTuple; simp only [mem_last]
      unfold c__law_due_4
      simp only [sRet_ap, eArgs_ap, aCons_ap, aNil_ap, eC_ap, on1_ap, eVar_ap, List.getElem?_cons_succ, List.getElem?_cons_zero, bind_ok, gt]
      rw [mkTup_small (by simp), so_ok, sev_ret]
      exact hK _
  · rintro ρ M ⟨n, p, a, ts, e7, e8, e9, e10, e11, e12, rfl, rfl, ha, hi, hq⟩
    rw [show (Wk.mk (rgD 0 (x.length + 1)) none).ds.length = x.length + 1 from rgD_len] at hi
    omega
end DL
set_option Elab.async false
set_option linter.all false
set_option maxRecDepth 100000
set_option maxHeartbeats 1000000
namespace DL
open PySem L2
/-! ### what is heard -/
theorem tup_plain_scan {cs : List Nat} {n p : Nat} : (D.tup (scan n p cs).1).plain = true := by
  have h2 := (scan_ok _ cs n p (Nat.le_refl _)).2
  simp only [D.plain, plains_all]
  exact List.all_eq_true.mpr fun t ht => fit_plain t (h2 t ht).1
theorem tokens_ok {x : Str} {m : Mem} (hl : x.length ≤ 100000) (h : (scan 1 1 x.cps.toList).2 = none) : F_tokens_of [.str x] m = .ok (.tup (scan 1 1 x.cps.toList).1) m := by
  refine run_pure rfl tup_plain_scan fun K h0 hK => XSEv.s (tokens_xs (by omega) (fun _ j => hK j) fun n p w e => ?_)
  rw [h] at e; cases e
theorem tokens_x {x : Str} {m : Mem} {n p : Nat} {w : Str} (hl : x.length ≤ 100000) (h : (scan 1 1 x.cps.toList).2 = some (n, p, w)) : ∃ j, F_tokens_of [.str x] m = .exc (badQ n p w) (m ++ j) := by
  refine run_excJ rfl fun E K h0 => tokens_xs (by omega) (fun e => ?_) fun n' p' w' e j => ?_
  · rw [h] at e; cases e
  · rw [h] at e; cases e; exact h0 j
theorem law_heard_s {x : Str} {m : Mem} (hl : x.length ≤ 100000) : F__law_heard [.str x] m = .ok (resD (scan 1 1 x.cps.toList)) m := by
  refine run_pure rfl resD_plain fun K h0 hK => ?_
  rw [show envOf ["text", "error"] [.str x] = [some (.str x), none] from rfl]
  unfold b__law_heard
  cases hq : (scan 1 1 x.cps.toList).2 with
  | none =>
    have hc := tokens_ok (m := m) hl hq
    rw [sTry_ret (d := .tup [.str "told", .tup (scan 1 1 x.cps.toList).1]) (m' := m) (by simp [b__law_heard_1, hc])]
    have e : resD (scan 1 1 x.cps.toList) = .tup [.str "told", .tup (scan 1 1 x.cps.toList).1] := by simp only [resD, hq]
    rw [e] at h0
    exact h0
  | some o =>
    obtain ⟨n, p, w⟩ := o
    obtain ⟨j, hc⟩ := tokens_x (m := m) hl hq
    rw [sTry_exc (ρ' := [some (.str x), none]) (m' := m ++ j) (x := badQ n p w) (by simp [b__law_heard_1, hc])]
    have e : hAs 1 tab_BadSource (fun z a b => (sSeq (sIf (tOrF (eTst (eUn (gIsX tab_BadText z a b) (eVar 1))) (eTst (eUn (gIsX tab_BadPaper z a b) (eVar 1)))) (sRet (eArgs mkTup (aCons (eC (.str "other")) aNil))) sSkip)
    (sRet (eArgs mkTup (aCons (eC (.str "bad")) (aCons (eUn (gXf fl_line_of z a b "line") (eVar 1)) (aCons (eUn (gXf fl_place_of z a b "place") (eVar 1)) (aCons (eUn (gXf fl_word_of z a b "word") (eVar 1)) aNil)))))))) (hOnly tab_RoundsError (sRet (eArgs mkTup (aCons (eC (.str "other")) aNil))) hNil) (badQ n p w) [some (.str x), none] (m ++ j)
        = .ret (badD n p w) (m ++ j ++ [.exn "BadSource" [("word", .str w), ("place", .int (p : Nat)), ("line", .int (n : Nat))]]) := by
      show allSO _ = _
      refine allSO_ap fun a b => ?_
      have g1 : tabGet tab_BadText "BadSource" = some false := by decide +kernel
      have g2 : tabGet tab_BadPaper "BadSource" = some false := by decide +kernel
      simp only [badQ, sSeq_ap, sIf_ap, tOrF_ap, eTst_ap, eUn_ap, eVar_ap, List.set_cons_succ, List.set_cons_zero, List.getElem?_cons_succ, List.getElem?_cons_zero, bind_ok, gIsX_last g1, gIsX_last g2, so_ok, Bool.false_eq_true, if_false, sSkip_ap, seq_next, sRet_ap, eArgs_ap, aCons_ap, aNil_ap, eC_ap]
      have n1 : (("line" : Str) == ("word" : Str)) = false := by decide +kernel
      have n2 : (("line" : Str) == ("place" : Str)) = false := by decide +kernel
      have n3 : (("place" : Str) == ("word" : Str)) = false := by decide +kernel
      have l1 : List.lookup ("line" : Str) [(("word" : Str), D.str w), (("place" : Str), D.int (p : Nat)), (("line" : Str), D.int (n : Nat))] = some (.int (n : Nat)) := by simp [List.lookup, n1, n2]
      have l2 : List.lookup ("place" : Str) [(("word" : Str), D.str w), (("place" : Str), D.int (p : Nat)), (("line" : Str), D.int (n : Nat))] = some (.int (p : Nat)) := by simp [List.lookup, n3]
      have l3 : List.lookup ("word" : Str) [(("word" : Str), D.str w), (("place" : Str), D.int (p : Nat)), (("line" : Str), D.int (n : Nat))] = some (.str w) := by simp [List.lookup]
      have x1 := gXf_last (L := fl_line_of) (z := "BadSource") (f := "line") (a := a) (b := b) (m := m ++ j) (c := "BadSource") (by decide +kernel) l1
      have x2 := gXf_last (L := fl_place_of) (z := "BadSource") (f := "place") (a := a) (b := b) (m := m ++ j) (c := "BadSource") (by decide +kernel) l2
      have x3 := gXf_last (L := fl_word_of) (z := "BadSource") (f := "word") (a := a) (b := b) (m := m ++ j) (c := "BadSource") (by decide +kernel) l3
      simp only [x1, x2, x3, bind_ok]
      rfl
    rw [e, List.append_assoc]
    have e : resD (scan 1 1 x.cps.toList) = badD n p w := by simp only [resD, hq]
    rw [e] at hK
    exact hK _
theorem law_asked_s {x : Str} {m : Mem} (hl : x.length ≤ 11000) : F__law_asked [.str x] m = .ok (.bl true) m := by
  refine run_pure rfl rfl fun K h0 hK => ?_
  have h1 := law_heard_s (x := x) (m := m) (by omega)
  have h2 := law_due_s (x := x) (m := m) (by omega)
  obtain ⟨f1, f2⟩ := resD_fit (cs := x.cps.toList) (n := 1) (p := 1) (by rw [slen]; exact hl)
  have h3 := fits_true (d := resD (scan 1 1 x.cps.toList)) (m := m) f1 f2
  unfold b__law_asked
  rw [show envOf ["text"] [.str x] = [some (.str x)] from rfl]
  simp only [sRet_ap, eArgs_ap, aCons_ap, aNil_ap, eVar_ap, List.getElem?_cons_zero, bind_ok, h1, h2, h3, so_ok, sev_ret]
  exact h0
/-! ### by hand -/
mutual
def eqD : D → D → Bool
  | .non, .non => true
  | .bl a, .bl b => a == b
  | .int a, .int b => decide (a = b)
  | .str a, .str b => decide (a = b)
  | .tup a, .tup b => eqDs a b
  | _, _ => false
def eqDs : List D → List D → Bool
  | [], [] => true
  | a :: r, b :: s => eqD a b && eqDs r s
  | _, _ => false
end
mutual
theorem eqD_eq : ∀ (a b : D), eqD a b = true → a = b
  | .non, b, h => by cases b <;> first | rfl | (simp [eqD] at h)
  | .bl x, b, h => by cases b <;> first | (simp [eqD] at h; rw [h]) | (simp [eqD] at h)
  | .int x, b, h => by cases b <;> first | (simp [eqD] at h; rw [h]) | (simp [eqD] at h)
  | .str x, b, h => by cases b <;> first | (simp [eqD] at h; rw [h]) | (simp [eqD] at h)
  | .tup x, b, h => by
    cases b with
    | tup y => rw [eqDs_eq x y (by simpa [eqD] using h)]
    | _ => simp [eqD] at h
  | .rot _, b, h => by cases b <;> simp [eqD] at h
  | .rol _, b, h => by cases b <;> simp [eqD] at h
  | .ref _, b, h => by cases b <;> simp [eqD] at h
  | .exo _ _ _, b, h => by cases b <;> simp [eqD] at h
theorem eqDs_eq : ∀ (a b : List D), eqDs a b = true → a = b
  | [], b, h => by cases b <;> first | rfl | (simp [eqDs] at h)
  | x :: r, b, h => by
    cases b with
    | nil => simp [eqDs] at h
    | cons y s =>
      simp [eqDs] at h
      rw [eqD_eq x y h.1, eqDs_eq r s h.2]
end
def scanF : Nat → Nat → Nat → List Nat → Res
  | 0, _, _, _ => ([], none)
  | _ + 1, _, _, [] => ([], none)
  | f + 1, n, p, c :: r =>
    if c = 10 then scanF f (n + 1) 1 r
    else if c = 35 then scanF f n (p + 1 + com r) (r.drop (com r))
    else if c = 32 then scanF f n (p + 1) r
    else match tok1 n p (c :: r) with
      | .inl (t, k) => Res.cons t (scanF f n (p + k) (r.drop (k - 1)))
      | .inr w => ([], some (n, p, w))
theorem scanF_eq : ∀ (f n p : Nat) (cs : List Nat), cs.length ≤ f → scan n p cs = scanF f n p cs
  | 0, n, p, cs, h => by rw [List.eq_nil_of_length_eq_zero (show cs.length = 0 by omega), scan_nil]; rfl
  | f + 1, n, p, [], h => by rw [scan_nil]; rfl
  | f + 1, n, p, c :: r, h => by
    have hr : r.length ≤ f := by simpa using h
    rw [scan]
    unfold scanF
    by_cases h1 : c = 10
    · rw [if_pos h1, if_pos h1]; exact scanF_eq f _ _ r hr
    · rw [if_neg h1, if_neg h1]
      by_cases h2 : c = 35
      · rw [if_pos h2, if_pos h2]; exact scanF_eq f _ _ _ (by simp; omega)
      · rw [if_neg h2, if_neg h2]
        by_cases h3 : c = 32
        · rw [if_pos h3, if_pos h3]; exact scanF_eq f _ _ r hr
        · rw [if_neg h3, if_neg h3]
          cases tok1 n p (c :: r) with
          | inl tk => simp only; rw [scanF_eq f n (p + tk.2) (r.drop (tk.2 - 1)) (by simp; omega)]
          | inr w => rfl
theorem hand_eq {x : Str} {due : D} (f : Nat) (h : (decide (x.cps.toList.length ≤ f) && eqD (resD (scanF f 1 1 x.cps.toList)) due) = true) : resD (scan 1 1 x.cps.toList) = due := by
  rw [Bool.and_eq_true, decide_eq_true_iff] at h
  rw [scanF_eq f 1 1 _ h.1]
  exact eqD_eq _ _ h.2
example : resD (scan 1 1 (Str.ofString "r.x=-1!").cps.toList) = .tup [.str "told", .tup [tokD "word" (.str "r") 1 1, tokD "sign" (.str ".") 1 2, tokD "word" (.str "x") 1 3, tokD "sign" (.str "=") 1 4, tokD "number" (.int (-1)) 1 5, tokD "sign" (.str "!") 1 7]] := hand_eq 20 (by decide +kernel)
end DL
set_option Elab.async false
set_option linter.all false
set_option maxRecDepth 100000
set_option maxHeartbeats 1000000
namespace DL
open PySem L2
noncomputable def c__law_by_hand_2 : SFn := (sRet (eBin gEq (eGc (eArgs (on1 gLen1) (aCons (eLc (iOf (eVar 0)) (tgTup (tgCons (tgN 1) (tgCons (tgN 2) tgNil))) b__law_by_hand_1 (eC (.int 1)) [1, 2]) aNil))) (eC (.int 0))))
noncomputable def c__law_by_hand_1 : SFn := sSeq (sSet 0 (eArgs mkLst (aCons (eArgs mkTup (aCons (eC (.str "")) (aCons (eArgs mkTup (aCons (eC (.str "told")) (aCons (eArgs mkTup aNil) aNil))) aNil))) (aCons (eArgs mkTup (aCons (eC (.str "\n\n #$ \n")) (aCons (eArgs mkTup (aCons (eC (.str "told")) (aCons (eArgs mkTup aNil) aNil))) aNil))) (aCons (eArgs mkTup (aCons (eC (.str "a1b")) (aCons (eArgs mkTup (aCons (eC (.str "told")) (aCons (eArgs mkTup (aCons (eArgs mkTup (aCons (eC (.str "word")) (aCons (eC (.str "a")) (aCons (eC (.int 1)) (aCons (eC (.int 1)) aNil))))) (aCons (eArgs mkTup (aCons (eC (.str "number")) (aCons (eC (.int 1)) (aCons (eC (.int 1)) (aCons (eC (.int 2)) aNil))))) (aCons (eArgs mkTup (aCons (eC (.str "word")) (aCons (eC (.str "b")) (aCons (eC (.int 1)) (aCons (eC (.int 3)) aNil))))) aNil)))) aNil))) aNil))) (aCons (eArgs mkTup (aCons (eC (.str "1-2")) (aCons (eArgs mkTup (aCons (eC (.str "told")) (aCons (eArgs mkTup (aCons (eArgs mkTup (aCons (eC (.str "number")) (aCons (eC (.int 1)) (aCons (eC (.int 1)) (aCons (eC (.int 1)) aNil))))) (aCons (eArgs mkTup (aCons (eC (.str "number")) (aCons (eUn gNeg (eC (.int 2))) (aCons (eC (.int 1)) (aCons (eC (.int 2)) aNil))))) aNil))) aNil))) aNil))) (aCons (eArgs mkTup (aCons (eC (.str "a-")) (aCons (eArgs mkTup (aCons (eC (.str "bad")) (aCons (eC (.int 1)) (aCons (eC (.int 2)) (aCons (eC (.str "sign")) aNil))))) aNil))) (aCons (eArgs mkTup (aCons (eC (.str "x\n  012")) (aCons (eArgs mkTup (aCons (eC (.str "bad")) (aCons (eC (.int 2)) (aCons (eC (.int 3)) (aCons (eC (.str "number")) aNil))))) aNil))) (aCons (eArgs mkTup (aCons (eC (.str "-0")) (aCons (eArgs mkTup (aCons (eC (.str "bad")) (aCons (eC (.int 1)) (aCons (eC (.int 1)) (aCons (eC (.str "number")) aNil))))) aNil))) (aCons (eArgs mkTup (aCons (eC (.str "0 -0")) (aCons (eArgs mkTup (aCons (eC (.str "bad")) (aCons (eC (.int 1)) (aCons (eC (.int 3)) (aCons (eC (.str "number")) aNil))))) aNil))) (aCons (eArgs mkTup (aCons (eC (.str "0000000000000000")) (aCons (eArgs mkTup (aCons (eC (.str "bad")) (aCons (eC (.int 1)) (aCons (eC (.int 1)) (aCons (eC (.str "long")) aNil))))) aNil))) (aCons (eArgs mkTup (aCons (eC (.str "abcdefghi 1 A")) (aCons (eArgs mkTup (aCons (eC (.str "bad")) (aCons (eC (.int 1)) (aCons (eC (.int 1)) (aCons (eC (.str "long")) aNil))))) aNil))) (aCons (eArgs mkTup (aCons (eC (.str "a A abcdefghi")) (aCons (eArgs mkTup (aCons (eC (.str "bad")) (aCons (eC (.int 1)) (aCons (eC (.int 3)) (aCons (eC (.str "sign")) aNil))))) aNil))) (aCons (eArgs mkTup (aCons (eC (.str "page(d) # x\n -3")) (aCons (eArgs mkTup (aCons (eC (.str "told")) (aCons (eArgs mkTup (aCons (eArgs mkTup (aCons (eC (.str "word")) (aCons (eC (.str "page")) (aCons (eC (.int 1)) (aCons (eC (.int 1)) aNil))))) (aCons (eArgs mkTup (aCons (eC (.str "sign")) (aCons (eC (.str "(")) (aCons (eC (.int 1)) (aCons (eC (.int 5)) aNil))))) (aCons (eArgs mkTup (aCons (eC (.str "word")) (aCons (eC (.str "d")) (aCons (eC (.int 1)) (aCons (eC (.int 6)) aNil))))) (aCons (eArgs mkTup (aCons (eC (.str "sign")) (aCons (eC (.str ")")) (aCons (eC (.int 1)) (aCons (eC (.int 7)) aNil))))) (aCons (eArgs mkTup (aCons (eC (.str "number")) (aCons (eUn gNeg (eC (.int 3))) (aCons (eC (.int 2)) (aCons (eC (.int 2)) aNil))))) aNil)))))) aNil))) aNil))) (aCons (eArgs mkTup (aCons (eC (.str "12345678901234")) (aCons (eArgs mkTup (aCons (eC (.str "told")) (aCons (eArgs mkTup (aCons (eArgs mkTup (aCons (eC (.str "number")) (aCons (eC (.int 12345678901234)) (aCons (eC (.int 1)) (aCons (eC (.int 1)) aNil))))) aNil)) aNil))) aNil))) (aCons (eArgs mkTup (aCons (eC (.str "-1234567890123")) (aCons (eArgs mkTup (aCons (eC (.str "told")) (aCons (eArgs mkTup (aCons (eArgs mkTup (aCons (eC (.str "number")) (aCons (eUn gNeg (eC (.int 1234567890123))) (aCons (eC (.int 1)) (aCons (eC (.int 1)) aNil))))) aNil)) aNil))) aNil))) (aCons (eArgs mkTup (aCons (eC (.str "-12345678901234")) (aCons (eArgs mkTup (aCons (eC (.str "bad")) (aCons (eC (.int 1)) (aCons (eC (.int 1)) (aCons (eC (.str "long")) aNil))))) aNil))) (aCons (eArgs mkTup (aCons (eC (.str "r.x=-1!")) (aCons (eArgs mkTup (aCons (eC (.str "told")) (aCons (eArgs mkTup (aCons (eArgs mkTup (aCons (eC (.str "word")) (aCons (eC (.str "r")) (aCons (eC (.int 1)) (aCons (eC (.int 1)) aNil))))) (aCons (eArgs mkTup (aCons (eC (.str "sign")) (aCons (eC (.str ".")) (aCons (eC (.int 1)) (aCons (eC (.int 2)) aNil))))) (aCons (eArgs mkTup (aCons (eC (.str "word")) (aCons (eC (.str "x")) (aCons (eC (.int 1)) (aCons (eC (.int 3)) aNil))))) (aCons (eArgs mkTup (aCons (eC (.str "sign")) (aCons (eC (.str "=")) (aCons (eC (.int 1)) (aCons (eC (.int 4)) aNil))))) (aCons (eArgs mkTup (aCons (eC (.str "number")) (aCons (eUn gNeg (eC (.int 1))) (aCons (eC (.int 1)) (aCons (eC (.int 5)) aNil))))) (aCons (eArgs mkTup (aCons (eC (.str "sign")) (aCons (eC (.str "!")) (aCons (eC (.int 1)) (aCons (eC (.int 7)) aNil))))) aNil))))))) aNil))) aNil))) aNil)))))))))))))))))) c__law_by_hand_2
theorem chain__law_by_hand : b__law_by_hand = c__law_by_hand_1 := rfl
theorem hand_cond {x : Str} {due : D} {M : Mem} {e0 : Option D} (hl : x.length ≤ 11000) (e : resD (scan 1 1 x.cps.toList) = due) : b__law_by_hand_1 [e0, some (.str x), some due] M = .ok false M := by
  have h1 := law_heard_s (x := x) (m := M) (by omega)
  have h2 := law_due_s (x := x) (m := M) (by omega)
  obtain ⟨f1, f2⟩ := resD_fit (cs := x.cps.toList) (n := 1) (p := 1) (by rw [slen]; exact hl)
  have h3 := fits_true (d := resD (scan 1 1 x.cps.toList)) (m := M) f1 f2
  rw [e] at h1 h2 h3
  simp [b__law_by_hand_1, h1, h2, h3]
theorem hand_rest {m : Mem} {L : List D} {K : Kt} (key : ∀ d ∈ L, ∃ x due, d = .tup [.str x, due] ∧ x.length ≤ 11000 ∧ resD (scan 1 1 x.cps.toList) = due) (hl : L.length ≤ 1000) (h : K.rt (.bl true) (m ++ [.lst L])) :
    SEv (c__law_by_hand_2 [some (.ref m.length), none, none] (m ++ [.lst L])) K := by
  have m2 : (m ++ [Cell.lst L])[m.length]? = some (.lst L) := by simp
  generalize m ++ [Cell.lst L] = M at *
  have hn := nlc (it := iOf (eVar 0)) (tg := tgTup (tgCons (tgN 1) (tgCons (tgN 2) tgNil))) (cond := b__law_by_hand_1) (elt := eC (.int 1)) (own := [1, 2]) (ρ := [some (.ref m.length), none, none]) (M := M) (w := ⟨L, some (m.length, L)⟩) L id (fun _ => false) (fun _ => .int 1) (by simp [wkOf, m2]) (by simp) (by rw [szl]; omega) m2 (by
    intro d hd l
    obtain ⟨x, due, rfl, h1, h2⟩ := key d hd
    exact ⟨_, rfl, hand_cond h1 h2, fun z => by cases z⟩)
  unfold c__law_by_hand_2
  simp only [sRet_ap, eBin_ap, sev_so, ev_bind]
  refine Ev.of hn ?_
  simp
  exact h
theorem by_hand_s {m : Mem} : F__law_by_hand [] m = .ok (.bl true) m := by
  refine run_pure rfl rfl fun K h0 hK => ?_
  rw [chain__law_by_hand]
  unfold c__law_by_hand_1
  simp [envOf]
  refine hand_rest ?_ (by simp) (hK _)
  intro d hd
  simp only [List.mem_cons, List.not_mem_nil, or_false] at hd
  rcases hd with rfl | rfl | rfl | rfl | rfl | rfl | rfl | rfl | rfl | rfl | rfl | rfl | rfl | rfl | rfl | rfl
  all_goals exact ⟨_, _, rfl, by decide +kernel, hand_eq 30 (by decide +kernel)⟩
end DL
set_option Elab.async false
set_option linter.all false
set_option maxRecDepth 100000
set_option maxHeartbeats 1000000
namespace DL
open PySem L2
/-! ### texts drawn -/
def Pc (d : D) : Prop := ∃ s : Str, d = .str s ∧ 1 ≤ s.length ∧ s.length ≤ 40
def Sp (d : D) : Prop := ∃ s : Str, d = .str s ∧ s.length ≤ 9
theorem chr_s {t h : Nat} {m : Mem} {place : Nat} {z : Str} (tb : Tub t h m) (hp : place < 64) (h0 : 1 ≤ z.length) (hl : z.length ≤ 1000) : Ev (F__law_of [.ref t, .int (place : Nat), .str z] m) fun d m' => Pc d ∧ Tub t h m' ∧ Off t h m m' := by
  refine run_same rfl fun K hr => ?_
  simp [b__law_of, envOf]
  refine (drop_s (many := (z.length : Nat)) tb hp (by omega)).mono ?_
  rintro d m' ⟨r, rfl, h1, h2, h3, h4, h5⟩
  obtain ⟨n, rfl⟩ := Int.eq_ofNat_of_zero_le h1
  have hn : n < z.length := by
    by_cases q : (2 : Int) ≤ z.length
    · have := h3 q; omega
    · have := h2 (by omega); omega
  have hx : z.cps.toList[n]? = some (z.cps.toList[n]'(by rw [slen]; exact hn)) := List.getElem?_eq_getElem _
  refine Ev.of (ix_chr hx) ?_
  exact hr _ _ h4 h5 ⟨_, rfl, Nat.le_refl _, by show (1 : Nat) ≤ 40; decide⟩
theorem piece_s {t h : Nat} {m : Mem} (tb : Tub t h m) : Ev (F__law_piece [.ref t] m) fun d m' => Pc d ∧ Tub t h m' ∧ Off t h m m' := by
  refine run_same rfl fun K hr => ?_
  simp [b__law_piece, envOf]
  refine (drop_s (t := t) (h := h) (place := 1) (many := 3) tb (by omega) (by omega)).mono ?_
  rintro d M ⟨r, rfl, h1, h2, h3, tb1, o1⟩
  by_cases e0 : r = 0
  · simp [e0]
    refine (any_s (t := t) (h := h) (place := 2) tb1 (by omega) (by simp) (by simp)).mono ?_
    rintro d M2 ⟨hd, tb2, o2⟩
    refine hr _ _ tb2 (o1.trans o2) ?_
    simp only [List.mem_cons, List.not_mem_nil, or_false] at hd
    rcases hd with rfl | rfl | rfl | rfl | rfl | rfl | rfl <;> exact ⟨_, rfl, by decide +kernel, by decide +kernel⟩
  · by_cases e1 : r = 1
    · simp [e1]
      refine (any_s (t := t) (h := h) (place := 3) tb1 (by omega) (by simp) (by simp)).mono ?_
      rintro d M2 ⟨hd, tb2, o2⟩
      refine hr _ _ tb2 (o1.trans o2) ?_
      simp only [List.mem_cons, List.not_mem_nil, or_false] at hd
      rcases hd with rfl | rfl | rfl | rfl | rfl | rfl | rfl <;> exact ⟨_, rfl, by decide +kernel, by decide +kernel⟩
    · simp [e0, e1]
      refine (chr_s (t := t) (h := h) (place := 4) tb1 (by omega) (by decide +kernel) (by decide +kernel)).mono ?_
      rintro d M2 ⟨hd, tb2, o2⟩
      exact hr _ _ tb2 (o1.trans o2) hd
theorem wrong_s {t h : Nat} {m : Mem} (tb : Tub t h m) : Ev (F__law_wrong [.ref t] m) fun d m' => Pc d ∧ Tub t h m' ∧ Off t h m m' := by
  refine run_same rfl fun K hr => ?_
  have em : ∀ M : Mem, gMulS (.str (Str.ofString "a")) (.int 40) M = .ok (.str (mulS (Str.ofString "a") 40)) M := fun M => by
    show (if (Str.ofString "a").length ≤ 16384 ∧ (1 : Int) ≤ 40 ∧ (40 : Int) ≤ 1000 then Out.ok (D.str (mulS (Str.ofString "a") 40)) M else .bad) = _
    rw [if_pos (by decide +kernel)]
  simp [b__law_wrong, envOf, em]
  refine (any_s (t := t) (h := h) (place := 5) tb (by omega) ?_ ?_).mono ?_
  · exact List.cons_ne_nil _ _
  · simp
  rintro d M2 ⟨hd, tb2, o2⟩
  refine hr _ _ tb2 o2 ?_
  simp only [List.mem_cons, List.not_mem_nil, or_false] at hd
  rcases hd with rfl | rfl | rfl | rfl | rfl | rfl | rfl | rfl | rfl | rfl | rfl | rfl | rfl | rfl | rfl | rfl | rfl | rfl | rfl | rfl | rfl | rfl <;> exact ⟨_, rfl, by decide +kernel, by decide +kernel⟩
theorem ix_last {z : Str} (h : z ≠ Str.ofString "") : ∃ c, ∀ M : Mem, gIx (.str z) (.int (-1)) M = .ok (.str ⟨#[c]⟩) M := by
  have hne : z.cps.toList ≠ [] := fun e => h (tl_inj (e.trans rfl))
  obtain ⟨c, hc, _⟩ := atI_last hne
  refine ⟨c, fun M => ?_⟩
  show ofO ((atI z.cps.toList (-1)).map fun c => D.str ⟨#[c]⟩) M = _
  rw [hc]; rfl
theorem near_s {x0 x1 x2 : Option D} {z p : Str} {e7 : Option D} {M : Mem} (hp : 1 ≤ p.length) : ∃ b, (eAnd (eBin gNe (eVar 3) (eC (.str ""))) (eOr (eAnd (eBin (gIn false) (eBin gIx (eVar 3) (eUn gNeg (eC (.int 1)))) (eVar 5)) (eBin (gIn false) (eBin gIx (eVar 4) (eC (.int 0))) (eVar 5))) (eAnd (eBin (gIn false) (eBin gIx (eVar 3) (eUn gNeg (eC (.int 1)))) (eVar 6)) (eBin (gIn false) (eBin gIx (eVar 4) (eC (.int 0))) (eVar 6))))) [x0, x1, x2, some (.str z), some (.str p), some (.str smS), some (.str fgS), e7] M = .ok (.bl b) M := by
  have hx : p.cps.toList[0]? = some (p.cps.toList[0]'(by rw [slen]; omega)) := List.getElem?_eq_getElem _
  have e0 : ∀ M : Mem, gIx (.str p) (.int 0) M = .ok (.str ⟨#[p.cps.toList[0]'(by rw [slen]; omega)]⟩) M := fun M => ix_chr (e := 0) hx
  generalize p.cps.toList[0]'(by rw [slen]; omega) = c0 at e0
  by_cases hz : z = Str.ofString ""
  · refine ⟨false, ?_⟩
    simp only [eAnd_ap, eBin_ap, eVar_ap, eC_ap, List.getElem?_cons_succ, List.getElem?_cons_zero, bind_ok, gNe, gEq_str, if_true, decide_eq_true hz, Bool.not_true, bsel_bl, Bool.false_eq_true, if_false]
  · obtain ⟨c1, e1⟩ := ix_last hz
    simp only [eAnd_ap, eOr_ap, eBin_ap, eUn_ap, eVar_ap, eC_ap, List.getElem?_cons_succ, List.getElem?_cons_zero, bind_ok, gNe, gEq_str, if_true, decide_eq_false hz, Bool.not_false, bsel_bl, gNeg_int, e0, e1, in_chr, negB]
    cases decide (c1 ∈ smS.cps.toList) <;> cases decide (c0 ∈ smS.cps.toList) <;> cases decide (c1 ∈ fgS.cps.toList) <;> cases decide (c0 ∈ fgS.cps.toList) <;> exact ⟨_, rfl⟩
theorem add_str {a b : Str} {M : Mem} (h : a.length + b.length ≤ 16777216) : gAdd (.str a) (.str b) M = .ok (.str (a ++ b)) M := by
  show (if a.length + b.length ≤ sizeLine then Out.ok (D.str (a ++ b)) M else .bad) = _
  rw [if_pos (by rw [szl]; exact h)]
theorem text_s {t h k : Nat} {m : Mem} {ps : List D} (tb : Tub t h m) (hk : m[k]? = some (.lst ps)) (k1 : k ≠ t) (k2 : k ≠ h) (hp : ∀ d ∈ ps, Pc d) (hl : ps.length ≤ 30) :
    Ev (F__law_text [.ref t, .ref k] m) fun d M => (∃ x, d = .str x ∧ x.length ≤ 50 * ps.length + 10 ∧ ps.length ≤ x.length) ∧ Tub t h M ∧ Off t h m M := by
  refine run_same rfl fun K hr => ?_
  unfold b__law_text
  rw [show envOf ["jug", "pieces", "text", "last", "piece", "letters", "figures", "near"] [.ref t, .ref k] = [some (.ref t), some (.ref k), none, none, none, none, none, none] from rfl]
  have wk : wkOf (.ref k) m = .ok ⟨ps, some (k, ps)⟩ m := by unfold wkOf; simp only [hk]
  simp [wk]
  refine for_rule (w := ⟨ps, some (k, ps)⟩) (fun i ρ M => ∃ (y z : Str) (e4 e5 e6 e7 : Option D), ρ = [some (.ref t), some (.ref k), some (.str y), some (.str z), e4, e5, e6, e7] ∧ Tub t h M ∧ Off t h m M ∧ y.length ≤ 50 * i ∧ i ≤ y.length) ⟨_, _, _, _, _, _, rfl, tb, .refl, by decide +kernel, Nat.zero_le _⟩ ?_ ?_ ?_
  · rintro i ρ M ⟨_, _, _, _, _, _, _, _, o, _⟩
    show M[k]? = _
    rw [o.at_ _ k1 k2]; exact hk
  · rintro i d ρ M hd ⟨y, z, e4, e5, e6, e7, rfl, tb1, o1, y1, y2⟩
    have hi := get_lt' (show ps[i]? = some d from hd)
    obtain ⟨p, rfl, p1, p2⟩ := hp d (List.mem_of_getElem? (show ps[i]? = some d from hd))
    refine ⟨_, rfl, fun K1 n1 c1 b1 r1 => ?_⟩
    obtain ⟨b, eb⟩ := near_s (x0 := some (.ref t)) (x1 := some (.ref k)) (x2 := some (.str y)) (z := z) (p := p) (e7 := e7) (M := M) p1
    unfold b__law_text_1
    simp only [tgN_ap, List.set_cons_succ, List.set_cons_zero, sSeq_ap, sAsg_ap, eArgs_ap, aCons_ap, aNil_ap, eC_ap, bind_ok]
    rw [mkTup_small (by simp), so_ok]
    simp only [tgTup_tup, tgCons_ap, tgNil_ap, tgN_ap, Option.bind_some, List.set_cons_succ, List.set_cons_zero, seq_next]
    rw [sSeq_ap, sSet_ap]
    rw [show ([some (.ref t), some (.ref k), some (.str y), some (.str z), some (.str p), some (.str (Str.ofString "abcdefghijklmnopqrstuvwxyz")), some (.str (Str.ofString "0123456789")), e7] : Rho) = [some (.ref t), some (.ref k), some (.str y), some (.str z), some (.str p), some (.str smS), some (.str fgS), e7] from rfl, eb, so_ok]
    simp only [List.set_cons_succ, List.set_cons_zero, seq_next]
    rw [sSeq_ap, sSet_ap]
    have tr : ∀ (b : Bool) (M : Mem), truth (.bl b) M = .ok b M := fun b M => rfl
    have fin : ∀ (s : Str) (M2 : Mem), s.length ≤ 9 → Tub t h M2 → Off t h M M2 → SEv (sSet 3 (eVar 4) [some (.ref t), some (.ref k), some (.str (y ++ s ++ p)), some (.str z), some (.str p), some (.str smS), some (.str fgS), some (.bl b)] M2) K1 := fun s M2 hs tb2 o2 => by
      simp only [sSet_ap, eVar_ap, List.getElem?_cons_succ, List.getElem?_cons_zero, so_ok, List.set_cons_succ, List.set_cons_zero, sev_next]
      exact n1 _ _ ⟨y ++ s ++ p, p, _, _, _, _, rfl, tb2, o1.trans o2, by rw [str_app_len, str_app_len]; omega, by rw [str_app_len, str_app_len]; omega⟩
    have tail : ∀ (d : D) (M2 : Mem), (∃ s : Str, d = .str s ∧ s.length ≤ 9) → Tub t h M2 → Off t h M M2 → Ev (gAdd (.str y) d M2) fun a m_1 => Ev (gAdd a (.str p) m_1) fun a m_2 => SEv (sSet 3 (eVar 4) [some (.ref t), some (.ref k), some a, some (.str z), some (.str p), some (.str smS), some (.str fgS), some (.bl b)] m_2) K1 := fun d M2 ⟨s, e, hs⟩ tb2 o2 => by
      subst e
      have hi' : i < 30 := by omega
      rw [add_str (by omega), ev_ok, add_str (by rw [str_app_len]; omega), ev_ok]
      exact fin s M2 hs tb2 o2
    cases b with
    | true =>
      simp [tr]
      refine (any_s (t := t) (h := h) (place := 6) tb1 (by omega) (by simp) (by simp)).mono ?_
      rintro d M2 ⟨hd, tb2, o2⟩
      have hs : ∃ s : Str, d = .str s ∧ s.length ≤ 9 := by
        simp only [List.mem_cons, List.not_mem_nil, or_false] at hd
        rcases hd with rfl | rfl | rfl | rfl | rfl <;> exact ⟨_, rfl, by decide +kernel⟩
      have := tail d M2 hs tb2 o2
      simpa using this
    | false =>
      simp [tr]
      refine (any_s (t := t) (h := h) (place := 7) tb1 (by omega) (by simp) (by simp)).mono ?_
      rintro d M2 ⟨hd, tb2, o2⟩
      have hs : ∃ s : Str, d = .str s ∧ s.length ≤ 9 := by
        simp only [List.mem_cons, List.not_mem_nil, or_false] at hd
        rcases hd with rfl | rfl | rfl | rfl | rfl | rfl <;> exact ⟨_, rfl, by decide +kernel⟩
      have := tail d M2 hs tb2 o2
      simpa using this
  · rintro ρ M ⟨y, z, e4, e5, e6, e7, rfl, tb1, o1, y1, y2⟩
    rw [show (Wk.mk ps (some (k, ps))).ds.length = ps.length from rfl] at y1 y2
    simp
    refine (any_s (t := t) (h := h) (place := 8) tb1 (by omega) (by simp) (by simp)).mono ?_
    rintro d M2 ⟨hd, tb2, o2⟩
    obtain ⟨s, rfl, s9⟩ : ∃ s : Str, d = .str s ∧ s.length ≤ 9 := by
      simp only [List.mem_cons, List.not_mem_nil, or_false] at hd
      rcases hd with rfl | rfl | rfl | rfl | rfl <;> exact ⟨_, rfl, by decide +kernel⟩
    rw [add_str (by omega), ev_ok]
    exact hr _ _ tb2 (o1.trans o2) ⟨_, rfl, by rw [str_app_len]; omega, by rw [str_app_len]; omega⟩
end DL
set_option Elab.async false
set_option linter.all false
set_option maxRecDepth 100000
set_option maxHeartbeats 1000000
namespace DL
open PySem L2
theorem get_app {m j : Mem} {k : Nat} {c : Cell} (h : m[k]? = some c) : (m ++ j)[k]? = some c := by rw [List.getElem?_append_left (get_lt' h)]; exact h
theorem gSl_ref {M : Mem} {k : Nat} {ds : List D} {lo hi : Option Int} (h : M[k]? = some (.lst ds)) : gSl (.ref k) lo hi M = .ok (.ref M.length) (M ++ [.lst (cut ds lo hi)]) := by unfold gSl; simp only [h]
theorem gAdd_ref {M : Mem} {k l : Nat} {s u : List D} (h1 : M[k]? = some (.lst s)) (h2 : M[l]? = some (.lst u)) (hl : s.length + u.length ≤ 1000) : gAdd (.ref k) (.ref l) M = .ok (.ref M.length) (M ++ [.lst (s ++ u)]) := by
  unfold gAdd; simp only [h1, h2]; rw [if_pos (by rw [szl]; omega)]
theorem gLen_ref {M : Mem} {k : Nat} {ds : List D} (h : M[k]? = some (.lst ds)) : gLen1 (.ref k) M = .ok (.int (ds.length : Nat)) M := by unfold gLen1; simp only [h]
theorem pieces_lc {t h n : Nat} {ρ : Rho} {M : Mem} (tb : Tub t h M) (hρ : (wipeR ρ [4])[1]? = some (some (.ref t))) : Ev (lcGo ⟨rgD 0 n, none⟩ (tgN 4) fYes b_law_1 (wipeR ρ [4]) M.length [] (rgD 0 n) (M ++ [.lst []])) fun d M' => d = .ref M.length ∧ Tub t h M' ∧ Grow t h M M' ∧ ∃ ps, M'[M.length]? = some (.lst ps) ∧ ps.length = n ∧ ∀ d ∈ ps, Pc d := by
  have tl := tb.lt
  refine lc_rule (w := ⟨rgD 0 n, none⟩) (fun i acc M' => Tub t h M' ∧ Grow t h M M' ∧ M'[M.length]? = some (.lst acc) ∧ acc.length = i ∧ ∀ d ∈ acc, Pc d) ⟨tb.app, Grow.refl.app, mem_last, rfl, fun _ z => nomatch z⟩ ?_ ?_ ?_
  · rintro i acc M' ⟨_, _, q, _⟩; exact ⟨trivial, q⟩
  · rintro i d acc M' hd ⟨tb1, g1, l1, n1, p1⟩
    refine ⟨_, rfl, fun Q hQ => ?_⟩
    have e : ((wipeR ρ [4]).set 4 (some d))[1]? = some (some (.ref t)) := by rw [List.getElem?_set_ne (by decide)]; exact hρ
    simp [b_law_1, e]
    refine (piece_s tb1).mono ?_
    rintro y M2 ⟨hy, tb2, o2⟩
    have l2 : M2[M.length]? = some (.lst acc) := by rw [o2.at_ _ (by omega) (by omega)]; exact l1
    refine hQ _ _ l2 ⟨tb2.set (by omega) (by omega), (g1.off o2).set (Nat.le_refl _), by rw [List.getElem?_set_self (get_lt' l2)], by simp [n1], fun d hd => ?_⟩
    rcases List.mem_append.mp hd with z | z
    · exact p1 d z
    · rw [show d = y by simpa using z]; exact hy
  · rintro acc M' ⟨tb1, g1, l1, n1, p1⟩
    rw [show (Wk.mk (rgD 0 n) none).ds.length = n from rgD_len] at n1
    exact ⟨rfl, tb1, g1, acc, l1, n1, p1⟩
theorem asked_text {t h k : Nat} {m : Mem} {ps : List D} {P : D → Mem → Prop} (tb : Tub t h m) (hk : m[k]? = some (.lst ps)) (k1 : k ≠ t) (k2 : k ≠ h) (hp : ∀ d ∈ ps, Pc d) (hl : ps.length ≤ 30) (hP : ∀ M, Tub t h M → Off t h m M → P (.bl true) M) :
    Ev (F__law_text [.ref t, .ref k] m) fun d M => Ev (F__law_asked [d] M) P := by
  refine (text_s tb hk k1 k2 hp hl).mono ?_
  rintro d M ⟨⟨x, rfl, h1, h2⟩, tb1, o1⟩
  rw [law_asked_s (by omega), ev_ok]
  exact hP M tb1 o1
theorem turn_s {t h kp turn : Nat} {m : Mem} {ps : List D} {e0 e2 e4 e6 e7 e8 : Option D} {K : Kt} (tb : Tub t h m) (hk : m[kp]? = some (.lst ps)) (k1 : kp ≠ t) (k2 : kp ≠ h) (hp : ∀ d ∈ ps, Pc d) (hl : ps.length ≤ 24)
    (hn : ∀ c6 c7 M, Tub t h M → M[kp]? = some (.lst ps) → K.nx [e0, some (.ref t), e2, some (.ref kp), e4, some (.int (turn : Nat)), c6, c7, e8] M) :
    SEv (b_law_2 [e0, some (.ref t), e2, some (.ref kp), e4, some (.int (turn : Nat)), e6, e7, e8] m) K := by
  unfold b_law_2
  have es : ((ps.length : Int) + 1) = ((ps.length + 1 : Nat) : Int) := by omega
  simp only [sSeq_ap, sSet_ap, eArgs_ap, aCons_ap, aNil_ap, eC_ap, eBin_ap, eVar_ap, List.getElem?_cons_succ, List.getElem?_cons_zero, bind_ok, on1_ap, gLen_ref hk, gAdd_int, es, sev_so, sev_seq]
  refine (drop_s (t := t) (h := h) (place := 10) (many := ((ps.length + 1 : Nat) : Int)) tb (by omega) (by omega)).mono ?_
  rintro d M ⟨r, rfl, h1, h2, h3, tb1, o1⟩
  obtain ⟨q, rfl⟩ := Int.eq_ofNat_of_zero_le h1
  have hk1 : M[kp]? = some (.lst ps) := by rw [o1.at_ _ k1 k2]; exact hk
  have tl := tb1.lt
  have kl := get_lt' hk1
  simp only [List.set_cons_succ, List.set_cons_zero, eSl_ap, oNone_ap, oSome_ap, eVar_ap, List.getElem?_cons_succ, List.getElem?_cons_zero, bind_ok, gSl_ref hk1, sev_next, ev_bind, ev_ok]
  have tbA : Tub t h (M ++ [.lst (cut ps none (some (q : Int)))]) := tb1.app
  have hkA : (M ++ [Cell.lst (cut ps none (some (q : Int)))])[kp]? = some (.lst ps) := get_app hk1
  have hsA : (M ++ [Cell.lst (cut ps none (some (q : Int)))])[M.length]? = some (.lst (cut ps none (some (q : Int)))) := mem_last
  generalize M ++ [Cell.lst (cut ps none (some (q : Int)))] = MA at *
  refine (wrong_s tbA).mono ?_
  rintro w M2 ⟨hw, tb2, o2⟩
  have hk2 : M2[kp]? = some (.lst ps) := by rw [o2.at_ _ k1 k2]; exact hkA
  have hs2 : M2[M.length]? = some (.lst (cut ps none (some (q : Int)))) := by rw [o2.at_ _ (by omega) (by omega)]; exact hsA
  have cl1 := cut_len ps none (some (q : Int))
  have cl2 := cut_len ps (some (q : Int)) none
  simp only [mkLst_cons, List.length_nil]
  rw [if_pos (by decide), ev_ok, gAdd_ref (M := M2 ++ [Cell.lst [w]]) (get_app hs2) mem_last (by simp; omega), ev_ok, gSl_ref (get_app (get_app hk2)), ev_ok, gAdd_ref (s := cut ps none (some (q : Int)) ++ [w]) (u := cut ps (some (q : Int)) none) (get_app mem_last) mem_last (by simp; omega), ev_ok]
  have pcs : ∀ d ∈ cut ps none (some (q : Int)) ++ [w] ++ cut ps (some (q : Int)) none, Pc d := fun d hd => by
    have hc : ∀ lo hi, ∀ d ∈ cut ps lo hi, d ∈ ps := fun lo hi d hd => by
      unfold cut at hd
      exact List.mem_of_mem_drop (List.mem_of_mem_take hd)
    rcases List.mem_append.mp hd with z | z
    · rcases List.mem_append.mp z with z | z
      · exact hp d (hc _ _ d z)
      · rw [show d = w by simpa using z]; exact hw
    · exact hp d (hc _ _ d z)
  have plen : (cut ps none (some (q : Int)) ++ [w] ++ cut ps (some (q : Int)) none).length ≤ 29 := by
    have e1 : cut ps none (some (q : Int)) = ps.take q := cut_take
    have e2 : cut ps (some (q : Int)) none = ps.drop q := cut_drop
    rw [e1, e2]; simp; omega
  have kw : (M2 ++ [Cell.lst [w]] ++ [Cell.lst (cut ps none (some (q : Int)) ++ [w])] ++ [Cell.lst (cut ps (some (q : Int)) none)] ++ [Cell.lst (cut ps none (some (q : Int)) ++ [w] ++ cut ps (some (q : Int)) none)])[(M2 ++ [Cell.lst [w]] ++ [Cell.lst (cut ps none (some (q : Int)) ++ [w])] ++ [Cell.lst (cut ps (some (q : Int)) none)]).length]? = some (.lst (cut ps none (some (q : Int)) ++ [w] ++ cut ps (some (q : Int)) none)) := mem_last
  have tbB : Tub t h (M2 ++ [Cell.lst [w]] ++ [Cell.lst (cut ps none (some (q : Int)) ++ [w])] ++ [Cell.lst (cut ps (some (q : Int)) none)] ++ [Cell.lst (cut ps none (some (q : Int)) ++ [w] ++ cut ps (some (q : Int)) none)]) := tb2.app.app.app.app
  have hkB : (M2 ++ [Cell.lst [w]] ++ [Cell.lst (cut ps none (some (q : Int)) ++ [w])] ++ [Cell.lst (cut ps (some (q : Int)) none)] ++ [Cell.lst (cut ps none (some (q : Int)) ++ [w] ++ cut ps (some (q : Int)) none)])[kp]? = some (.lst ps) := get_app (get_app (get_app (get_app hk2)))
  have kw1 : (M2 ++ [Cell.lst [w]] ++ [Cell.lst (cut ps none (some (q : Int)) ++ [w])] ++ [Cell.lst (cut ps (some (q : Int)) none)]).length ≠ t := by have := tb2.lt; simp; omega
  have kw2 : (M2 ++ [Cell.lst [w]] ++ [Cell.lst (cut ps none (some (q : Int)) ++ [w])] ++ [Cell.lst (cut ps (some (q : Int)) none)]).length ≠ h := by have := tb2.lt; simp; omega
  generalize M2 ++ [Cell.lst [w]] ++ [Cell.lst (cut ps none (some (q : Int)) ++ [w])] ++ [Cell.lst (cut ps (some (q : Int)) none)] ++ [Cell.lst (cut ps none (some (q : Int)) ++ [w] ++ cut ps (some (q : Int)) none)] = MB at *
  generalize (M2 ++ [Cell.lst [w]] ++ [Cell.lst (cut ps none (some (q : Int)) ++ [w])] ++ [Cell.lst (cut ps (some (q : Int)) none)]).length = k7 at *
  generalize cut ps none (some (q : Int)) ++ [w] ++ cut ps (some (q : Int)) none = ws at *
  clear hsA hs2 cl1 cl2
  have fin : ∀ (k8 : Nat) (us : List D) (MC : Mem), Tub t h MC → MC[kp]? = some (.lst ps) → MC[k8]? = some (.lst us) → k8 ≠ t → k8 ≠ h → us.length ≤ 30 → (∀ d ∈ us, Pc d) → SEv (sIf (tNotF (eTst (eArgs F__law_asked (aCons (eArgs F__law_text (aCons (eVar 1) (aCons (eVar 7) aNil))) aNil)))) (sRet (eC (.bl false))) sSkip [e0, some (.ref t), e2, some (.ref kp), e4, some (.int (turn : Nat)), some (.int (q : Nat)), some (.ref k8), e8] MC) K := fun k8 us MC a b c d e f g => by
    simp
    refine asked_text a c d e g f fun M' tb' o' => ?_
    simp
    exact hn _ _ M' tb' (by rw [o'.at_ _ k1 k2]; exact b)
  by_cases ht : (1 : Int) < (turn : Int)
  · simp [ht]
    refine (wrong_s tbB).mono ?_
    rintro w2 M5 ⟨hw2, tb5, o5⟩
    have hk5 : M5[kp]? = some (.lst ps) := by rw [o5.at_ _ k1 k2]; exact hkB
    have hs5 : M5[k7]? = some (.lst ws) := by rw [o5.at_ _ kw1 kw2]; exact kw
    rw [gAdd_ref (M := M5 ++ [Cell.lst [w2]]) (l := M5.length) (get_app hs5) mem_last (by simp; omega), ev_ok]
    have tl5 := tb5.lt
    have := fin (M5 ++ [Cell.lst [w2]]).length (ws ++ [w2]) (M5 ++ [Cell.lst [w2]] ++ [Cell.lst (ws ++ [w2])]) tb5.app.app (get_app (get_app hk5)) mem_last (by simp; omega) (by simp; omega) (by simp; omega) (fun d hd => by
      rcases List.mem_append.mp hd with z | z
      · exact pcs d z
      · rw [show d = w2 by simpa using z]; exact hw2)
    simpa using this
  · simp [ht]
    have := fin k7 ws MB tbB hkB kw kw1 kw2 (by omega) pcs
    simpa using this
end DL
set_option Elab.async false
set_option linter.all false
set_option maxRecDepth 100000
set_option maxHeartbeats 1000000
namespace DL
open PySem L2
noncomputable def c_law_8 : SFn := (sRet (eAnd (eArgs F__law_asked (aCons (eVar 8) aNil)) (eAnd (eArgs F__law_asked (aCons (eBin gAdd (eVar 8) (eArgs F__law_wrong (aCons (eVar 1) aNil))) aNil)) (eArgs F__law_equal (aCons (eArgs (onN 1 [0] F_tokens_of) (aCons (eC (.str "x=")) aNil)) (aCons (eArgs mkTup (aCons (eArgs mkTup (aCons (eC (.str "word")) (aCons (eC (.str "x")) (aCons (eC (.int 1)) (aCons (eC (.int 1)) aNil))))) (aCons (eArgs mkTup (aCons (eC (.str "sign")) (aCons (eC (.str "=")) (aCons (eC (.int 1)) (aCons (eC (.int 2)) aNil))))) aNil))) aNil))))))
noncomputable def c_law_7 : SFn := sSeq (sSet 8 (eBin gMulS (eVar 8) (eArgs (gMax2) (aCons (eC (.int 1)) (aCons (eBin gFdiv (eC (.int 9000)) (eArgs (on1 gLen1) (aCons (eVar 8) aNil))) aNil))))) c_law_8
noncomputable def c_law_6 : SFn := sSeq (sSet 8 (eBin gAdd (eArgs F__law_text (aCons (eVar 1) (aCons (eVar 3) aNil))) (eC (.str "\n")))) c_law_7
noncomputable def c_law_5 : SFn := sSeq (sSet 3 (eLc (iRng1 (eC (.int 20))) (tgN 4) fYes b_law_4 [4])) c_law_6
noncomputable def c_law_4 : SFn := sSeq (sIf (eTst (eBin gNe (eArgs F__law_dip (aCons (eVar 1) (aCons (eC (.int 11)) (aCons (eC (.int 13)) aNil)))) (eC (.int 5)))) (sRet (eC (.bl true))) sSkip) c_law_5
noncomputable def c_law_3 : SFn := sSeq (sFor (iRng1 (eC (.int 4))) (tgN 2) b_law_3) c_law_4
noncomputable def c_law_2 : SFn := sSeq (sIf (tNotF (eTst (fun _ m => noExc (F__law_by_hand [] m)))) (sRet (eC (.bl false))) sSkip) c_law_3
noncomputable def c_law_1 : SFn := sSeq (sSet 1 (eArgs F__law_jug (aCons (eVar 0) aNil))) c_law_2
theorem chain_law : b_law = c_law_1 := rfl
theorem lap_s {t h : Nat} {m : Mem} {e0 e2 e3 e4 e5 e6 e7 e8 : Option D} {K : Kt} (tb : Tub t h m) (hn : ∀ c3 c4 c5 c6 c7 M, Tub t h M → K.nx [e0, some (.ref t), e2, c3, c4, c5, c6, c7, e8] M) :
    SEv (b_law_3 [e0, some (.ref t), e2, e3, e4, e5, e6, e7, e8] m) K := by
  unfold b_law_3
  simp only [sSeq_ap, sSet_ap, sev_seq, sev_so]
  unfold eLc
  simp only [iRng1_ap, eArgs_ap, aCons_ap, aNil_ap, eC_ap, eVar_ap, List.getElem?_cons_succ, List.getElem?_cons_zero, bind_ok, ev_bind]
  refine (drop_s (t := t) (h := h) (place := 9) tb (by omega) (by omega)).mono ?_
  rintro d M ⟨r, rfl, h1, h2, h3, tb1, o1⟩
  obtain ⟨n, rfl⟩ := Int.eq_ofNat_of_zero_le h1
  have hn4 := h3 (by omega)
  rw [wkRng1_nat, if_pos (in62_nat (n := n) (by omega)), ev_ok, if_pos (by show (rgD 0 n).length ≤ _; rw [rgD_len, szl]; omega)]
  have tl := tb1.lt
  refine (pieces_lc (n := n) tb1 rfl).mono ?_
  rintro d M2 ⟨rfl, tb2, g2, ps, l2, n2, p2⟩
  have kn1 : M.length ≠ t := by omega
  have kn2 : M.length ≠ h := by omega
  generalize M.length = kp at *
  simp only [List.set_cons_succ, List.set_cons_zero, sev_next, sIf_ap, tNotF_ap, eTst_ap, eArgs_ap, aCons_ap, aNil_ap, eVar_ap, List.getElem?_cons_succ, List.getElem?_cons_zero, bind_ok, sev_so, ev_bind, ev_ok]
  refine asked_text tb2 l2 kn1 kn2 p2 (by omega) fun M3 tb3 o3 => ?_
  have l3 : M3[kp]? = some (.lst ps) := by rw [o3.at_ _ kn1 kn2]; exact l2
  simp [wkRng1, in62_of (i := 4) (by decide)]
  refine for_rule (w := ⟨rgD 0 4, none⟩) (fun i ρ M => (∃ c5 c6 c7, ρ = [e0, some (.ref t), e2, some (.ref kp), e4, c5, c6, c7, e8]) ∧ Tub t h M ∧ M[kp]? = some (.lst ps)) ⟨⟨_, _, _, rfl⟩, tb3, l3⟩ (fun _ _ _ _ => trivial) ?_ ?_
  · rintro i d ρ M hd ⟨⟨c5, c6, c7, rfl⟩, tb4, l4⟩
    obtain ⟨rfl, hi⟩ := rgD_inv hd
    rw [Int.zero_add]
    refine ⟨_, rfl, fun K1 n1 c1 b1 r1 => ?_⟩
    exact turn_s tb4 l4 kn1 kn2 p2 (by omega) fun c6 c7 M tb l => n1 _ _ ⟨⟨_, _, _, rfl⟩, tb, l⟩
  · rintro ρ M ⟨⟨c5, c6, c7, rfl⟩, tb4, l4⟩
    exact hn _ _ _ _ _ M tb4
theorem law_ev (ns : List Int) : Ev (F_law [.rol (ns.map .int)] []) fun d _ => d = .bl true := by
  refine run_ev rfl fun K _ hr => ?_
  have hr' : ∀ M : Mem, K.rt (.bl true) M := fun M => hr _ _ rfl ⟨Nat.zero_le _, fun k c hk => absurd hk (Nat.not_lt_zero _)⟩ rfl
  rw [chain_law, show envOf ["script", "jug", "lap", "pieces", "piece", "turn", "at", "wrong", "text"] [.rol (ns.map .int)] = [some (.rol (ns.map .int)), none, none, none, none, none, none, none, none] from rfl]
  unfold c_law_1
  simp
  refine tub_s.mono ?_
  rintro d M ⟨rfl, tb⟩
  unfold c_law_2
  simp [by_hand_s, noExc]
  unfold c_law_3
  simp [wkRng1, in62_of (i := 4) (by decide)]
  refine for_rule (w := ⟨rgD 0 4, none⟩) (fun i ρ M => (∃ a2 a3 a4 a5 a6 a7, ρ = [some (.rol (ns.map .int)), some (.ref 0), a2, a3, a4, a5, a6, a7, none]) ∧ Tub 0 1 M) ⟨⟨_, _, _, _, _, _, rfl⟩, tb⟩ (fun _ _ _ _ => trivial) ?_ ?_
  · rintro i d ρ M hd ⟨⟨a2, a3, a4, a5, a6, a7, rfl⟩, tb⟩
    refine ⟨_, rfl, fun K1 n1 c1 b1 r1 => ?_⟩
    exact lap_s tb fun c3 c4 c5 c6 c7 M tb => n1 _ _ ⟨⟨_, _, _, _, _, _, rfl⟩, tb⟩
  · rintro ρ M ⟨⟨a2, a3, a4, a5, a6, a7, rfl⟩, tb⟩
    unfold c_law_4
    simp
    refine (drop_s (t := 0) (h := 1) (place := 11) tb (by omega) (by omega)).mono ?_
    rintro d M2 ⟨r, rfl, h1, h2, h3, tb2, o2⟩
    by_cases e5 : r = 5
    · simp [gNe, e5]
      unfold c_law_5
      simp only [sSeq_ap, sSet_ap, sev_seq, sev_so]
      unfold eLc
      simp only [iRng1_ap, eC_ap, bind_ok, wkRng1, ev_bind]
      rw [if_pos (in62_of (i := 20) (by decide)), ev_ok, if_pos (by show (rgD 0 20).length ≤ _; rw [rgD_len, szl]; omega)]
      have tl := tb2.lt
      refine (pieces_lc (n := 20) (ρ := [some (.rol (ns.map .int)), some (.ref 0), a2, a3, a4, a5, a6, a7, none]) tb2 rfl).mono ?_
      rintro d M3 ⟨rfl, tb3, g3, ps, l3, n3, p3⟩
      have kn1 : M2.length ≠ 0 := by omega
      have kn2 : M2.length ≠ 1 := by omega
      generalize M2.length = kp at *
      unfold c_law_6
      simp only [List.set_cons_succ, List.set_cons_zero, sev_next, sSeq_ap, sSet_ap, eBin_ap, eArgs_ap, aCons_ap, aNil_ap, eVar_ap, eC_ap, List.getElem?_cons_succ, List.getElem?_cons_zero, bind_ok, sev_so, sev_seq, ev_bind]
      refine (text_s tb3 l3 kn1 kn2 p3 (by omega)).mono ?_
      rintro d M4 ⟨⟨x, rfl, x1, x2⟩, tb4, o4⟩
      rw [n3] at x1 x2
      have nl1 : (Str.ofString "\n").length = 1 := by decide +kernel
      rw [add_str (by rw [nl1]; omega), ev_ok]
      have yl : (x ++ Str.ofString "\n").length = x.length + 1 := by rw [str_app_len, nl1]
      generalize x ++ Str.ofString "\n" = y at yl
      obtain ⟨k, e1, e2, e3, e4⟩ : ∃ k : Int, (∀ M : Mem, Ev (gFdiv (.int 9000) (.int (y.length : Nat)) M) fun a m => Ev (gMax2 [.int 1, a] m) fun a m => a = .int k ∧ m = M) ∧ 1 ≤ k ∧ k ≤ 1000 ∧ k.toNat * y.length ≤ 9000 := by
        have hq : (9000 : Int).fdiv (y.length : Nat) = ((9000 / y.length : Nat) : Int) := by
          rw [Int.fdiv_eq_ediv_of_nonneg _ (by omega)]; rfl
        have hm : 9000 / y.length * y.length ≤ 9000 := Nat.div_mul_le_self 9000 y.length
        have hd : 9000 / y.length ≤ 9000 / 21 := Nat.div_le_div_left (by omega) (by decide)
        refine ⟨if ((9000 / y.length : Nat) : Int) > 1 then ((9000 / y.length : Nat) : Int) else 1, fun M => ?_, ?_, ?_, ?_⟩
        · rw [gFdiv_int, if_pos ⟨by omega, by omega⟩, ev_ok, hq]
          exact ⟨rfl, rfl⟩
        · split <;> omega
        · split
          · have : (9000 / 21 : Nat) = 428 := by decide
            omega
          · omega
        · split
          · rw [Int.toNat_natCast]; exact hm
          · simp; omega
      have gm : ∀ M : Mem, gMulS (.str y) (.int k) M = .ok (.str (mulS y k.toNat)) M := fun M => by
        show (if y.length ≤ 16384 ∧ 1 ≤ k ∧ k ≤ 1000 then Out.ok (D.str (mulS y k.toNat)) M else .bad) = _
        rw [if_pos ⟨by omega, e2, e3⟩]
      have zl : (mulS y k.toNat).length ≤ 9000 := by rw [mulS_len]; exact e4
      unfold c_law_7
      simp only [sSeq_ap, sSet_ap, eBin_ap, eArgs_ap, aCons_ap, aNil_ap, eVar_ap, eC_ap, List.getElem?_cons_succ, List.getElem?_cons_zero, bind_ok, on1_ap, gLen_str, sev_so, sev_seq, ev_bind, ev_ok]
      refine (e1 M4).mono ?_
      intro a M4' ha
      refine ha.mono ?_
      rintro b M5 ⟨rfl, rfl⟩
      rw [gm, ev_ok]
      generalize mulS y k.toNat = z at *
      unfold c_law_8
      have hx : scan 1 1 (Str.ofString "x=").cps.toList = scanF 5 1 1 (Str.ofString "x=").cps.toList := scanF_eq 5 1 1 _ (by decide +kernel)
      have hx2 : (scan 1 1 (Str.ofString "x=").cps.toList).2 = none := by rw [hx]; decide +kernel
      have hx1 : D.tup (scan 1 1 (Str.ofString "x=").cps.toList).1 = .tup [.tup [.str (Str.ofString "word"), .str (Str.ofString "x"), .int 1, .int 1], .tup [.str (Str.ofString "sign"), .str (Str.ofString "="), .int 1, .int 2]] := by
        rw [hx]
        exact eqD_eq _ _ (by decide +kernel)
      have ht := fun M : Mem => tokens_ok (x := Str.ofString "x=") (m := M) (by decide +kernel) hx2
      rw [hx1] at ht
      have a1 := law_asked_s (x := z) (m := M5) (by omega)
      simp [a1]
      refine (wrong_s tb4).mono ?_
      rintro w M6 ⟨⟨s, rfl, s1, s2⟩, tb6, o6⟩
      rw [add_str (by omega), ev_ok]
      have a2 := law_asked_s (x := z ++ s) (m := M6) (by rw [str_app_len]; omega)
      have a3 := fits_true (d := .tup [.tup [.str (Str.ofString "word"), .str (Str.ofString "x"), .int 1, .int 1], .tup [.str (Str.ofString "sign"), .str (Str.ofString "="), .int 1, .int 2]]) (m := M6) rfl (by decide +kernel)
      simp [a2, onN, pick, ht, a3]
      exact hr' _
    · simp [gNe, e5]
      exact hr' _
theorem law_true : LawT F_law := fun ns _ => by
  have h := law_ev ns
  revert h
  cases F_law [.rol (ns.map .int)] [] with
  | ok d m => intro h; exact ⟨m, by rw [show d = .bl true from h]⟩
  | exc x m => exact fun h => h.elim
  | bad => exact fun h => h.elim
end DL
set_option Elab.async false
set_option linter.all false
set_option maxRecDepth 100000
set_option maxHeartbeats 4000000
namespace DL
open PySem L2
theorem walk {l : PySem.W.OpenLaw} {q : Program} {loose : List Str} {XP : (Str → Option Value) → Heap → Prop} {YP : World → Heap → Prop} {d : DefRec} {K : Params → PySem.W.Frag} (hn : l.most = some 63) (hdf : d.params.defaults = [])
    (hY : ∀ (w : World) (h : Heap), YP w h → (K w.params).In h)
    (F : ∀ (w : World) (mg : Str → Option Value) (fa : Addr) (h : Heap), (K w.params).In h → h.Ns mainGlobals mg → mg d.name = some (.ref fa) →
      ∃ fd : FuncData, (∀ (s : Shared) (u : Value), BindsTo s fd ⟨[u], []⟩ [("script", u)]) ∧ ∀ base : Heap, (K w.params).In base → base.Ns mainGlobals mg → FnOk l.prog w (K w.params) mg base (L2.CX l.prog w) 8 fa fd ["script"] (spLaw (K w.params))) :
    PySem.W.WalkO q loose XP YP l.row.toRowW d [] (fun f vs => PySem.call f vs) :=
  L2.walk_of (n := 63) (k := 8) (x := "script") (CX := fun w => L2.CX l.prog w) (sp := fun w => spLaw (K w.params)) hn (by decide) hdf ⟨rfl, by decide, by decide⟩ hY F (fun _ _ a ns hl o hS => ⟨a, ns, rfl, hS, o, hl, fun _ => rfl⟩) fun _ _ _ _ _ h => by
    obtain ⟨_, _, _, _, _, _, _, _, _, _, _, _, z⟩ := h
    exact z.elim
end DL
open PySem PySem.W PyProof.Rows
set_option maxRecDepth 100000 in
set_option maxHeartbeats 0 in
theorem PySem.Challenge.cw_nofewerrounds_k02_tokens_holds : PySem.Challenge.rw_nofewerrounds_k02_tokens.Holds := by
  w_on; o_law; k_head; (case hw => w_witness2)
  k_fill
  refine DL.walk (l := PySem.Challenge.rw_nofewerrounds_k02_tokens) rfl rfl (fun w h Y => PySem.W.kIn_of Y) ?F
  case F =>
    intro w mg fa h KX G hmg
    refine' DL.all_mk DL.law_true KX G hmg ?a1 ?l1 ?c1 ?k1 ?a2 ?l2 ?c2 ?k2 ?a3 ?l3 ?c3 ?k3 ?a4 ?l4 ?c4 ?k4 ?a5 ?l5 ?c5 ?k5 ?a6 ?l6 ?c6 ?k6 ?a7 ?l7 ?c7 ?k7 ?a8 ?l8 ?c8 ?k8 ?a9 ?l9 ?c9 ?k9 ?a10 ?l10 ?c10 ?k10 ?a11 ?l11 ?c11 ?k11 ?a12 ?l12 ?c12 ?k12 ?a13 ?l13 ?c13 ?k13 ?a14 ?l14 ?c14 ?k14 ?a15 ?l15 ?c15 ?k15 ?a16 ?l16 ?c16 ?k16 ?a17 ?l17 ?c17 ?k17 ?z1 ?z2 ?z3 ?z4 ?z5 ?z6 ?z7 ?z8 ?z9 ?z10 ?g1 ?g2 ?g3 ?g4 ?g5 ?xa1 ?xa2 ?xa3 ?xa4 ?xb1 ?xt1 ?xd1 ?xm1 ?xb2 ?xt2 ?xd2 ?xm2 ?xl2 ?xv2 ?xs2 ?xk2 ?xg2 ?xh2 ?xc2 ?xo2 ?xn2_line ?xn2_place ?xn2_word ?xi2 ?xj2 ?xp2 ?xq2 ?xr2 ?xx2_1 ?xx2_2 ?xx2_3 ?xx2_4 ?xb3 ?xt3 ?xd3 ?xm3 ?xb4 ?xt4 ?xd4 ?xm4 ?xz1 ?xz2
    (case a1 => k_is); (case l1 => k_is); (case c1 => k_is); (case k1 => k_is)
    (case a2 => k_is); (case l2 => k_is); (case c2 => k_is); (case k2 => k_is)
    (case a3 => k_is); (case l3 => k_is); (case c3 => k_is); (case k3 => k_is)
    (case a4 => k_is); (case l4 => k_is); (case c4 => k_is); (case k4 => k_is)
    (case a5 => k_is); (case l5 => k_is); (case c5 => k_is); (case k5 => k_is)
    (case a6 => k_is); (case l6 => k_is); (case c6 => k_is); (case k6 => k_is)
    (case a7 => k_is); (case l7 => k_is); (case c7 => k_is); (case k7 => k_is)
    (case a8 => k_is); (case l8 => k_is); (case c8 => k_is); (case k8 => k_is)
    (case a9 => k_is); (case l9 => k_is); (case c9 => k_is); (case k9 => k_is)
    (case a10 => k_is); (case l10 => k_is); (case c10 => k_is); (case k10 => k_is)
    (case a11 => k_is); (case l11 => k_is); (case c11 => k_is); (case k11 => k_is)
    (case a12 => k_is); (case l12 => k_is); (case c12 => k_is); (case k12 => k_is)
    (case a13 => k_is); (case l13 => k_is); (case c13 => k_is); (case k13 => k_is)
    (case a14 => k_is); (case l14 => k_is); (case c14 => k_is); (case k14 => k_is)
    (case a15 => k_is); (case l15 => k_is); (case c15 => k_is); (case k15 => k_is)
    (case a16 => k_is); (case l16 => k_is); (case c16 => k_is); (case k16 => k_is)
    (case a17 => k_is); (case l17 => k_is); (case c17 => k_is); (case k17 => k_is)
    (case xa1 => k_is)
    (case xa2 => k_is)
    (case xa3 => k_is)
    (case xa4 => k_is)
    (case xb1 => k_is)
    (case xt1 => k_is)
    (case xd1 => k_is)
    (case xm1 => k_is)
    (case xb2 => k_is)
    (case xt2 => k_is)
    (case xd2 => k_is)
    (case xm2 => k_is)
    (case xl2 => k_is)
    (case xv2 => first | rfl | decide +kernel)
    (case xs2 => k_is)
    (case xk2 => k_is)
    (case xg2 => k_is)
    (case xh2 => k_is)
    (case xc2 => k_is)
    (case xo2 => k_is)
    (case xn2_line => k_is)
    (case xn2_place => k_is)
    (case xn2_word => k_is)
    (case xi2 => k_is)
    (case xj2 => k_is)
    (case xp2 => k_is)
    (case xq2 => k_is)
    (case xr2 => k_is)
    (case xx2_1 => k_is)
    (case xx2_2 => k_is)
    (case xx2_3 => k_is)
    (case xx2_4 => k_is)
    (case xb3 => k_is)
    (case xt3 => k_is)
    (case xd3 => k_is)
    (case xm3 => k_is)
    (case xb4 => k_is)
    (case xt4 => k_is)
    (case xd4 => k_is)
    (case xm4 => k_is)
    (case xz1 => k_is)
    (case xz2 => k_is)
    (case z1 => k_is)
    (case z2 => k_is)
    (case z3 => k_is)
    (case z4 => k_is)
    (case z5 => k_is)
    (case z6 => k_is)
    (case z7 => k_is)
    (case z8 => k_is)
    (case z9 => k_is)
    (case z10 => k_is)
    (case g1 => k_is)
    (case g2 => k_is)
    (case g3 => k_is)
    (case g4 => k_is)
    (case g5 => k_is)
#print axioms PySem.Challenge.cw_nofewerrounds_k02_tokens_holds
