import PyProof.Rows.All
import Wide.All
import OpenK.AllK
import Wide.FinOn
import HandS.ForMost
import HandS.ForExc
import HandS.Wide
import HandS.CallSlots
import HandS.IsInst
import HandS.Flow
import HandS.WideBits
import HandS.Style
import HandS.Defaults
import HandS.Set
import HandS.SetFor
import HandS.More
import HandS.ExcIs
import HandS.Small
import HandS.SortRule
import HandS.SortInts
import HandS.Text
import PyProof.StrWalks
import PyProof.ListStr
import HandS.EndBits
import PySem.Challenge.RW_replaceall_k08_whole_halves
/-! ## ViCore -/
set_option Elab.async false
set_option linter.all false
set_option maxRecDepth 100000
set_option maxHeartbeats 2000000
/-! Vi: plain data over the layer; a small language of evaluators and what they promise. -/
namespace Vi
open PySem L2

/-- plain data -/
inductive D where
  | non | bl (b : Bool) | int (i : Int) | str (s : List Nat) | lst (xs : List D) | tup (xs : List D)
  | dic (ks : List (List Nat)) (xs : List D) | obj (k : Nat) (ns : List Str) (xs : List D) | ty (n : String) | cls (k : Nat) | scr (ns : List Int)

abbrev Col := Addr → Nat
def Gz (c : Col) (H : Hp) : Hp := fun a => if c a = 0 then H a else none
theorem Gz.of {c : Col} {H : Hp} {a : Addr} {o : HO} (h0 : c a = 0) (h : H a = some o) : Gz c H a = some o := by
  unfold Gz; rw [if_pos h0]; exact h
theorem Gz.to {c : Col} {H : Hp} {a : Addr} {o : HO} (h : Gz c H a = some o) : c a = 0 ∧ H a = some o := by
  unfold Gz at h
  by_cases q : c a = 0
  · rw [if_pos q] at h; exact ⟨q, h⟩
  · rw [if_neg q] at h; cases h

def kys (ks : List (List Nat)) (vs : List V) : List (Key × V) := (ks.map fun s => (Sum.inr ⟨s.toArray⟩ : Key)).zip vs

section
variable (cm : Nat → Addr) (K : PySem.W.Frag) (G : Hp)
mutual
def Den : D → V → Prop
  | .non, v => v = .non
  | .bl b, v => v = .bl b
  | .int i, v => v = .int i
  | .str s, v => v = .str ⟨s.toArray⟩
  | .lst xs, v => ∃ a vs, v = .ref a ∧ G a = some (.lst vs) ∧ DenL xs vs
  | .tup xs, v => ∃ a vs, v = .ref a ∧ G a = some (.tup vs) ∧ DenL xs vs
  | .dic ks xs, v => ∃ a vs, v = .ref a ∧ G a = some (.dK (kys ks vs)) ∧ ks.length = vs.length ∧ DenL xs vs
  | .obj k ns xs, v => ∃ a dx vs, v = .ref a ∧ G a = some (.ins (cm k) dx (ns.zip vs)) ∧ ns.length = vs.length ∧ DenL xs vs
  | .ty n, v => v = .ty n
  | .cls k, v => v = .ref (cm k)
  | .scr ns, v => ∃ a, v = .ref a ∧ SqL K G a (ns.map V.int)
def DenL : List D → List V → Prop
  | [], vs => vs = []
  | d :: ds, vs => ∃ v r, vs = v :: r ∧ Den d v ∧ DenL ds r
end
end
section
variable {cm : Nat → Addr} {K : PySem.W.Frag} {G G' : Hp}
theorem rd_mono (e : ∀ a o, G a = some o → G' a = some o) {a : Addr} {u : HO} (h : Rd G a u) : Rd G' a u := by
  rcases h with h | ⟨o, h⟩
  · exact .inl (e _ _ h)
  · exact .inr ⟨o, e _ _ h⟩
theorem sql_mono (e : ∀ a o, G a = some o → G' a = some o) {a : Addr} {xs : List V} (h : SqL K G a xs) : SqL K G' a xs := by
  rcases h with h | h
  · exact .inl (rd_mono e h)
  · exact .inr h
theorem sqt_mono (e : ∀ a o, G a = some o → G' a = some o) {a : Addr} {xs : List V} (h : SqT K G a xs) : SqT K G' a xs := by
  rcases h with h | h
  · exact .inl (rd_mono e h)
  · exact .inr h
mutual
theorem Den.mono (e : ∀ a o, G a = some o → G' a = some o) : ∀ (d : D) (v : V), Den cm K G d v → Den cm K G' d v
  | .non, v, h => h
  | .bl b, v, h => h
  | .int i, v, h => h
  | .str s, v, h => h
  | .lst xs, v, ⟨a, vs, h1, h2, h3⟩ => ⟨a, vs, h1, e _ _ h2, DenL.mono e xs vs h3⟩
  | .tup xs, v, ⟨a, vs, h1, h2, h3⟩ => ⟨a, vs, h1, e _ _ h2, DenL.mono e xs vs h3⟩
  | .dic ks xs, v, ⟨a, vs, h1, h2, h3, h4⟩ => ⟨a, vs, h1, e _ _ h2, h3, DenL.mono e xs vs h4⟩
  | .obj k ns xs, v, ⟨a, dx, vs, h1, h2, h3, h4⟩ => ⟨a, dx, vs, h1, e _ _ h2, h3, DenL.mono e xs vs h4⟩
  | .ty n, v, h => h
  | .cls k, v, h => h
  | .scr ns, v, ⟨a, h1, h2⟩ => ⟨a, h1, sql_mono e h2⟩
theorem DenL.mono (e : ∀ a o, G a = some o → G' a = some o) : ∀ (ds : List D) (vs : List V), DenL cm K G ds vs → DenL cm K G' ds vs
  | [], vs, h => h
  | d :: ds, vs, ⟨v, r, h1, h2, h3⟩ => ⟨v, r, h1, Den.mono e d v h2, DenL.mono e ds r h3⟩
end
theorem DenL.length : ∀ {ds : List D} {vs : List V}, DenL cm K G ds vs → ds.length = vs.length
  | [], vs, h => by cases h; rfl
  | d :: ds, vs, ⟨v, r, h1, h2, h3⟩ => by subst h1; rw [List.length_cons, List.length_cons, DenL.length h3]
theorem DenL.append : ∀ {ds es : List D} {vs us : List V}, DenL cm K G ds vs → DenL cm K G es us → DenL cm K G (ds ++ es) (vs ++ us)
  | [], es, vs, us, h, h' => by cases h; exact h'
  | d :: ds, es, vs, us, ⟨v, r, h1, h2, h3⟩, h' => by subst h1; exact ⟨v, r ++ us, rfl, h2, DenL.append h3 h'⟩
theorem DenL.get : ∀ {ds : List D} {vs : List V} {i : Nat} {d : D}, DenL cm K G ds vs → ds[i]? = some d → ∃ v, vs[i]? = some v ∧ Den cm K G d v
  | [], vs, i, d, h, e => by simp at e
  | d' :: ds, vs, 0, d, ⟨v, r, h1, h2, h3⟩, e => by
    subst h1
    have q : d' = d := by simpa using e
    subst q
    exact ⟨v, rfl, h2⟩
  | d' :: ds, vs, i + 1, d, ⟨v, r, h1, h2, h3⟩, e => by
    subst h1
    obtain ⟨u, q1, q2⟩ := DenL.get (i := i) h3 (by simpa using e)
    exact ⟨u, by simpa using q1, q2⟩
theorem DenL.get' : ∀ {ds : List D} {vs : List V} {i : Nat} {v : V}, DenL cm K G ds vs → vs[i]? = some v → ∃ d, ds[i]? = some d ∧ Den cm K G d v
  | [], vs, i, v, h, e => by cases h; simp at e
  | d' :: ds, vs, 0, v, ⟨v', r, h1, h2, h3⟩, e => by
    subst h1
    have q : v' = v := by simpa using e
    subst q
    exact ⟨d', rfl, h2⟩
  | d' :: ds, vs, i + 1, v, ⟨v', r, h1, h2, h3⟩, e => by
    subst h1
    obtain ⟨u, q1, q2⟩ := DenL.get' (i := i) h3 (by simpa using e)
    exact ⟨u, by simpa using q1, q2⟩
theorem DenL.take : ∀ {ds : List D} {vs : List V} (n : Nat), DenL cm K G ds vs → DenL cm K G (ds.take n) (vs.take n)
  | [], vs, n, h => by cases h; simp [DenL]
  | d :: ds, vs, 0, h => by simp [DenL]
  | d :: ds, vs, n + 1, ⟨v, r, h1, h2, h3⟩ => by subst h1; exact ⟨v, r.take n, rfl, h2, DenL.take n h3⟩
theorem DenL.drop : ∀ {ds : List D} {vs : List V} (n : Nat), DenL cm K G ds vs → DenL cm K G (ds.drop n) (vs.drop n)
  | [], vs, n, h => by cases h; simp [DenL]
  | d :: ds, vs, 0, h => by simpa using h
  | d :: ds, vs, n + 1, ⟨v, r, h1, h2, h3⟩ => by subst h1; exact DenL.drop n h3
theorem DenL.set : ∀ {ds : List D} {vs : List V} {d : D} {v : V} (n : Nat), DenL cm K G ds vs → Den cm K G d v → DenL cm K G (ds.set n d) (vs.set n v)
  | [], vs, d, v, n, h, h' => by cases h; simp [DenL]
  | d0 :: ds, vs, d, v, 0, ⟨v0, r, h1, h2, h3⟩, h' => by subst h1; exact ⟨v, r, rfl, h', h3⟩
  | d0 :: ds, vs, d, v, n + 1, ⟨v0, r, h1, h2, h3⟩, h' => by subst h1; exact ⟨v0, r.set n v, rfl, h2, DenL.set n h3 h'⟩
end

/-! ### what a name holds -/
inductive S where
  | un | fr (d : D) | own (d : D) | bor (d : D)

/-- what a callee may read: what stands still, and what is not this def's own -/
def Gb (n : Nat) (c : Col) (H : Hp) : Hp := fun a => if c a = 0 ∨ n + 8 < c a then H a else none
theorem Gb.of {n : Nat} {c : Col} {H : Hp} {a : Addr} {o : HO} (h0 : c a = 0 ∨ n + 8 < c a) (h : H a = some o) : Gb n c H a = some o := by
  unfold Gb; rw [if_pos h0]; exact h
theorem Gb.to {n : Nat} {c : Col} {H : Hp} {a : Addr} {o : HO} (h : Gb n c H a = some o) : (c a = 0 ∨ n + 8 < c a) ∧ H a = some o := by
  unfold Gb at h
  by_cases q : c a = 0 ∨ n + 8 < c a
  · rw [if_pos q] at h; exact ⟨q, h⟩
  · rw [if_neg q] at h; cases h
section
variable (cm : Nat → Addr) (K : PySem.W.Frag) (n : Nat)
/-- read at the top from Gt, within from Gi -/
def DenX (Gt Gi : Hp) : D → V → Prop
  | .lst xs, v => ∃ a vs, v = .ref a ∧ Gt a = some (.lst vs) ∧ DenL cm K Gi xs vs
  | .dic ks xs, v => ∃ a vs, v = .ref a ∧ Gt a = some (.dK (kys ks vs)) ∧ ks.length = vs.length ∧ DenL cm K Gi xs vs
  | d, v => Den cm K Gi d v
abbrev DenR (c : Col) (H : Hp) : D → V → Prop := DenX cm K H (Gz c H)
abbrev DenB (c : Col) (H : Hp) : D → V → Prop := DenX cm K (Gb n c H) (Gz c H)
/-- a list, a dict of its own at a -/
def Cont (c : Col) (H : Hp) (a : Addr) : D → Prop
  | .lst xs => ∃ vs, H a = some (.lst vs) ∧ DenL cm K (Gz c H) xs vs
  | .dic ks xs => ∃ vs, H a = some (.dK (kys ks vs)) ∧ ks.length = vs.length ∧ DenL cm K (Gz c H) xs vs
  | _ => False
def RepS (c : Col) (H : Hp) (i : Nat) (v : Option V) : S → Prop
  | .un => True
  | .fr d => ∃ u, v = some u ∧ Den cm K (Gz c H) d u
  | .own d => ∃ a, v = some (.ref a) ∧ c a = i + 1 ∧ Cont cm K c H a d
  | .bor d => ∃ u, v = some u ∧ DenB cm K n c H d u
structure Rep (c : Col) (H : Hp) (ρ : List S) (σ : St) : Prop where
  len : ρ.length = n
  lenσ : σ.length = n
  at_ : ∀ i s, ρ[i]? = some s → ∃ v, σ[i]? = some v ∧ RepS cm K n c H i v s
end
/-- what a stretch of code leaves as it was -/
def Stp (n : Nat) (c c' : Col) (H H' : Hp) : Prop := ∀ a o, H a = some o → (∃ o', H' a = some o') ∧ (c a = 0 → c' a = 0 ∧ H' a = some o) ∧ (n < c a → c' a = c a ∧ H' a = some o)
theorem Stp.refl {n : Nat} {c : Col} {H : Hp} : Stp n c c H H := fun a o h => ⟨⟨o, h⟩, fun q => ⟨q, h⟩, fun _ => ⟨rfl, h⟩⟩
theorem Stp.trans {n : Nat} {c c1 c2 : Col} {H H1 H2 : Hp} (a : Stp n c c1 H H1) (b : Stp n c1 c2 H1 H2) : Stp n c c2 H H2 := fun x o h => by
  obtain ⟨⟨o1, h1⟩, h2, h3⟩ := a x o h
  obtain ⟨k1, k2, k3⟩ := b x o1 h1
  refine ⟨k1, fun q => ?_, fun q => ?_⟩
  · obtain ⟨e1, e2⟩ := h2 q
    rw [h1] at e2; cases e2
    exact k2 e1
  · obtain ⟨e1, e2⟩ := h3 q
    rw [h1] at e2; cases e2
    obtain ⟨z1, z2⟩ := k3 (by rw [e1]; exact q)
    exact ⟨z1.trans e1, z2⟩
theorem Stp.gz {n : Nat} {c c' : Col} {H H' : Hp} (s : Stp n c c' H H') : ∀ a o, Gz c H a = some o → Gz c' H' a = some o := fun a o h => by
  obtain ⟨h0, h1⟩ := Gz.to h
  obtain ⟨q1, q2⟩ := (s a o h1).2.1 h0
  exact Gz.of q1 q2
theorem Stp.gb {n : Nat} {c c' : Col} {H H' : Hp} (s : Stp n c c' H H') : ∀ a o, Gb n c H a = some o → Gb n c' H' a = some o := fun a o h => by
  obtain ⟨h0, h1⟩ := Gb.to h
  rcases h0 with q | q
  · obtain ⟨q1, q2⟩ := (s a o h1).2.1 q
    exact Gb.of (.inl q1) q2
  · obtain ⟨q1, q2⟩ := (s a o h1).2.2 (by omega)
    exact Gb.of (.inr (by rw [q1]; exact q)) q2
theorem Stp.free {n : Nat} {c c' : Col} {H H' : Hp} (s : Stp n c c' H H') {p : Addr} (h : H' p = none) : H p = none := by
  cases q : H p with
  | none => rfl
  | some o =>
    obtain ⟨⟨o', e⟩, _⟩ := s p o q
    rw [h] at e; cases e

section
variable {cm : Nat → Addr} {K : PySem.W.Frag} {n : Nat} {c c' : Col} {H H' Gt Gi Gt' Gi' : Hp}
theorem gz_sub : ∀ a o, Gz c H a = some o → H a = some o := fun a o h => (Gz.to h).2
theorem gb_sub : ∀ a o, Gb n c H a = some o → H a = some o := fun a o h => (Gb.to h).2
theorem gzb_sub : ∀ a o, Gz c H a = some o → Gb n c H a = some o := fun a o h => Gb.of (.inl (Gz.to h).1) (Gz.to h).2
theorem DenX.mono (et : ∀ a o, Gt a = some o → Gt' a = some o) (ei : ∀ a o, Gi a = some o → Gi' a = some o) {d : D} {v : V} (h : DenX cm K Gt Gi d v) : DenX cm K Gt' Gi' d v := by
  cases d with
  | lst xs => obtain ⟨a, vs, h1, h2, h3⟩ := h; exact ⟨a, vs, h1, et _ _ h2, DenL.mono ei _ _ h3⟩
  | dic ks xs => obtain ⟨a, vs, h1, h2, h3, h4⟩ := h; exact ⟨a, vs, h1, et _ _ h2, h3, DenL.mono ei _ _ h4⟩
  | _ => exact Den.mono ei _ _ h
theorem Den.x {d : D} {v : V} (h : Den cm K Gi d v) (e : ∀ a o, Gi a = some o → Gt a = some o) : DenX cm K Gt Gi d v := by
  cases d with
  | lst xs => obtain ⟨a, vs, h1, h2, h3⟩ := h; exact ⟨a, vs, h1, e _ _ h2, h3⟩
  | dic ks xs => obtain ⟨a, vs, h1, h2, h3, h4⟩ := h; exact ⟨a, vs, h1, e _ _ h2, h3, h4⟩
  | _ => exact h
theorem Den.r {d : D} {v : V} (h : Den cm K (Gz c H) d v) : DenR cm K c H d v := h.x gz_sub
theorem Den.b {d : D} {v : V} (h : Den cm K (Gz c H) d v) : DenB cm K n c H d v := h.x gzb_sub
theorem DenB.r {d : D} {v : V} (h : DenB cm K n c H d v) : DenR cm K c H d v := DenX.mono gb_sub (fun _ _ h => h) h
theorem Cont.r {a : Addr} {d : D} (h : Cont cm K c H a d) : DenR cm K c H d (.ref a) := by
  cases d with
  | lst xs => obtain ⟨vs, h1, h2⟩ := h; exact ⟨a, vs, rfl, h1, h2⟩
  | dic ks xs => obtain ⟨vs, h1, h2, h3⟩ := h; exact ⟨a, vs, rfl, h1, h2, h3⟩
  | _ => exact h.elim
theorem Cont.b {a : Addr} {d : D} (h : Cont cm K c H a d) (q : c a = 0 ∨ n + 8 < c a) : DenB cm K n c H d (.ref a) := by
  cases d with
  | lst xs => obtain ⟨vs, h1, h2⟩ := h; exact ⟨a, vs, rfl, Gb.of q h1, h2⟩
  | dic ks xs => obtain ⟨vs, h1, h2, h3⟩ := h; exact ⟨a, vs, rfl, Gb.of q h1, h2, h3⟩
  | _ => exact h.elim
theorem Cont.some_ {a : Addr} {d : D} (h : Cont cm K c H a d) : ∃ o, H a = some o := by
  cases d with
  | lst xs => obtain ⟨vs, h1, h2⟩ := h; exact ⟨_, h1⟩
  | dic ks xs => obtain ⟨vs, h1, h2, h3⟩ := h; exact ⟨_, h1⟩
  | _ => exact h.elim
theorem Cont.keep {a : Addr} {d : D} (g : ∀ a o, Gz c H a = some o → Gz c' H' a = some o) (h : Cont cm K c H a d) (e : ∀ o, H a = some o → H' a = some o) : Cont cm K c' H' a d := by
  cases d with
  | lst xs => obtain ⟨vs, h1, h2⟩ := h; exact ⟨vs, e _ h1, DenL.mono g _ _ h2⟩
  | dic ks xs => obtain ⟨vs, h1, h2, h3⟩ := h; exact ⟨vs, e _ h1, h2, DenL.mono g _ _ h3⟩
  | _ => exact h.elim
theorem Cont.den {a : Addr} {d : D} (h : Cont cm K c H a d) (h0 : c a = 0) : Den cm K (Gz c H) d (.ref a) := by
  cases d with
  | lst xs => obtain ⟨vs, h1, h2⟩ := h; exact ⟨a, vs, rfl, Gz.of h0 h1, h2⟩
  | dic ks xs => obtain ⟨vs, h1, h2, h3⟩ := h; exact ⟨a, vs, rfl, Gz.of h0 h1, h2, h3⟩
  | _ => exact h.elim
end
end Vi

/-! ## ViSem -/
set_option Elab.async false
set_option linter.all false
set_option maxRecDepth 100000
set_option maxHeartbeats 2000000
namespace Vi
open PySem L2

/-! ### evaluators -/
inductive R (α : Type) where
  | ok (a : α) (ρ : List S) | exc (k : Nat) (ρ : List S) | bad
def M (α : Type) := List S → R α
def M.pure {α : Type} (a : α) : M α := fun ρ => .ok a ρ
def M.bind {α β : Type} (f : M α) (g : α → M β) : M β := fun ρ => match f ρ with
  | .ok a ρ' => g a ρ'
  | .exc k ρ' => .exc k ρ'
  | .bad => .bad
instance : Monad M where
  pure := M.pure
  bind := M.bind
def M.bad {α : Type} : M α := fun _ => .bad
def M.lift {α : Type} (o : Option α) : M α := match o with | some a => M.pure a | none => M.bad
theorem M.pure_run {α : Type} (a : α) (ρ : List S) : (Pure.pure a : M α) ρ = .ok a ρ := rfl
theorem M.bind_run {α β : Type} (f : M α) (g : α → M β) (ρ : List S) : (f >>= g) ρ = match f ρ with
  | .ok a ρ' => g a ρ'
  | .exc k ρ' => .exc k ρ'
  | .bad => .bad := rfl

/-- what an expression gives: a value that stands still, the thing at a name, a new list or dict -/
inductive Hd where
  | val (d : D) | slot (i : Nat) | new (d : D)
def at_ (ρ : List S) (i : Nat) : S := (ρ[i]?).getD .un
theorem at_some {ρ : List S} {i : Nat} {s : S} (h : at_ ρ i = s) (hs : s ≠ .un) : ρ[i]? = some s := by
  unfold at_ at h
  cases q : ρ[i]? with
  | none => rw [q] at h; exact absurd h.symm hs
  | some t => rw [q] at h; exact congrArg some h
def S.rd : S → List S → R D
  | .un, _ => .bad
  | .fr d, ρ => .ok d ρ
  | .own d, ρ => .ok d ρ
  | .bor d, ρ => .ok d ρ
def S.fz (i : Nat) : S → List S → R D
  | .fr d, ρ => .ok d ρ
  | .own d, ρ => .ok d (ρ.set i (.fr d))
  | _, _ => .bad
def S.put (i j : Nat) : S → List S → R Unit
  | .fr d, ρ => .ok () (ρ.set i (.fr d))
  | .own d, ρ => .ok () ((ρ.set j (.fr d)).set i (.fr d))
  | _, _ => .bad
def S.giv : S → List S → R S
  | .fr d, ρ => .ok (.fr d) ρ
  | .own d, ρ => .ok (.own d) ρ
  | _, _ => .bad
def rd : Hd → M D
  | .val d, ρ => .ok d ρ
  | .new d, ρ => .ok d ρ
  | .slot i, ρ => (at_ ρ i).rd ρ
/-- it is to stand still from now on -/
def fz : Hd → M D
  | .val d, ρ => .ok d ρ
  | .new d, ρ => .ok d ρ
  | .slot i, ρ => (at_ ρ i).fz i ρ
/-- stored at a name -/
def put (i : Nat) : Hd → M Unit
  | .val d, ρ => .ok () (ρ.set i (.fr d))
  | .new d, ρ => .ok () (ρ.set i (.own d))
  | .slot j, ρ => (at_ ρ j).put i j ρ
/-- handed back: s is .fr or .own -/
def giv : Hd → M S
  | .val d, ρ => .ok (.fr d) ρ
  | .new d, ρ => .ok (.own d) ρ
  | .slot j, ρ => (at_ ρ j).giv ρ

/-- no name becomes a borrowed one -/
def Kq (ρ ρ' : List S) : Prop := ∀ (i : Nat) (d : D), ρ'[i]? = some (S.bor d) → ρ[i]? = some (S.bor d)
structure Stq (n : Nat) (ρ ρ' : List S) (c c' : Col) (H H' : Hp) : Prop where
  st : Stp n c c' H H'
  kq : Kq ρ ρ'
theorem Stq.refl {n : Nat} {ρ : List S} {c : Col} {H : Hp} : Stq n ρ ρ c c H H := ⟨Stp.refl, fun _ _ h => h⟩
theorem Stq.trans {n : Nat} {ρ ρ1 ρ2 : List S} {c c1 c2 : Col} {H H1 H2 : Hp} (a : Stq n ρ ρ1 c c1 H H1) (b : Stq n ρ1 ρ2 c1 c2 H1 H2) : Stq n ρ ρ2 c c2 H H2 := ⟨a.st.trans b.st, fun i d h => a.kq i d (b.kq i d h)⟩
theorem Stp.stq {n : Nat} {ρ : List S} {c c' : Col} {H H' : Hp} (s : Stp n c c' H H') : Stq n ρ ρ c c' H H' := ⟨s, fun _ _ h => h⟩
theorem Stq.app {n : Nat} {ρ ρ1 : List S} {c c1 c2 : Col} {H H1 H2 : Hp} (a : Stq n ρ ρ1 c c1 H H1) (b : Stp n c1 c2 H1 H2) : Stq n ρ ρ1 c c2 H H2 := ⟨a.st.trans b, a.kq⟩
section
variable (cm : Nat → Addr) (K : PySem.W.Frag) (n : Nat) (W : WX)
/-- from the state (ρ₀, c₀, H₀), at σ: what is wanted of an end -/
def QR {α β : Type} (rel : Hp → Col → Hp → St → α → β → Prop) (Q : β → Hp → Prop) (ρ₀ : List S) (c₀ : Col) (H₀ : Hp) (σ : St) : R α → Prop
  | .ok a ρ' => ∀ c' H' x, Stq n ρ₀ ρ' c₀ c' H₀ H' → Rep cm K n c' H' ρ' σ → rel H₀ c' H' σ a x → Q x H'
  | .exc k ρ' => ∀ c' H', Stq n ρ₀ ρ' c₀ c' H₀ H' → Rep cm K n c' H' ρ' σ → W (.ref (cm k)) none σ H'
  | .bad => False
def Sem {α β : Type} (rel : Hp → Col → Hp → St → α → β → Prop) (t : St → Hp → (β → Hp → Prop) → Prop) (f : M α) : Prop :=
  ∀ ρ c σ H Q, Rep cm K n c H ρ σ → QR cm K n W rel Q ρ c H σ (f ρ) → t σ H Q
def SemK {α β γ δ : Type} (rel : Hp → Col → Hp → St → α → β → Prop) (rel' : Hp → Col → Hp → St → γ → δ → Prop) (u : β → St → Hp → (δ → Hp → Prop) → Prop) (g : α → M γ) : Prop :=
  ∀ ρ₀ c₀ H₀ a x ρ c σ H Q, Stq n ρ₀ ρ c₀ c H₀ H → Rep cm K n c H ρ σ → rel H₀ c H σ a x → QR cm K n W rel' Q ρ₀ c₀ H₀ σ (g a ρ) → u x σ H Q
/-- a relation that further steps keep -/
def Stab {α β : Type} (rel : Hp → Col → Hp → St → α → β → Prop) : Prop :=
  (∀ H₀ c c' H H' σ a x, Stp n c c' H H' → rel H₀ c H σ a x → rel H₀ c' H' σ a x) ∧ (∀ c₀ c₁ H₀ H₁ c H σ a x, Stp n c₀ c₁ H₀ H₁ → rel H₁ c H σ a x → rel H₀ c H σ a x)
end
section
variable {cm : Nat → Addr} {K : PySem.W.Frag} {n : Nat} {W : WX} {α β γ δ ε ζ : Type}
variable {rel : Hp → Col → Hp → St → α → β → Prop} {rel' : Hp → Col → Hp → St → γ → δ → Prop} {rel'' : Hp → Col → Hp → St → ε → ζ → Prop}
/-- from a later base -/
theorem QR.later {Q : β → Hp → Prop} {ρ₀ ρ₁ : List S} {c₀ c₁ : Col} {H₀ H₁ : Hp} {σ : St} {r : R α} (st : ∀ c H a x, rel H₁ c H σ a x → rel H₀ c H σ a x) (s : Stq n ρ₀ ρ₁ c₀ c₁ H₀ H₁) (h : QR cm K n W rel Q ρ₀ c₀ H₀ σ r) : QR cm K n W rel Q ρ₁ c₁ H₁ σ r := by
  cases r with
  | ok a ρ' => exact fun c' H' x s' r e => h c' H' x (s.trans s') r (st _ _ _ _ e)
  | exc k ρ' => exact fun c' H' s' r => h c' H' (s.trans s') r
  | bad => exact h
theorem Sem.bind {t : St → Hp → (β → Hp → Prop) → Prop} {u : β → St → Hp → (δ → Hp → Prop) → Prop} {f : M α} {g : α → M γ} (ht : Sem cm K n W rel t f) (hg : SemK cm K n W rel rel' u g) :
    Sem cm K n W rel' (fun σ H Q => t σ H fun x H1 => u x σ H1 Q) (f >>= g) := by
  intro ρ c σ H Q r q
  refine ht ρ c σ H _ r ?_
  rw [M.bind_run] at q
  cases e : f ρ with
  | ok a ρ' =>
    rw [e] at q
    intro c' H' x s r' ex
    exact hg ρ c H a x ρ' c' σ H' Q s r' ex q
  | exc k ρ' => rw [e] at q; exact q
  | bad => rw [e] at q; exact q
/-- a stretch within a continuation -/
theorem SemK.of {t : St → Hp → (δ → Hp → Prop) → Prop} {f : M γ} (st : Stab n rel') (ht : Sem cm K n W rel' t f) : SemK cm K n W rel rel' (fun _ => t) (fun _ => f) := by
  intro ρ₀ c₀ H₀ a x ρ c σ H Q s r _ q
  exact ht ρ c σ H Q r (q.later (fun _ _ _ _ e => st.2 _ _ _ _ _ _ _ _ _ s.st e) s)
end

section
variable (cm : Nat → Addr) (K : PySem.W.Frag) (n : Nat)
/-- what a handle tells of a value; H₀: the heap ahead -/
def HdOk (H₀ : Hp) (c : Col) (H : Hp) (σ : St) (h : Hd) (v : V) : Prop := match h with
  | .val d => Den cm K (Gz c H) d v
  | .slot i => σ[i]? = some (some v)
  | .new d => ∃ a, v = .ref a ∧ H₀ a = none ∧ c a = n + 1 ∧ Cont cm K c H a d
def DOk (H₀ : Hp) (c : Col) (H : Hp) (σ : St) (d : D) (v : V) : Prop := Den cm K (Gz c H) d v
def DsOk (H₀ : Hp) (c : Col) (H : Hp) (σ : St) (d : List D) (v : List V) : Prop := DenL cm K (Gz c H) d v
def BlOk (H₀ : Hp) (c : Col) (H : Hp) (σ : St) (a b : Bool) : Prop := a = b
end
section
variable {cm : Nat → Addr} {K : PySem.W.Frag} {n : Nat} {W : WX} {c c' c₀ : Col} {H H' H₀ : Hp} {σ : St} {ρ ρ' : List S}
theorem HdOk.stp {h : Hd} {v : V} (s : Stp n c c' H H') (x : HdOk cm K n H₀ c H σ h v) : HdOk cm K n H₀ c' H' σ h v := by
  cases h with
  | val d => exact Den.mono s.gz _ _ x
  | slot i => exact x
  | new d =>
    obtain ⟨a, e, h0, h1, h2⟩ := x
    have hk : ∀ o, H a = some o → c' a = c a ∧ H' a = some o := fun o q => (s a o q).2.2 (by rw [h1]; exact Nat.lt_succ_self n)
    obtain ⟨o, ho⟩ := h2.some_
    exact ⟨a, e, h0, (hk o ho).1.trans h1, h2.keep s.gz fun o q => (hk o q).2⟩
theorem hd_stab : Stab n (HdOk cm K n) := by
  refine ⟨fun H₀ c c' H H' σ a x s h => h.stp s, fun c₀ c₁ H₀ H₁ c H σ a x s h => ?_⟩
  cases a with
  | val d => exact h
  | slot i => exact h
  | new d =>
    obtain ⟨a, e, h0, h1, h2⟩ := h
    exact ⟨a, e, s.free h0, h1, h2⟩
theorem d_stab : Stab n (DOk cm K) := ⟨fun H₀ c c' H H' σ a x s h => Den.mono s.gz _ _ h, fun c₀ c₁ H₀ H₁ c H σ a x s h => h⟩
theorem ds_stab : Stab n (DsOk cm K) := ⟨fun H₀ c c' H H' σ a x s h => DenL.mono s.gz _ _ h, fun c₀ c₁ H₀ H₁ c H σ a x s h => h⟩
theorem bl_stab : Stab n BlOk := ⟨fun H₀ c c' H H' σ a x s h => h, fun c₀ c₁ H₀ H₁ c H σ a x s h => h⟩

theorem slot_ok {i : Nat} {v : V} {s : S} (r : Rep cm K n c H ρ σ) (x : σ[i]? = some (some v)) (e : at_ ρ i = s) (hs : s ≠ .un) : i < n ∧ ρ[i]? = some s ∧ RepS cm K n c H i (some v) s := by
  have q := at_some e hs
  obtain ⟨v', hv, h⟩ := r.at_ i s q
  rw [x] at hv
  obtain rfl : some v = v' := Option.some.inj hv
  exact ⟨by rw [← r.len]; exact (List.getElem?_eq_some_iff.mp q).1, q, h⟩
theorem rd_ok {h : Hd} {v : V} {d : D} (r : Rep cm K n c H ρ σ) (x : HdOk cm K n H₀ c H σ h v) (e : rd h ρ = .ok d ρ') : ρ' = ρ ∧ DenR cm K c H d v := by
  cases h with
  | val d' => cases e; exact ⟨rfl, Den.r x⟩
  | new d' => cases e; obtain ⟨a, e, h0, h1, h2⟩ := x; subst e; exact ⟨rfl, h2.r⟩
  | slot i =>
    have e : (at_ ρ i).rd ρ = .ok d ρ' := e
    cases q : at_ ρ i with
    | un => rw [q] at e; cases e
    | fr d' =>
      rw [q] at e; cases e
      obtain ⟨_, _, u, e1, e2⟩ := slot_ok r x q (fun z => nomatch z)
      cases e1; exact ⟨rfl, e2.r⟩
    | own d' =>
      rw [q] at e; cases e
      obtain ⟨_, _, a, e1, e2, e3⟩ := slot_ok r x q (fun z => nomatch z)
      cases e1; exact ⟨rfl, e3.r⟩
    | bor d' =>
      rw [q] at e; cases e
      obtain ⟨_, _, u, e1, e2⟩ := slot_ok r x q (fun z => nomatch z)
      cases e1; exact ⟨rfl, DenB.r e2⟩
theorem rd_cases (h : Hd) (ρ : List S) : (∃ d, rd h ρ = .ok d ρ) ∨ rd h ρ = .bad := by
  cases h with
  | val d' => exact .inl ⟨_, rfl⟩
  | new d' => exact .inl ⟨_, rfl⟩
  | slot i =>
    show (∃ d, (at_ ρ i).rd ρ = .ok d ρ) ∨ (at_ ρ i).rd ρ = .bad
    cases at_ ρ i with
    | un => exact .inr rfl
    | fr d' => exact .inl ⟨_, rfl⟩
    | own d' => exact .inl ⟨_, rfl⟩
    | bor d' => exact .inl ⟨_, rfl⟩

/-! ### steps -/
def cset (c : Col) (a : Addr) (k : Nat) : Col := fun b => if b = a then k else c b
theorem cset_same {a : Addr} {k : Nat} : cset c a k a = k := by unfold cset; rw [if_pos rfl]
theorem cset_ne {a b : Addr} {k : Nat} (h : b ≠ a) : cset c a k b = c b := by unfold cset; rw [if_neg h]
/-- all stays -/
def Ext (c c' : Col) (H H' : Hp) : Prop := ∀ a o, H a = some o → c' a = c a ∧ H' a = some o
theorem Ext.refl : Ext c c H H := fun a o h => ⟨rfl, h⟩
theorem Ext.trans {c1 c2 : Col} {H1 H2 : Hp} (a : Ext c c1 H H1) (b : Ext c1 c2 H1 H2) : Ext c c2 H H2 := fun x o h => by
  obtain ⟨e1, e2⟩ := a x o h
  obtain ⟨f1, f2⟩ := b x o e2
  exact ⟨f1.trans e1, f2⟩
theorem Ext.stp (e : Ext c c' H H') : Stp n c c' H H' := fun a o h => ⟨⟨o, (e a o h).2⟩, fun q => ⟨by rw [(e a o h).1]; exact q, (e a o h).2⟩, fun _ => e a o h⟩
theorem Ext.alloc {p : Addr} {o : HO} {k : Nat} (hp : H p = none) : Ext c (cset c p k) H (upd H p o) := fun a u h => by
  have ne : a ≠ p := ne_of_none h hp
  exact ⟨cset_ne ne, by rw [upd_ne ne]; exact h⟩
/-- what a name holds stays if what it leans on stays -/
theorem RepS.keep {i : Nat} {v : Option V} {s : S} (h : RepS cm K n c H i v s) (g : ∀ a o, Gz c H a = some o → Gz c' H' a = some o) (gb : ∀ a o, Gb n c H a = some o → Gb n c' H' a = some o)
    (ow : ∀ a o, c a = i + 1 → H a = some o → c' a = c a ∧ H' a = some o) : RepS cm K n c' H' i v s := by
  cases s with
  | un => trivial
  | fr d => obtain ⟨u, e1, e2⟩ := h; exact ⟨u, e1, Den.mono g _ _ e2⟩
  | own d =>
    obtain ⟨a, e1, e2, e3⟩ := h
    obtain ⟨o, ho⟩ := e3.some_
    exact ⟨a, e1, (ow a o e2 ho).1.trans e2, e3.keep g fun o q => (ow a o e2 q).2⟩
  | bor d => obtain ⟨u, e1, e2⟩ := h; exact ⟨u, e1, DenX.mono gb g e2⟩
theorem Ext.gz (e : Ext c c' H H') : ∀ a o, Gz c H a = some o → Gz c' H' a = some o := (e.stp (n := 0)).gz
theorem Ext.gb (e : Ext c c' H H') : ∀ a o, Gb n c H a = some o → Gb n c' H' a = some o := (e.stp (n := n)).gb
theorem Rep.ext (r : Rep cm K n c H ρ σ) (e : Ext c c' H H') : Rep cm K n c' H' ρ σ :=
  ⟨r.len, r.lenσ, fun i s q => by
    obtain ⟨v, h1, h2⟩ := r.at_ i s q
    exact ⟨v, h1, h2.keep e.gz e.gb fun a o _ h => e a o h⟩⟩
/-- an address of no name's is coloured anew -/
theorem Rep.recol {p : Addr} {k : Nat} (r : Rep cm K n c H ρ σ) (hp : n < c p) (hp2 : c p ≤ n + 8) : Rep cm K n (cset c p k) H ρ σ :=
  ⟨r.len, r.lenσ, fun i s q => by
    obtain ⟨v, h1, h2⟩ := r.at_ i s q
    have hi : i < n := by rw [← r.len]; exact (List.getElem?_eq_some_iff.mp q).1
    refine ⟨v, h1, h2.keep (fun a o h => ?_) (fun a o h => ?_) fun a o e h => ?_⟩
    · obtain ⟨z1, z2⟩ := Gz.to h
      exact Gz.of (by rw [cset_ne (fun e => by rw [e] at z1; omega)]; exact z1) z2
    · obtain ⟨z1, z2⟩ := Gb.to h
      exact Gb.of (by rw [cset_ne (fun e => by rw [e] at z1; omega)]; exact z1) z2
    · exact ⟨cset_ne (fun q => by rw [q] at e; omega), h⟩⟩
theorem Stp.recol {p : Addr} {k : Nat} (s : Stp n c₀ c H₀ H) (h0 : H₀ p = none) : Stp n c₀ (cset c p k) H₀ H := fun a o h => by
  have ne : a ≠ p := ne_of_none h h0
  rw [cset_ne ne]
  exact s a o h
theorem Stp.recolS {p : Addr} {k : Nat} (s : Stp n c₀ c H₀ H) (h1 : c p ≠ 0) (h2 : c p ≤ n) : Stp n c₀ (cset c p k) H₀ H := fun b o h => by
  obtain ⟨k1, k2, k3⟩ := s b o h
  refine ⟨k1, fun q => ?_, fun q => ?_⟩
  · obtain ⟨z1, z2⟩ := k2 q
    exact ⟨by rw [cset_ne (fun e => by rw [e] at z1; exact h1 z1)]; exact z1, z2⟩
  · obtain ⟨z1, z2⟩ := k3 q
    exact ⟨by rw [cset_ne (fun e => by rw [e] at z1 q; omega)]; exact z1, z2⟩
theorem gz_recol {p : Addr} {k : Nat} (hp : c p ≠ 0) : ∀ a o, Gz c H a = some o → Gz (cset c p k) H a = some o := fun a o h => by
  obtain ⟨z1, z2⟩ := Gz.to h
  exact Gz.of (by rw [cset_ne (fun e => by rw [e] at z1; exact hp z1)]; exact z1) z2
/-- a name's own list stands still from now on -/
theorem Rep.still {i : Nat} {a : Addr} {d : D} (r : Rep cm K n c H ρ σ) (hs : ρ[i]? = some (.own d)) (ha : σ[i]? = some (some (.ref a))) (hc : c a = i + 1) : Rep cm K n (cset c a 0) H (ρ.set i (.fr d)) σ ∧ Cont cm K (cset c a 0) H a d := by
  have hi : i < n := by rw [← r.len]; exact (List.getElem?_eq_some_iff.mp hs).1
  have g : ∀ b o, Gz c H b = some o → Gz (cset c a 0) H b = some o := gz_recol (by omega)
  obtain ⟨v, h1, ⟨a', e1, e2, e3⟩⟩ := r.at_ i _ hs
  rw [ha] at h1
  cases h1
  cases e1
  have ct := e3.keep (c' := cset c a 0) (H' := H) g fun o q => q
  refine ⟨⟨by rw [List.length_set]; exact r.len, r.lenσ, fun j s q => ?_⟩, ct⟩
  by_cases hj : i = j
  · subst hj
    rw [List.getElem?_set_self (by rw [r.len]; exact hi)] at q
    cases q
    exact ⟨_, ha, _, rfl, ct.den cset_same⟩
  · rw [List.getElem?_set_ne hj] at q
    obtain ⟨v, h1, h2⟩ := r.at_ j s q
    refine ⟨v, h1, h2.keep g (fun b o h => ?_) fun b o e h => ⟨cset_ne (fun q => by rw [q] at e; omega), h⟩⟩
    obtain ⟨z1, z2⟩ := Gb.to h
    exact Gb.of (by rw [cset_ne (fun e => by rw [e] at z1; omega)]; exact z1) z2
/-- a name stored: σ has v there -/
theorem Rep.store {i : Nat} {v : V} {s : S} (r : Rep cm K n c H ρ σ) (h : RepS cm K n c H i (some v) s) : Rep cm K n c H (ρ.set i s) (σ.set i (some v)) :=
  ⟨by rw [List.length_set]; exact r.len, by rw [List.length_set]; exact r.lenσ, fun j t q => by
    by_cases hj : i = j
    · subst hj
      have hi : i < n := by
        have := (List.getElem?_eq_some_iff.mp q).1
        rw [List.length_set, r.len] at this
        exact this
      rw [List.getElem?_set_self (by rw [r.len]; exact hi)] at q
      cases q
      exact ⟨_, List.getElem?_set_self (by rw [r.lenσ]; exact hi), h⟩
    · rw [List.getElem?_set_ne hj] at q
      obtain ⟨v', h1, h2⟩ := r.at_ j t q
      exact ⟨v', by rw [List.getElem?_set_ne hj]; exact h1, h2⟩⟩
def Kp (ρ ρ' : List S) (σ σ' : St) : Prop := ∀ (i : Nat) (d : D), ρ'[i]? = some (S.bor d) → ρ[i]? = some (S.bor d) ∧ σ'[i]? = σ[i]?
theorem Kp.refl {ρ : List S} {σ : St} : Kp ρ ρ σ σ := fun i d h => ⟨h, rfl⟩
theorem Kp.trans {ρ ρ1 ρ2 : List S} {σ σ1 σ2 : St} (a : Kp ρ ρ1 σ σ1) (b : Kp ρ1 ρ2 σ1 σ2) : Kp ρ ρ2 σ σ2 := fun i d h => by
  obtain ⟨h1, e1⟩ := b i d h
  obtain ⟨h2, e2⟩ := a i d h1
  exact ⟨h2, e1.trans e2⟩
theorem Kp.set {ρ : List S} {σ : St} {i : Nat} {s : S} {v : Option V} (h : ∀ d, s ≠ .bor d) : Kp ρ (ρ.set i s) σ (σ.set i v) := fun j d q => by
  by_cases hj : i = j
  · subst hj
    by_cases hi : i < ρ.length
    · rw [List.getElem?_set_self hi] at q; cases q; exact absurd rfl (h d)
    · rw [List.getElem?_eq_none (by rw [List.length_set]; omega)] at q; cases q
  · rw [List.getElem?_set_ne hj] at q
    exact ⟨q, by rw [List.getElem?_set_ne hj]⟩
theorem Kp.set1 {ρ : List S} {σ : St} {i : Nat} {s : S} (h : ∀ d, s ≠ .bor d) : Kp ρ (ρ.set i s) σ σ := fun j d q => by
  by_cases hj : i = j
  · subst hj
    by_cases hi : i < ρ.length
    · rw [List.getElem?_set_self hi] at q; cases q; exact absurd rfl (h d)
    · rw [List.getElem?_eq_none (by rw [List.length_set]; omega)] at q; cases q
  · rw [List.getElem?_set_ne hj] at q
    exact ⟨q, rfl⟩
theorem fz_ok {ρ₀ : List S} {h : Hd} {v : V} {d : D} (s : Stq n ρ₀ ρ c₀ c H₀ H) (r : Rep cm K n c H ρ σ) (x : HdOk cm K n H₀ c H σ h v) (e : fz h ρ = .ok d ρ') :
    ∃ c', Stq n ρ₀ ρ' c₀ c' H₀ H ∧ Rep cm K n c' H ρ' σ ∧ Den cm K (Gz c' H) d v ∧ ∀ b o, Gz c H b = some o → Gz c' H b = some o := by
  cases h with
  | val d' => cases e; exact ⟨c, s, r, x, fun _ _ h => h⟩
  | new d' =>
    cases e
    obtain ⟨a, e, h0, h1, h2⟩ := x
    subst e
    have g : ∀ b o, Gz c H b = some o → Gz (cset c a 0) H b = some o := gz_recol (by omega)
    exact ⟨cset c a 0, ⟨s.st.recol h0, s.kq⟩, r.recol (by omega) (by omega), (h2.keep g fun o q => q).den cset_same, g⟩
  | slot i =>
    have e : (at_ ρ i).fz i ρ = .ok d ρ' := e
    cases q : at_ ρ i with
    | un => rw [q] at e; cases e
    | bor d' => rw [q] at e; cases e
    | fr d' =>
      rw [q] at e; cases e
      obtain ⟨_, _, u, e1, e2⟩ := slot_ok r x q (fun z => nomatch z)
      cases e1; exact ⟨c, s, r, e2, fun _ _ h => h⟩
    | own d' =>
      rw [q] at e; cases e
      obtain ⟨hi, hs, a, e1, e2, e3⟩ := slot_ok r x q (fun z => nomatch z)
      cases e1
      obtain ⟨r', ct⟩ := r.still hs x e2
      have g : ∀ b o, Gz c H b = some o → Gz (cset c a 0) H b = some o := gz_recol (by omega)
      have e2' : c a = i + 1 := e2
      exact ⟨cset c a 0, ⟨s.st.recolS (by omega) (by omega), fun j e q => s.kq j e ((Kp.set1 (s := S.fr d) (σ := σ) (fun _ z => S.noConfusion z)) j e q).1⟩, r', ct.den cset_same, g⟩

theorem put_ok {i : Nat} {h : Hd} {v : V} {u : Unit} (s : Stp n c₀ c H₀ H) (r : Rep cm K n c H ρ σ) (x : HdOk cm K n H₀ c H σ h v) (hi : i < n) (e : put i h ρ = .ok u ρ') :
    ∃ c', Stp n c₀ c' H₀ H ∧ Rep cm K n c' H ρ' (σ.set i (some v)) ∧ Kp ρ ρ' σ (σ.set i (some v)) := by
  cases h with
  | val d' => cases e; exact ⟨c, s, r.store ⟨v, rfl, x⟩, Kp.set (fun _ z => nomatch z)⟩
  | new d' =>
    cases e
    obtain ⟨a, e, h0, h1, h2⟩ := x
    subst e
    have g : ∀ b o, Gz c H b = some o → Gz (cset c a (i + 1)) H b = some o := gz_recol (by omega)
    exact ⟨cset c a (i + 1), s.recol h0, (r.recol (by omega) (by omega)).store ⟨a, rfl, cset_same, h2.keep g fun o q => q⟩, Kp.set (fun _ z => nomatch z)⟩
  | slot j =>
    have e : (at_ ρ j).put i j ρ = .ok u ρ' := e
    cases q : at_ ρ j with
    | un => rw [q] at e; cases e
    | bor d' => rw [q] at e; cases e
    | fr d' =>
      rw [q] at e; cases e
      obtain ⟨_, _, u, e1, e2⟩ := slot_ok r x q (fun z => nomatch z)
      cases e1; exact ⟨c, s, r.store ⟨v, rfl, e2⟩, Kp.set (fun _ z => nomatch z)⟩
    | own d' =>
      rw [q] at e; cases e
      obtain ⟨hj, hs, a, e1, e2, e3⟩ := slot_ok r x q (fun z => nomatch z)
      cases e1
      obtain ⟨r', ct⟩ := r.still hs x e2
      have e2' : c a = j + 1 := e2
      exact ⟨cset c a 0, s.recolS (by omega) (by omega), r'.store ⟨_, rfl, ct.den cset_same⟩, (Kp.set1 (s := S.fr d') (σ := σ) (fun _ z => S.noConfusion z)).trans (Kp.set (s := S.fr d') (fun _ z => S.noConfusion z))⟩
end
section
variable (cm : Nat → Addr) (K : PySem.W.Frag) (n : Nat)
def RtOk (H₀ : Hp) (c : Col) (H : Hp) (s : S) (v : V) : Prop := match s with
  | .fr d => Den cm K (Gz c H) d v
  | .own d => ∃ a, v = .ref a ∧ c a ≠ 0 ∧ Cont cm K c H a d ∧ (H₀ a = none ∨ c a ≤ n)
  | _ => False
end
section
variable {cm : Nat → Addr} {K : PySem.W.Frag} {n : Nat} {W : WX} {c c' c₀ : Col} {H H' H₀ : Hp} {σ : St} {ρ ρ' : List S}
theorem giv_ok {h : Hd} {v : V} {s : S} (st : Stp n c₀ c H₀ H) (r : Rep cm K n c H ρ σ) (x : HdOk cm K n H₀ c H σ h v) (e : giv h ρ = .ok s ρ') : ρ' = ρ ∧ RtOk cm K n H₀ c H s v := by
  cases h with
  | val d' => cases e; exact ⟨rfl, x⟩
  | new d' =>
    cases e
    obtain ⟨a, e, h0, h1, h2⟩ := x
    exact ⟨rfl, a, e, by omega, h2, .inl h0⟩
  | slot j =>
    have e : (at_ ρ j).giv ρ = .ok s ρ' := e
    cases q : at_ ρ j with
    | un => rw [q] at e; cases e
    | bor d' => rw [q] at e; cases e
    | fr d' =>
      rw [q] at e; cases e
      obtain ⟨_, _, u, e1, e2⟩ := slot_ok r x q (fun z => nomatch z)
      cases e1; exact ⟨rfl, e2⟩
    | own d' =>
      rw [q] at e; cases e
      obtain ⟨hj, hs, a, e1, e2, e3⟩ := slot_ok r x q (fun z => nomatch z)
      cases e1
      have e2' : c a = j + 1 := e2
      exact ⟨rfl, a, rfl, by omega, e3, .inr (by omega)⟩
theorem giv_cases (h : Hd) (ρ : List S) : (∃ s, giv h ρ = .ok s ρ) ∨ giv h ρ = .bad := by
  cases h with
  | val d' => exact .inl ⟨_, rfl⟩
  | new d' => exact .inl ⟨_, rfl⟩
  | slot i =>
    show (∃ s, (at_ ρ i).giv ρ = .ok s ρ) ∨ (at_ ρ i).giv ρ = .bad
    cases at_ ρ i with
    | un => exact .inr rfl
    | bor d' => exact .inr rfl
    | fr d' => exact .inl ⟨_, rfl⟩
    | own d' => exact .inl ⟨_, rfl⟩
theorem fz_cases (h : Hd) (ρ : List S) : (∃ d ρ', fz h ρ = .ok d ρ') ∨ fz h ρ = .bad := by
  cases h with
  | val d' => exact .inl ⟨_, _, rfl⟩
  | new d' => exact .inl ⟨_, _, rfl⟩
  | slot i =>
    show (∃ d ρ', (at_ ρ i).fz i ρ = .ok d ρ') ∨ (at_ ρ i).fz i ρ = .bad
    cases at_ ρ i with
    | un => exact .inr rfl
    | bor d' => exact .inr rfl
    | fr d' => exact .inl ⟨_, _, rfl⟩
    | own d' => exact .inl ⟨_, _, rfl⟩
theorem put_cases (i : Nat) (h : Hd) (ρ : List S) : (∃ ρ', put i h ρ = .ok () ρ') ∨ put i h ρ = .bad := by
  cases h with
  | val d' => exact .inl ⟨_, rfl⟩
  | new d' => exact .inl ⟨_, rfl⟩
  | slot j =>
    show (∃ ρ', (at_ ρ j).put i j ρ = .ok () ρ') ∨ (at_ ρ j).put i j ρ = .bad
    cases at_ ρ j with
    | un => exact .inr rfl
    | bor d' => exact .inr rfl
    | fr d' => exact .inl ⟨_, rfl⟩
    | own d' => exact .inl ⟨_, rfl⟩
end
end Vi

/-! ## ViRules -/
set_option Elab.async false
set_option linter.all false
set_option maxRecDepth 100000
set_option maxHeartbeats 2000000
namespace Vi
open PySem L2

/-! ### judgements -/
structure VE (cm : Nat → Addr) (X : Cx) (W : WX) (e : Expr) (te : TE) (f : M Hd) : Prop where
  pe : PE X e te
  sem : Sem cm X.K X.N.length W (HdOk cm X.K X.N.length) te f
structure VT (cm : Nat → Addr) (X : Cx) (W : WX) (e : Expr) (te : TT) (f : M Bool) : Prop where
  pe : PT X e te
  sem : Sem cm X.K X.N.length W BlOk te f
structure VW (cm : Nat → Addr) (X : Cx) (W : WX) (e : Expr) (te : TT) (f : M Bool) : Prop where
  pe : PW X e te
  sem : Sem cm X.K X.N.length W BlOk te f
/-- arguments that are read -/
def HsOk (cm : Nat → Addr) (K : PySem.W.Frag) (n : Nat) (H₀ : Hp) (c : Col) (H : Hp) (σ : St) : List Hd → List V → Prop
  | [], vs => vs = []
  | h :: hs, vs => ∃ v r, vs = v :: r ∧ HdOk cm K n H₀ c H σ h v ∧ HsOk cm K n H₀ c H σ hs r
structure VA (cm : Nat → Addr) (X : Cx) (W : WX) (es : List Expr) (ta : TA) (f : M (List Hd)) : Prop where
  pe : PA X es ta
  sem : Sem cm X.K X.N.length W (HsOk cm X.K X.N.length) ta f
/-- items of a display -/
structure VD (cm : Nat → Addr) (X : Cx) (W : WX) (es : List Expr) (ta : TA) (f : M (List D)) : Prop where
  pe : PA X es ta
  sem : Sem cm X.K X.N.length W (DsOk cm X.K) ta f

section
variable {cm : Nat → Addr} {K : PySem.W.Frag} {n : Nat} {W : WX}
theorem HsOk.stp {c c' : Col} {H H' H₀ : Hp} {σ : St} (s : Stp n c c' H H') : ∀ {hs : List Hd} {vs : List V}, HsOk cm K n H₀ c H σ hs vs → HsOk cm K n H₀ c' H' σ hs vs
  | [], _, h => h
  | _ :: _, _, ⟨v, r, e, h1, h2⟩ => ⟨v, r, e, h1.stp s, HsOk.stp s h2⟩
theorem HsOk.base {c₀ c₁ c : Col} {H₀ H₁ H : Hp} {σ : St} (s : Stp n c₀ c₁ H₀ H₁) : ∀ {hs : List Hd} {vs : List V}, HsOk cm K n H₁ c H σ hs vs → HsOk cm K n H₀ c H σ hs vs
  | [], _, h => h
  | _ :: _, _, ⟨v, r, e, h1, h2⟩ => ⟨v, r, e, hd_stab.2 _ _ _ _ _ _ _ _ _ s h1, HsOk.base s h2⟩
theorem hs_stab : Stab n (HsOk cm K n) := ⟨fun _ _ _ _ _ _ _ _ s h => h.stp s, fun _ _ _ _ _ _ _ _ _ s h => h.base s⟩

/-! ### pure ends -/
theorem sem_pure {α β : Type} {rel : Hp → Col → Hp → St → α → β → Prop} {t : St → Hp → (β → Hp → Prop) → Prop} {a : α} {b : β} (ht : ∀ σ H Q, Q b H → t σ H Q) (hr : ∀ c H σ, rel H c H σ a b) : Sem cm K n W rel t (M.pure a) :=
  fun ρ c σ H Q r q => ht σ H Q (q c H b Stq.refl r (hr c H σ))
theorem sem_bad {α β : Type} {rel : Hp → Col → Hp → St → α → β → Prop} {t : St → Hp → (β → Hp → Prop) → Prop} : Sem cm K n W rel t (M.bad : M α) := fun _ _ _ _ _ _ q => q.elim
end

/-! ### evaluators of expressions -/
def S.asHd (i : Nat) : S → List S → R Hd
  | .un, _ => .bad
  | .fr d, ρ => .ok (.val d) ρ
  | _, ρ => .ok (.slot i) ρ
def eVar (i : Nat) : M Hd := fun ρ => (at_ ρ i).asHd i ρ
def eC (d : D) : M Hd := M.pure (.val d)
def eOp (g : D → D → Option Hd) (a b : M Hd) : M Hd := a >>= fun x => b >>= fun y => rd x >>= fun d => rd y >>= fun e => M.lift (g d e)
def eUn (g : D → Option Hd) (a : M Hd) : M Hd := a >>= fun x => rd x >>= fun d => M.lift (g d)
def bl? : D → Option Bool | .bl b => some b | _ => none
def eTest (a : M Hd) : M Bool := a >>= fun x => rd x >>= fun d => M.lift (bl? d)
def eAnd (a b : M Bool) : M Bool := a >>= fun x => if x = true then b else pure false
def eOr (a b : M Bool) : M Bool := a >>= fun x => if x = true then pure true else b
def eNot (a : M Bool) : M Bool := a >>= fun x => pure (!x)
def eB (a : M Bool) : M Hd := a >>= fun x => pure (.val (.bl x))
def eIf (c : M Bool) (a b : M Hd) : M Hd := c >>= fun x => if x = true then a else b
def eNil : M (List Hd) := pure []
def eCons (a : M Hd) (r : M (List Hd)) : M (List Hd) := a >>= fun x => r >>= fun xs => pure (x :: xs)
def dNil : M (List D) := pure []
def dCons (a : M Hd) (r : M (List D)) : M (List D) := a >>= fun x => fz x >>= fun d => r >>= fun xs => pure (d :: xs)
def rds : List Hd → M (List D)
  | [] => pure []
  | h :: hs => rd h >>= fun d => rds hs >>= fun ds => pure (d :: ds)

section
variable {cm : Nat → Addr} {X : Cx} {W : WX} {K : PySem.W.Frag} {n : Nat}

theorem sem_var {i : Nat} : Sem cm K n W (HdOk cm K n) (tVar i) (eVar i) := by
  intro ρ c σ H Q r q
  unfold eVar at q
  cases e : at_ ρ i with
  | un => rw [e] at q; exact q.elim
  | fr d =>
    rw [e] at q
    obtain ⟨v, h1, u, e1, e2⟩ := r.at_ i _ (at_some e (fun z => nomatch z))
    subst e1
    exact ⟨u, h1, q c H u Stq.refl r e2⟩
  | own d =>
    rw [e] at q
    obtain ⟨v, h1, a, e1, e2⟩ := r.at_ i _ (at_some e (fun z => nomatch z))
    subst e1
    exact ⟨_, h1, q c H _ Stq.refl r h1⟩
  | bor d =>
    rw [e] at q
    obtain ⟨v, h1, u, e1, e2⟩ := r.at_ i _ (at_some e (fun z => nomatch z))
    subst e1
    exact ⟨_, h1, q c H _ Stq.refl r h1⟩
theorem ve_var (i : Nat) {x : Str} {pos : Pos} (hN : X.N[i]? = some x := by rfl) (hv : Vis X.env.scope x := by first | exact Or.inl rfl | exact Or.inr (Or.inl rfl) | exact Or.inr (Or.inr rfl)) (hd : (x == ("__debug__" : Str)) = false := by decide)
    (hcd : (x == ("__classdict__" : Str)) = false := by decide) : VE cm X W (.Name x pos) (tVar i) (eVar i) := ⟨pe_var hN hv hd hcd, sem_var⟩
theorem sem_c {d : D} {v : V} (h : ∀ G, Den cm K G d v) : Sem cm K n W (HdOk cm K n) (tC v) (eC d) := sem_pure (fun _ _ _ q => q) fun _ _ _ => h _
theorem ve_int {i : Int} {j pos} : VE cm X W (.Constant (.int i) j pos) (tC (.int i)) (eC (.int i)) := ⟨pe_int, sem_c fun _ => rfl⟩
theorem ve_bl {b j pos} : VE cm X W (.Constant (.bool b) j pos) (tC (.bl b)) (eC (.bl b)) := ⟨pe_bl, sem_c fun _ => rfl⟩
theorem ve_non {j pos} : VE cm X W (.Constant .none j pos) (tC .non) (eC .non) := ⟨pe_non, sem_c fun _ => rfl⟩
theorem ve_str (s : List Nat) {x : Str} {j pos} (h : x = ⟨s.toArray⟩ := by rfl) : VE cm X W (.Constant (.str x) j pos) (tC (.str x)) (eC (.str s)) := ⟨pe_str, sem_c fun _ => by show V.str x = _; rw [h]⟩
theorem ve_glob {x : Str} {d : D} {v : V} {u : Value} {pos : Pos} (hm : X.mg x = some u) (r : RelV v u) (h : ∀ G, Den cm X.K G d v) (hg : Gl X x := by rfl) (hd : (x == ("__debug__" : Str)) = false := by decide) : VE cm X W (.Name x pos) (tC v) (eC d) :=
  ⟨pe_glob hg hm r hd, sem_c h⟩
theorem ve_gInt {x : Str} {i : Int} {t : Tok} {pos : Pos} (hm : X.mg x = some (.int i t)) (hg : Gl X x := by rfl) (hd : (x == ("__debug__" : Str)) = false := by decide) : VE cm X W (.Name x pos) (tC (.int i)) (eC (.int i)) :=
  ve_glob hm ⟨t, rfl⟩ (fun _ => rfl) hg hd
theorem ve_gStr (s : List Nat) {x y : Str} {t : Tok} {pos : Pos} (hm : X.mg x = some (.str y t)) (h : y = ⟨s.toArray⟩ := by rfl) (hg : Gl X x := by rfl) (hd : (x == ("__debug__" : Str)) = false := by decide) : VE cm X W (.Name x pos) (tC (.str y)) (eC (.str s)) :=
  ve_glob hm ⟨t, rfl⟩ (fun _ => by show V.str y = _; rw [h]) hg hd
theorem ve_ty {x : Str} {T : String} {pos : Pos} (hm : X.mg x = none) (hv : bootBuiltins x = some (.type T) := by decide +kernel) (hg : Gl X x := by rfl) (hn : x ≠ "__name__" := by decide) (hd : (x == ("__debug__" : Str)) = false := by decide) :
    VE cm X W (.Name x pos) (tC (.ty T)) (eC (.ty T)) := ⟨pe_bltn hg hm hv rfl hn hd, sem_c fun _ => rfl⟩
theorem ve_cls {x : Str} {k : Nat} {pos : Pos} (hm : X.mg x = some (.ref (cm k))) (hg : Gl X x := by rfl) (hd : (x == ("__debug__" : Str)) = false := by decide) : VE cm X W (.Name x pos) (tC (.ref (cm k))) (eC (.cls k)) :=
  ve_glob hm rfl (fun _ => rfl) hg hd

/-! ### operators by values -/
/-- what an operation gives -/
def HdV (cm : Nat → Addr) (K : PySem.W.Frag) (n : Nat) (H : Hp) (c' : Col) (H' : Hp) (h : Hd) (v : V) : Prop := match h with
  | .val d => Den cm K (Gz c' H') d v
  | .slot _ => False
  | .new d => ∃ a, v = .ref a ∧ H a = none ∧ c' a = n + 1 ∧ Cont cm K c' H' a d
def OpS (cm : Nat → Addr) (K : PySem.W.Frag) (n : Nat) (r : R2) (g : D → D → Option Hd) : Prop :=
  ∀ c H d e x y h Q, DenR cm K c H d x → DenR cm K c H e y → g d e = some h → (∀ c' H' v, Ext c c' H H' → HdV cm K n H c' H' h v → Q v H') → r x y H Q
def UnS (cm : Nat → Addr) (K : PySem.W.Frag) (n : Nat) (r : V → Hp → VK → Prop) (g : D → Option Hd) : Prop :=
  ∀ c H d x h Q, DenR cm K c H d x → g d = some h → (∀ c' H' v, Ext c c' H H' → HdV cm K n H c' H' h v → Q v H') → r x H Q
/-- on a list of arguments -/
def DsR (cm : Nat → Addr) (K : PySem.W.Frag) (c : Col) (H : Hp) : List D → List V → Prop
  | [], vs => vs = []
  | d :: ds, vs => ∃ v r, vs = v :: r ∧ DenR cm K c H d v ∧ DsR cm K c H ds r
def CallS (cm : Nat → Addr) (K : PySem.W.Frag) (n : Nat) (r : List V → Hp → VK → Prop) (g : List D → Option Hd) : Prop :=
  ∀ c H ds xs h Q, DsR cm K c H ds xs → g ds = some h → (∀ c' H' v, Ext c c' H H' → HdV cm K n H c' H' h v → Q v H') → r xs H Q
theorem OpS.or {r r' : R2} {g g' : D → D → Option Hd} (a : OpS cm K n r g) (b : OpS cm K n r' g') : OpS cm K n (fun x y H Q => r x y H Q ∨ r' x y H Q) (fun d e => (g d e).or (g' d e)) := by
  intro c H d e x y h Q hd he hg k
  cases q : g d e with
  | some z => simp only [q, Option.or] at hg; cases hg; exact .inl (a c H d e x y _ Q hd he q k)
  | none => simp only [q, Option.or] at hg; exact .inr (b c H d e x y h Q hd he hg k)
theorem CallS.or {r r' : List V → Hp → VK → Prop} {g g' : List D → Option Hd} (a : CallS cm K n r g) (b : CallS cm K n r' g') : CallS cm K n (fun x H Q => r x H Q ∨ r' x H Q) (fun d => (g d).or (g' d)) := by
  intro c H d x h Q hd hg k
  cases q : g d with
  | some z => simp only [q, Option.or] at hg; cases hg; exact .inl (a c H d x _ Q hd q k)
  | none => simp only [q, Option.or] at hg; exact .inr (b c H d x h Q hd hg k)
theorem HdV.hd {H H₀ : Hp} {c c' c₀ : Col} {H' : Hp} {σ : St} {h : Hd} {v : V} (s : Stp n c₀ c H₀ H) (x : HdV cm K n H c' H' h v) : HdOk cm K n H₀ c' H' σ h v := by
  cases h with
  | val d => exact x
  | slot i => exact x.elim
  | new d => obtain ⟨a, e, h0, h1, h2⟩ := x; exact ⟨a, e, s.free h0, h1, h2⟩
theorem lift_run {α : Type} (o : Option α) (ρ : List S) : M.lift o ρ = match o with | some a => .ok a ρ | none => .bad := by cases o <;> rfl
theorem rd_bind {α : Type} {h : Hd} {g : D → M α} {ρ : List S} (P : R α → Prop) (hb : ¬ P .bad) (q : P ((rd h >>= g) ρ)) : ∃ d, rd h ρ = .ok d ρ ∧ P (g d ρ) := by
  rw [M.bind_run] at q
  rcases rd_cases h ρ with ⟨d, e⟩ | e
  · rw [e] at q; exact ⟨d, e, q⟩
  · rw [e] at q; exact absurd q hb
theorem QR.nobad {α β : Type} {rel : Hp → Col → Hp → St → α → β → Prop} {Q : β → Hp → Prop} {ρ₀ : List S} {c₀ : Col} {H₀ : Hp} {σ : St} : ¬ QR cm K n W rel Q ρ₀ c₀ H₀ σ (.bad : R α) := fun h => h
theorem sem_op {r : R2} {g : D → D → Option Hd} {ta tb : TE} {fa fb : M Hd} (ho : OpS cm K n r g) (ha : Sem cm K n W (HdOk cm K n) ta fa) (hb : Sem cm K n W (HdOk cm K n) tb fb) : Sem cm K n W (HdOk cm K n) (tOp r ta tb) (eOp g fa fb) := by
  refine Sem.bind (u := fun x σ H1 Q => tb σ H1 fun y H2 => r x y H2 Q) ha ?_
  intro ρ₀ c₀ H₀ a x ρ c σ H Q s0 r0 hx q
  dsimp only at q
  refine hb ρ c σ H _ r0 ?_
  rw [M.bind_run] at q
  cases e : fb ρ with
  | exc k ρ' => rw [e] at q; exact fun c' H' s' r' => q c' H' (s0.trans s') r'
  | bad => rw [e] at q; exact q
  | ok b ρ' =>
    rw [e] at q
    intro c1 H1 y s1 r1 hy
    obtain ⟨d1, e1, q⟩ := rd_bind (P := QR cm K n W (HdOk cm K n) Q ρ₀ c₀ H₀ σ) QR.nobad q
    obtain ⟨d2, e2, q⟩ := rd_bind (P := QR cm K n W (HdOk cm K n) Q ρ₀ c₀ H₀ σ) QR.nobad q
    rw [lift_run] at q
    cases eg : g d1 d2 with
    | none => rw [eg] at q; exact q.elim
    | some h =>
      rw [eg] at q
      have p1 := (rd_ok r1 (hx.stp s1.st) e1).2
      have p2 := (rd_ok r1 hy e2).2
      refine ho c1 H1 d1 d2 x y h Q p1 p2 eg fun c' H' v ex hv => ?_
      exact q c' H' v ((s0.trans s1).app ex.stp) (r1.ext ex) (hv.hd (s0.trans s1).st)
theorem ve_op {op : Operator} {r : R2} {g : D → D → Option Hd} {a b : Expr} {ta tb : TE} {fa fb : M Hd} {pos : Pos} (ho : OpR X (binaryOp op) r) (hs : OpS cm X.K X.N.length r g) (ha : VE cm X W a ta fa) (hb : VE cm X W b tb fb) :
    VE cm X W (.BinOp a op b pos) (tOp r ta tb) (eOp g fa fb) := ⟨pe_op ho ha.pe hb.pe, sem_op hs ha.sem hb.sem⟩
theorem ve_cmp {op : CmpOp} {r : R2} {g : D → D → Option Hd} {a b : Expr} {ta tb : TE} {fa fb : M Hd} {pos : Pos} (ho : OpR X (compareOp op) r) (hs : OpS cm X.K X.N.length r g) (hm : behindInMarks op b = false) (ha : VE cm X W a ta fa) (hb : VE cm X W b tb fb) :
    VE cm X W (.Compare a [op] [b] pos) (tOp r ta tb) (eOp g fa fb) := ⟨pe_cmpR ho ha.pe hb.pe hm, sem_op hs ha.sem hb.sem⟩
theorem sem_test {ta : TE} {fa : M Hd} (ha : Sem cm K n W (HdOk cm K n) ta fa) : Sem cm K n W BlOk (tTest ta) (eTest fa) := by
  refine Sem.bind (u := fun x σ H1 Q => ∃ k, x = .bl k ∧ Q k H1) ha ?_
  intro ρ₀ c₀ H₀ a x ρ c σ H Q s0 r0 hx q
  dsimp only at q
  obtain ⟨d1, e1, q⟩ := rd_bind (P := QR cm K n W BlOk Q ρ₀ c₀ H₀ σ) QR.nobad q
  have p1 := (rd_ok r0 hx e1).2
  rw [lift_run] at q
  cases d1 with
  | bl b => exact ⟨b, p1, q c H b s0 r0 rfl⟩
  | _ => exact q.elim
theorem vt_cmp {op : CmpOp} {r : R2} {g : D → D → Option Hd} {a b : Expr} {ta tb : TE} {fa fb : M Hd} {pos : Pos} (ho : OpR X (compareOp op) r) (hs : OpS cm X.K X.N.length r g) (hm : behindInMarks op b = false) (ha : VE cm X W a ta fa) (hb : VE cm X W b tb fb) :
    VT cm X W (.Compare a [op] [b] pos) (tTest (tOp r ta tb)) (eTest (eOp g fa fb)) := ⟨pt_cmpR ho ha.pe hb.pe hm, sem_test (sem_op hs ha.sem hb.sem)⟩
/-- an expression that gives True or False, as a test -/
theorem vt_val {e : Expr} {te : TE} {f : M Hd} (h : VE cm X W e te f) (he : ∀ whole, isTrue e X.env whole = (do let v ← whole; standAt e.pos; holding [v] (truthy v)) := by intro _; rfl) : VT cm X W e (tTest te) (eTest f) := ⟨pt_val h.pe he, sem_test h.sem⟩
theorem sem_if {α β : Type} {rel : Hp → Col → Hp → St → α → β → Prop} (st : Stab n rel) {tc : TT} {ta tb : St → Hp → (β → Hp → Prop) → Prop} {fc : M Bool} {fa fb : M α} (hc : Sem cm K n W BlOk tc fc) (ha : Sem cm K n W rel ta fa) (hb : Sem cm K n W rel tb fb) :
    Sem cm K n W rel (fun σ H Q => tc σ H fun c H1 => if c = true then ta σ H1 Q else tb σ H1 Q) (fc >>= fun x => if x = true then fa else fb) := by
  refine Sem.bind (u := fun c σ H1 Q => if c = true then ta σ H1 Q else tb σ H1 Q) hc ?_
  intro ρ₀ c₀ H₀ a x ρ c σ H Q s0 r0 hx q
  dsimp only at q
  have hx : a = x := hx
  subst hx
  cases a with
  | true => exact SemK.of (rel := BlOk) st ha ρ₀ c₀ H₀ true true ρ c σ H Q s0 r0 rfl q
  | false => exact SemK.of (rel := BlOk) st hb ρ₀ c₀ H₀ false false ρ c σ H Q s0 r0 rfl q
theorem sem_bl {b : Bool} : Sem cm K n W BlOk (fun _ H Q => Q b H) (M.pure b) := sem_pure (fun _ _ _ q => q) fun _ _ _ => rfl
theorem ve_ifExp {c a b : Expr} {tc : TT} {ta tb : TE} {fc : M Bool} {fa fb : M Hd} {pos : Pos} (hc : VT cm X W c tc fc) (ha : VE cm X W a ta fa) (hb : VE cm X W b tb fb) : VE cm X W (.IfExp c a b pos) (tIf tc ta tb) (eIf fc fa fb) :=
  ⟨pe_ifExp hc.pe ha.pe hb.pe, sem_if hd_stab hc.sem ha.sem hb.sem⟩
theorem vw_and1 {a : Expr} {t : TT} {f : M Bool} {pos : Pos} (h : VT cm X W a t f) : VW cm X W (.BoolOp .And [a] pos) t f := ⟨pw_and1 h.pe, h.sem⟩
theorem vw_or1 {a : Expr} {t : TT} {f : M Bool} {pos : Pos} (h : VT cm X W a t f) : VW cm X W (.BoolOp .Or [a] pos) t f := ⟨pw_or1 h.pe, h.sem⟩
theorem vw_and {a b : Expr} {rest : List Expr} {t u : TT} {f g : M Bool} {pos : Pos} (ha : VT cm X W a t f) (hb : VW cm X W (.BoolOp .And (b :: rest) pos) u g) : VW cm X W (.BoolOp .And (a :: b :: rest) pos) (tAnd t u) (eAnd f g) :=
  ⟨pw_and ha.pe hb.pe, sem_if bl_stab ha.sem hb.sem sem_bl⟩
theorem vw_or {a b : Expr} {rest : List Expr} {t u : TT} {f g : M Bool} {pos : Pos} (ha : VT cm X W a t f) (hb : VW cm X W (.BoolOp .Or (b :: rest) pos) u g) : VW cm X W (.BoolOp .Or (a :: b :: rest) pos) (tOr t u) (eOr f g) :=
  ⟨pw_or ha.pe hb.pe, sem_if bl_stab ha.sem sem_bl hb.sem⟩
theorem VW.vt {e : Expr} {t : TT} {f : M Bool} (h : VW cm X W e t f) : VT cm X W e t f := ⟨h.pe.pt, h.sem⟩
theorem vt_not {a : Expr} {t : TT} {f : M Bool} {pos : Pos} (h : VT cm X W a t f) : VT cm X W (.UnaryOp .Not a pos) (tNot t) (eNot f) := ⟨pt_not h.pe, by
  refine Sem.bind (u := fun c σ H1 Q => Q (!c) H1) h.sem ?_
  intro ρ₀ c₀ H₀ a x ρ c σ H Q s0 r0 hx q
  dsimp only at q
  have hx : a = x := hx
  subst hx
  exact q c H _ s0 r0 rfl⟩

/-! ### argument lists, displays -/
theorem va_nil : VA cm X W [] tNil eNil := ⟨pa_nil, sem_pure (fun _ _ _ q => q) fun _ _ _ => rfl⟩
theorem va_cons {e : Expr} {es : List Expr} {te : TE} {t : TA} {f : M Hd} {g : M (List Hd)} (h : VE cm X W e te f) (hr : VA cm X W es t g) (hs : starEach (e :: es) X.env = (false, eval e X.env) :: starEach es X.env := by rfl) :
    VA cm X W (e :: es) (tCons te t) (eCons f g) := ⟨pa_cons h.pe hr.pe hs, by
  refine Sem.bind (u := fun x σ H1 Q => t σ H1 fun xs H2 => Q (x :: xs) H2) h.sem ?_
  intro ρ₀ c₀ H₀ a x ρ c σ H Q s0 r0 hx q
  dsimp only at q
  refine hr.sem ρ c σ H _ r0 ?_
  rw [M.bind_run] at q
  cases e : g ρ with
  | exc k ρ' => rw [e] at q; exact fun c' H' s' r' => q c' H' (s0.trans s') r'
  | bad => rw [e] at q; exact q
  | ok b ρ' =>
    rw [e] at q
    intro c1 H1 y s1 r1 hy
    exact q c1 H1 _ (s0.trans s1) r1 ⟨x, y, rfl, hx.stp s1.st, hs_stab.2 _ _ _ _ _ _ _ _ _ s0.st hy⟩⟩
theorem vd_nil : VD cm X W [] tNil dNil := ⟨pa_nil, sem_pure (fun _ _ _ q => q) fun _ _ _ => rfl⟩
theorem vd_cons {e : Expr} {es : List Expr} {te : TE} {t : TA} {f : M Hd} {g : M (List D)} (h : VE cm X W e te f) (hr : VD cm X W es t g) (hs : starEach (e :: es) X.env = (false, eval e X.env) :: starEach es X.env := by rfl) :
    VD cm X W (e :: es) (tCons te t) (dCons f g) := ⟨pa_cons h.pe hr.pe hs, by
  refine Sem.bind (u := fun x σ H1 Q => t σ H1 fun xs H2 => Q (x :: xs) H2) h.sem ?_
  intro ρ₀ c₀ H₀ a x ρ c σ H Q s0 r0 hx q
  dsimp only at q
  rw [M.bind_run] at q
  rcases fz_cases a ρ with ⟨d, ρ1, ef⟩ | ef
  · rw [ef] at q
    obtain ⟨c1, s1, r1, dd, gz1⟩ := fz_ok s0 r0 hx ef
    refine hr.sem ρ1 c1 σ H _ r1 ?_
    dsimp only at q
    rw [M.bind_run] at q
    cases e : g ρ1 with
    | exc k ρ' => rw [e] at q; exact fun c' H' s' r' => q c' H' (s1.trans s') r'
    | bad => rw [e] at q; exact q
    | ok b ρ' =>
      rw [e] at q
      intro c2 H2 y s2 r2 hy
      exact q c2 H2 _ (s1.trans s2) r2 ⟨x, y, rfl, Den.mono s2.st.gz _ _ dd, hy⟩
  · rw [ef] at q; exact q.elim⟩

/-- a new object that stands still, a new list -/
theorem den_new_tup {c : Col} {H : Hp} {p : Addr} {xs : List D} {vs : List V} (hp : H p = none) (h : DenL cm K (Gz c H) xs vs) : Den cm K (Gz (cset c p 0) (upd H p (.tup vs))) (.tup xs) (.ref p) := by
  have e : Ext c (cset c p 0) H (upd H p (.tup vs)) := Ext.alloc hp
  exact ⟨p, vs, rfl, Gz.of cset_same upd_same, DenL.mono e.gz _ _ h⟩
theorem cont_new_lst {c : Col} {H : Hp} {p : Addr} {k : Nat} {xs : List D} {vs : List V} (hp : H p = none) (h : DenL cm K (Gz c H) xs vs) : Cont cm K (cset c p k) (upd H p (.lst vs)) p (.lst xs) := by
  have e : Ext c (cset c p k) H (upd H p (.lst vs)) := Ext.alloc hp
  exact ⟨vs, upd_same, DenL.mono e.gz _ _ h⟩
theorem hdv_new_lst {c : Col} {H : Hp} {p : Addr} {xs : List D} {vs : List V} (hp : H p = none) (h : DenL cm K (Gz c H) xs vs) : HdV cm K n H (cset c p (n + 1)) (upd H p (.lst vs)) (.new (.lst xs)) (.ref p) :=
  ⟨p, rfl, hp, cset_same, cont_new_lst hp h⟩
@[irreducible] def SLine : Nat := 1000000
theorem sline : SLine ≤ sizeLine := by unfold SLine; decide
def eTup (f : M (List D)) : M Hd := f >>= fun xs => if xs.length ≤ SLine then pure (.val (.tup xs)) else M.bad
def eLst (f : M (List D)) : M Hd := f >>= fun xs => if xs.length ≤ SLine then pure (.new (.lst xs)) else M.bad
theorem ve_tup {es : List Expr} {t : TA} {f : M (List D)} {x1} {pos : Pos} (h : VD cm X W es t f) : VE cm X W (.Tuple es x1 pos) (tTup t) (eTup f) := ⟨pe_tup h.pe, by
  refine Sem.bind (u := fun xs σ H1 Q => xs.length ≤ sizeLine ∧ ∀ p, H1 p = none → Q (V.ref p) (upd H1 p (.tup xs))) h.sem ?_
  intro ρ₀ c₀ H₀ a x ρ c σ H Q s0 r0 hx q
  dsimp only at q
  have hx : DenL cm X.K (Gz c H) a x := hx
  have hl := hx.length
  by_cases hz : a.length ≤ SLine
  · rw [if_pos hz] at q
    refine ⟨Nat.le_trans (by omega) sline, fun p hp => ?_⟩
    have e : Ext c (cset c p 0) H (upd H p (.tup x)) := Ext.alloc hp
    exact q _ _ _ (s0.app e.stp) (r0.ext e) (den_new_tup hp hx)
  · rw [if_neg hz] at q; exact q.elim⟩
theorem ve_lst {es : List Expr} {t : TA} {f : M (List D)} {pos : Pos} (h : VD cm X W es t f) : VE cm X W (.List es pos) (tLst t) (eLst f) := ⟨pe_lst h.pe, by
  refine Sem.bind (u := fun xs σ H1 Q => xs.length ≤ sizeLine ∧ ∀ p, H1 p = none → Q (V.ref p) (upd H1 p (.lst xs))) h.sem ?_
  intro ρ₀ c₀ H₀ a x ρ c σ H Q s0 r0 hx q
  dsimp only at q
  have hx : DenL cm X.K (Gz c H) a x := hx
  have hl := hx.length
  by_cases hz : a.length ≤ SLine
  · rw [if_pos hz] at q
    refine ⟨Nat.le_trans (by omega) sline, fun p hp => ?_⟩
    have e : Ext c (cset c p (X.N.length + 1)) H (upd H p (.lst x)) := Ext.alloc hp
    exact q _ _ _ (s0.app e.stp) (r0.ext e) ((hdv_new_lst hp hx).hd s0.st)
  · rw [if_neg hz] at q; exact q.elim⟩

/-! ### calls of built-ins -/
def eCB (g : List D → Option Hd) (f : M (List Hd)) : M Hd := f >>= fun hs => rds hs >>= fun ds => M.lift (g ds)
theorem rds_ok {H₀ H : Hp} {c : Col} {σ : St} {ρ : List S} (r : Rep cm K n c H ρ σ) : ∀ {hs : List Hd} {vs : List V}, HsOk cm K n H₀ c H σ hs vs → ((∃ ds, rds hs ρ = .ok ds ρ ∧ DsR cm K c H ds vs) ∨ rds hs ρ = .bad)
  | [], vs, h => .inl ⟨[], rfl, h⟩
  | h :: hs, vs, ⟨v, t, e, h1, h2⟩ => by
    rcases rd_cases h ρ with ⟨d, e1⟩ | e1
    · rcases rds_ok r h2 with ⟨ds, e2, q⟩ | e2
      · refine .inl ⟨d :: ds, ?_, v, t, e, (rd_ok r h1 e1).2, q⟩
        show (rd h >>= fun d => rds hs >>= fun ds => pure (d :: ds)) ρ = _
        rw [M.bind_run, e1]
        show (rds hs >>= fun ds => pure (d :: ds)) ρ = _
        rw [M.bind_run, e2]
        rfl
      · refine .inr ?_
        show (rd h >>= fun d => rds hs >>= fun ds => pure (d :: ds)) ρ = _
        rw [M.bind_run, e1]
        show (rds hs >>= fun ds => pure (d :: ds)) ρ = _
        rw [M.bind_run, e2]
    · refine .inr ?_
      show (rd h >>= fun d => rds hs >>= fun ds => pure (d :: ds)) ρ = _
      rw [M.bind_run, e1]
theorem sem_cb {r : List V → Hp → VK → Prop} {g : List D → Option Hd} {t : TA} {f : M (List Hd)} (hs : CallS cm K n r g) (h : Sem cm K n W (HsOk cm K n) t f) : Sem cm K n W (HdOk cm K n) (tCB r t) (eCB g f) := by
  refine Sem.bind (u := fun vs σ H1 Q => r vs H1 Q) h ?_
  intro ρ₀ c₀ H₀ a x ρ c σ H Q s0 r0 hx q
  dsimp only at q
  rw [M.bind_run] at q
  rcases rds_ok r0 hx with ⟨ds, e, hd⟩ | e
  · rw [e] at q
    dsimp only at q
    rw [lift_run] at q
    cases eg : g ds with
    | none => rw [eg] at q; exact q.elim
    | some h =>
      rw [eg] at q
      exact hs c H ds x h Q hd eg fun c' H' v ex hv => q c' H' v (s0.app ex.stp) (r0.ext ex) (hv.hd s0.st)
  · rw [e] at q; exact q.elim
theorem ve_callB {id : String} {x : Str} {r : List V → Hp → VK → Prop} {g : List D → Option Hd} {e : Expr} {es : List Expr} {t : TA} {f : M (List Hd)} {p pos : Pos} (hc : CallR X (.builtin id) r) (hs : CallS cm X.K X.N.length r g) (hm : X.mg x = none) (ha : VA cm X W (e :: es) t f)
    (hg : Gl X x := by rfl) (hv : bootBuiltins x = some (.builtin id) := by decide +kernel) (hn : x ≠ "__name__" := by decide) (hdb : (x == ("__debug__" : Str)) = false := by decide)
    (he : starEach (e :: es) X.env = (false, eval e X.env) :: starEach es X.env := by rfl) (hpl : (backTo pos (starEach es X.env)).any (·.1) = false := by rfl) : VE cm X W (.Call (.Name x p) (e :: es) [] pos) (tCB r t) (eCB g f) :=
  ⟨pe_callB hc hg hm hv ha.pe hn hdb he hpl, sem_cb hs ha.sem⟩
theorem ve_callTy {T : String} {x : Str} {r : List V → Hp → VK → Prop} {g : List D → Option Hd} {e : Expr} {es : List Expr} {t : TA} {f : M (List Hd)} {p pos : Pos} (hc : CallR X (.type T) r) (hs : CallS cm X.K X.N.length r g) (hm : X.mg x = none) (ha : VA cm X W (e :: es) t f)
    (hg : Gl X x := by rfl) (hv : bootBuiltins x = some (.type T) := by decide +kernel) (hn : x ≠ "__name__" := by decide) (hdb : (x == ("__debug__" : Str)) = false := by decide)
    (he : starEach (e :: es) X.env = (false, eval e X.env) :: starEach es X.env := by rfl) (hpl : (backTo pos (starEach es X.env)).any (·.1) = false := by rfl) : VE cm X W (.Call (.Name x p) (e :: es) [] pos) (tCB r t) (eCB g f) :=
  ⟨pe_callTy hc hg hm hv ha.pe hn hdb he hpl, sem_cb hs ha.sem⟩
end
end Vi

/-! ## ViStm -/
set_option Elab.async false
set_option linter.all false
set_option maxRecDepth 100000
set_option maxHeartbeats 2000000
namespace Vi
open PySem L2

inductive Fl where
  | nx | rt (s : S) | bk | ct

section
variable (cm : Nat → Addr) (K : PySem.W.Frag) (n : Nat) (W : WX)
/-- as QR, for statements: the names may have changed -/
def QN (Q : St → Hp → Prop) (ρ₀ : List S) (σ₀ : St) (c₀ : Col) (H₀ : Hp) (ρ' : List S) : Prop := ∀ c' σ' H', Stp n c₀ c' H₀ H' → Kp ρ₀ ρ' σ₀ σ' → Rep cm K n c' H' ρ' σ' → Q σ' H'
def QS (Dn : Ends) (ρ₀ : List S) (σ₀ : St) (c₀ : Col) (H₀ : Hp) : R Fl → Prop
  | .ok .nx ρ' => QN cm K n Dn.nx ρ₀ σ₀ c₀ H₀ ρ'
  | .ok .bk ρ' => QN cm K n Dn.bk ρ₀ σ₀ c₀ H₀ ρ'
  | .ok .ct ρ' => QN cm K n Dn.ct ρ₀ σ₀ c₀ H₀ ρ'
  | .ok (.rt s) ρ' => ∀ c' H' v, Stp n c₀ c' H₀ H' → RtOk cm K n H₀ c' H' s v → Dn.rt v H'
  | .exc k ρ' => QN cm K n (W (.ref (cm k)) none) ρ₀ σ₀ c₀ H₀ ρ'
  | .bad => False
def SemS (t : TS) (f : M Fl) : Prop := ∀ ρ c σ H Dn, Rep cm K n c H ρ σ → QS cm K n W Dn ρ σ c H (f ρ) → t Dn σ H
end
structure VS (cm : Nat → Addr) (X : Cx) (W : WX) (st : Stmt) (t : TS) (f : M Fl) : Prop where
  pe : PS X st t
  sem : SemS cm X.K X.N.length W t f
structure VSs (cm : Nat → Addr) (X : Cx) (W : WX) (st : List Stmt) (t : TS) (f : M Fl) : Prop where
  pe : PSs X st t
  sem : SemS cm X.K X.N.length W t f

def sNx : M Fl := pure .nx
def sSeq (f g : M Fl) : M Fl := f >>= fun x => match x with | .nx => g | x => pure x
def sExpr (f : M Hd) : M Fl := f >>= fun _ => pure .nx
def sSet (i : Nat) (f : M Hd) : M Fl := f >>= fun h => put i h >>= fun _ => pure .nx
def sRet (f : M Hd) : M Fl := f >>= fun h => giv h >>= fun s => pure (.rt s)
def sIf (c : M Bool) (f g : M Fl) : M Fl := c >>= fun b => if b = true then f else g

section
variable {cm : Nat → Addr} {K : PySem.W.Frag} {n : Nat} {W : WX}
theorem Stq.kp {ρ ρ' : List S} {c c' : Col} {H H' : Hp} {σ : St} (s : Stq n ρ ρ' c c' H H') : Kp ρ ρ' σ σ := fun i d h => ⟨s.kq i d h, rfl⟩
theorem QN.later {Q : St → Hp → Prop} {ρ₀ ρ₁ ρ' : List S} {σ₀ σ₁ : St} {c₀ c₁ : Col} {H₀ H₁ : Hp} (s : Stp n c₀ c₁ H₀ H₁) (k : Kp ρ₀ ρ₁ σ₀ σ₁) (h : QN cm K n Q ρ₀ σ₀ c₀ H₀ ρ') : QN cm K n Q ρ₁ σ₁ c₁ H₁ ρ' :=
  fun c' σ' H' s' k' r => h c' σ' H' (s.trans s') (k.trans k') r
theorem RtOk.base {c₀ c₁ c : Col} {H₀ H₁ H : Hp} {s : S} {v : V} (st : Stp n c₀ c₁ H₀ H₁) (h : RtOk cm K n H₁ c H s v) : RtOk cm K n H₀ c H s v := by
  cases s with
  | un => exact h
  | bor d => exact h
  | fr d => exact h
  | own d =>
    obtain ⟨a, e, h1, h2, h3⟩ := h
    exact ⟨a, e, h1, h2, h3.imp st.free id⟩
theorem QS.later {Dn : Ends} {ρ₀ ρ₁ : List S} {σ₀ σ₁ : St} {c₀ c₁ : Col} {H₀ H₁ : Hp} {r : R Fl} (s : Stp n c₀ c₁ H₀ H₁) (k : Kp ρ₀ ρ₁ σ₀ σ₁) (h : QS cm K n W Dn ρ₀ σ₀ c₀ H₀ r) : QS cm K n W Dn ρ₁ σ₁ c₁ H₁ r := by
  cases r with
  | bad => exact h
  | exc j ρ' => exact QN.later s k h
  | ok f ρ' =>
    cases f with
    | nx => exact QN.later s k h
    | bk => exact QN.later s k h
    | ct => exact QN.later s k h
    | rt x => exact fun c' H' v s' q => h c' H' v (s.trans s') (q.base s)
/-- an expression within a statement -/
theorem sem_in {α β : Type} {rel : Hp → Col → Hp → St → α → β → Prop} {t : St → Hp → (β → Hp → Prop) → Prop} {f : M α} {g : α → M Fl} (ht : Sem cm K n W rel t f) {ρ : List S} {c : Col} {σ : St} {H : Hp} {Dn : Ends} {Q : β → Hp → Prop} (r : Rep cm K n c H ρ σ)
    (q : QS cm K n W Dn ρ σ c H ((f >>= g) ρ)) (h : ∀ a ρ' c' H' x, Stq n ρ ρ' c c' H H' → Rep cm K n c' H' ρ' σ → rel H c' H' σ a x → QS cm K n W Dn ρ σ c H (g a ρ') → Q x H') : t σ H Q := by
  refine ht ρ c σ H Q r ?_
  rw [M.bind_run] at q
  cases e : f ρ with
  | ok a ρ' =>
    rw [e] at q
    exact fun c' H' x s r' ex => h a ρ' c' H' x s r' ex q
  | exc k ρ' =>
    rw [e] at q
    exact fun c' H' s r' => q c' σ H' s.st s.kp r'
  | bad => rw [e] at q; exact q.elim
theorem sem_nx : SemS cm K n W tNext sNx := fun ρ c σ H Dn r q => q c σ H Stp.refl Kp.refl r
theorem sem_seq {t u : TS} {f g : M Fl} (h1 : SemS cm K n W t f) (h2 : SemS cm K n W u g) : SemS cm K n W (tSeq t u) (sSeq f g) := by
  intro ρ c σ H Dn r q
  refine h1 ρ c σ H { Dn with nx := u Dn } r ?_
  unfold sSeq at q
  rw [M.bind_run] at q
  cases e : f ρ with
  | bad => rw [e] at q; exact q.elim
  | exc k ρ' => rw [e] at q; exact q
  | ok x ρ' =>
    rw [e] at q
    cases x with
    | nx => exact fun c' σ' H' s k r' => h2 ρ' c' σ' H' Dn r' (QS.later s k q)
    | bk => exact q
    | ct => exact q
    | rt s => exact q
theorem sem_expr {te : TE} {f : M Hd} (h : Sem cm K n W (HdOk cm K n) te f) : SemS cm K n W (tDrop te) (sExpr f) := fun ρ c σ H Dn r q =>
  sem_in h r q fun a ρ' c' H' x s r' _ q' => q' c' σ H' s.st s.kp r'
theorem put_in {i : Nat} {h : Hd} {v : V} {g : Unit → M Fl} {Dn : Ends} {ρ₀ ρ : List S} {σ : St} {c₀ c : Col} {H₀ H : Hp} (s : Stq n ρ₀ ρ c₀ c H₀ H) (r : Rep cm K n c H ρ σ) (x : HdOk cm K n H₀ c H σ h v) (hi : i < n)
    (q : QS cm K n W Dn ρ₀ σ c₀ H₀ ((put i h >>= g) ρ)) {P : Prop} (k : ∀ ρ' c', Stp n c₀ c' H₀ H → Kp ρ₀ ρ' σ (σ.set i (some v)) → Rep cm K n c' H ρ' (σ.set i (some v)) → QS cm K n W Dn ρ₀ σ c₀ H₀ (g () ρ') → P) : P := by
  rw [M.bind_run] at q
  rcases put_cases i h ρ with ⟨ρ', e⟩ | e
  · rw [e] at q
    obtain ⟨c', s', r', k'⟩ := put_ok s.st r x hi e
    exact k ρ' c' s' (s.kp.trans k') r' q
  · rw [e] at q; exact q.elim
theorem sem_set {i : Nat} {te : TE} {f : M Hd} (hi : i < n) (h : Sem cm K n W (HdOk cm K n) te f) : SemS cm K n W (tAsg te (gName i)) (sSet i f) := fun ρ c σ H Dn r q =>
  sem_in h r q fun a ρ' c' H' x s r' hx q' => put_in s r' hx hi q' fun ρ2 c2 s2 k2 r2 q2 => q2 c2 _ H' s2 k2 r2
theorem sem_ret {te : TE} {f : M Hd} (h : Sem cm K n W (HdOk cm K n) te f) : SemS cm K n W (tRet te) (sRet f) := fun ρ c σ H Dn r q =>
  sem_in h r q fun a ρ' c' H' x s r' hx q' => by
    rw [M.bind_run] at q'
    rcases giv_cases a ρ' with ⟨z, e⟩ | e
    · rw [e] at q'
      exact q' c' H' x s.st (giv_ok s.st r' hx e).2
    · rw [e] at q'; exact q'.elim
theorem sem_ifS {tc : TT} {t u : TS} {fc : M Bool} {f g : M Fl} (hc : Sem cm K n W BlOk tc fc) (h1 : SemS cm K n W t f) (h2 : SemS cm K n W u g) : SemS cm K n W (tIfS tc t u) (sIf fc f g) := fun ρ c σ H Dn r q =>
  sem_in (Q := fun b H1 => if b = true then t Dn σ H1 else u Dn σ H1) hc r q fun a ρ' c' H' x s r' hx q' => by
    have hx : a = x := hx
    subst hx
    cases a with
    | true => exact h1 ρ' c' σ H' Dn r' (QS.later s.st s.kp q')
    | false => exact h2 ρ' c' σ H' Dn r' (QS.later s.st s.kp q')
end

section
variable {cm : Nat → Addr} {X : Cx} {W : WX}
theorem vss_nil : VSs cm X W [] tNext sNx := ⟨pss_nil, sem_nx⟩
theorem vss_cons {st : Stmt} {rest : List Stmt} {t u : TS} {f g : M Fl} (h1 : VS cm X W st t f) (h2 : VSs cm X W rest u g) : VSs cm X W (st :: rest) (tSeq t u) (sSeq f g) := ⟨pss_cons h1.pe h2.pe, sem_seq h1.sem h2.sem⟩
theorem vss_one {st : Stmt} {t : TS} {f : M Fl} (h1 : VS cm X W st t f) : VSs cm X W [st] t f := ⟨pss_one h1.pe, h1.sem⟩
theorem vs_pass {pos : Pos} : VS cm X W (.Pass pos) tNext sNx := ⟨ps_pass, sem_nx⟩
theorem vs_break {pos : Pos} : VS cm X W (.Break pos) tBreak (pure .bk) := ⟨ps_break, fun ρ c σ H Dn r q => q c σ H Stp.refl Kp.refl r⟩
theorem vs_continue {pos : Pos} : VS cm X W (.Continue pos) tCont (pure .ct) := ⟨ps_continue, fun ρ c σ H Dn r q => q c σ H Stp.refl Kp.refl r⟩
theorem vs_expr {e : Expr} {te : TE} {f : M Hd} {pos : Pos} (h : VE cm X W e te f) (hs : swapsWith e none pos.line X.env = pure false := by rfl) : VS cm X W (.Expr e pos) (tDrop te) (sExpr f) := ⟨ps_expr h.pe hs, sem_expr h.sem⟩
theorem vs_ret {e : Expr} {te : TE} {f : M Hd} {pos : Pos} (h : VE cm X W e te f) : VS cm X W (.Return (some e) pos) (tRet te) (sRet f) := ⟨ps_ret h.pe, sem_ret h.sem⟩
theorem vs_if {c : Expr} {a b : List Stmt} {tc : TT} {t u : TS} {fc : M Bool} {f g : M Fl} {pos : Pos} (hc : VT cm X W c tc fc) (ha : VSs cm X W a t f) (hb : VSs cm X W b u g) : VS cm X W (.If c a b pos) (tIfS tc t u) (sIf fc f g) :=
  ⟨ps_if hc.pe ha.pe hb.pe, sem_ifS hc.sem ha.sem hb.sem⟩
theorem vs_set (i : Nat) {x : Str} {e : Expr} {te : TE} {f : M Hd} {pos pos' : Pos} (hN : X.N.Nodup) (he : VE cm X W e te f) (hi : X.N[i]? = some x := by rfl) (hx : Loc X.env.scope x := by first | exact Or.inl rfl | exact Or.inr rfl) (hs : swapsWith e (some (.Name x pos')) pos.line X.env = pure false := by rfl)
    (hf : X.fn x = true ∨ X.env.scope.names.lookup x = some .local := by first | exact .inl rfl | exact .inr rfl | assumption) : VS cm X W (.Assign [.Name x pos'] e pos) (tAsg te (gName i)) (sSet i f) :=
  ⟨ps_set hN hi hx he.pe hs hf, sem_set (List.getElem?_eq_some_iff.mp hi).1 he.sem⟩
end

/-! ### targets of loops: the value stands still -/
section
variable (cm : Nat → Addr) (K : PySem.W.Frag) (n : Nat)
/-- as QN; only the names at is have changed -/
def QG (is : List Nat) (Q : St → Hp → Prop) (ρ₀ : List S) (σ₀ : St) (c₀ : Col) (H₀ : Hp) (ρ' : List S) : Prop := ∀ c' σ' H', Stp n c₀ c' H₀ H' → Kp ρ₀ ρ' σ₀ σ' → (∀ j, j ∉ is → σ'[j]? = σ₀[j]?) → Rep cm K n c' H' ρ' σ' → Q σ' H'
def SemG (is : List Nat) (g : TG) (f : D → M Unit) : Prop := ∀ d v ρ c σ H (Q : St → Hp → Prop), Rep cm K n c H ρ σ → Den cm K (Gz c H) d v →
  (match f d ρ with | .ok _ ρ' => QG cm K n is Q ρ σ c H ρ' | _ => False) → g v σ H Q
def SemGs (is : List Nat) (g : TGs) (f : List D → M Unit) : Prop := ∀ ds vs ρ c σ H (Q : St → Hp → Prop), Rep cm K n c H ρ σ → DenL cm K (Gz c H) ds vs →
  (match f ds ρ with | .ok _ ρ' => QG cm K n is Q ρ σ c H ρ' | _ => False) → g vs σ H Q
end
theorem QG.later {cm : Nat → Addr} {K : PySem.W.Frag} {n : Nat} {is : List Nat} {Q : St → Hp → Prop} {ρ₀ ρ₁ ρ' : List S} {σ₀ σ₁ : St} {c₀ c₁ : Col} {H₀ H₁ : Hp} (s : Stp n c₀ c₁ H₀ H₁) (k : Kp ρ₀ ρ₁ σ₀ σ₁) (e : ∀ j, j ∉ is → σ₁[j]? = σ₀[j]?) (h : QG cm K n is Q ρ₀ σ₀ c₀ H₀ ρ') : QG cm K n is Q ρ₁ σ₁ c₁ H₁ ρ' :=
  fun c' σ' H' s' k' e' r => h c' σ' H' (s.trans s') (k.trans k') (fun j hj => (e' j hj).trans (e j hj)) r
theorem QG.mono {cm : Nat → Addr} {K : PySem.W.Frag} {n : Nat} {is is' : List Nat} {Q : St → Hp → Prop} {ρ₀ ρ' : List S} {σ₀ : St} {c₀ : Col} {H₀ : Hp} (m : ∀ j, j ∈ is → j ∈ is') (h : QG cm K n is' Q ρ₀ σ₀ c₀ H₀ ρ') : QG cm K n is Q ρ₀ σ₀ c₀ H₀ ρ' :=
  fun c' σ' H' s' k' e' r => h c' σ' H' s' k' (fun j hj => e' j fun z => hj (m j z)) r
structure VG (cm : Nat → Addr) (X : Cx) (is : List Nat) (tg : Expr) (g : TG) (f : D → M Unit) : Prop where
  pe : PG X tg g
  sem : SemG cm X.K X.N.length is g f
structure VGs (cm : Nat → Addr) (X : Cx) (is : List Nat) (tg : List Expr) (g : TGs) (f : List D → M Unit) : Prop where
  pe : PGs X tg g
  sem : SemGs cm X.K X.N.length is g f
def gN (i : Nat) : D → M Unit := fun d => put i (.val d)
def gsNil : List D → M Unit := fun ds => match ds with | [] => pure () | _ => M.bad
def gsCons (f : D → M Unit) (g : List D → M Unit) : List D → M Unit := fun ds => match ds with | d :: r => f d >>= fun _ => g r | [] => M.bad
def gT (k : Nat) (g : List D → M Unit) : D → M Unit := fun d => match d with | .tup ds => if ds.length = k then g ds else M.bad | _ => M.bad
section
variable {cm : Nat → Addr} {X : Cx} {W : WX}
theorem vg_name (i : Nat) {x : Str} {pos : Pos} (hN : X.N.Nodup) (hi : X.N[i]? = some x := by rfl) (hx : Loc X.env.scope x := by first | exact Or.inl rfl | exact Or.inr rfl) (hf : X.fn x = true ∨ X.env.scope.names.lookup x = some .local := by first | exact .inl rfl | exact .inr rfl | assumption) :
    VG cm X [i] (.Name x pos) (gName i) (gN i) := ⟨pg_name hN hi hx hf, by
  intro d v ρ c σ H Q r hd q
  have hlt : i < X.N.length := (List.getElem?_eq_some_iff.mp hi).1
  exact q c _ H Stp.refl (Kp.set (fun _ z => S.noConfusion z)) (fun j hj => List.getElem?_set_ne (fun e => hj (by rw [e]; exact List.mem_singleton_self _))) (r.store ⟨v, rfl, hd⟩)⟩
theorem vgs_nil : VGs cm X [] [] gNil gsNil := ⟨pgs_nil, by
  intro ds vs ρ c σ H Q r hd q
  cases ds with
  | nil => cases hd; exact ⟨rfl, q c σ H Stp.refl Kp.refl (fun _ _ => rfl) r⟩
  | cons d r => exact q.elim⟩
theorem vgs_cons {e : Expr} {es : List Expr} {t : TG} {u : TGs} {f : D → M Unit} {g : List D → M Unit} {is js : List Nat} (h1 : VG cm X is e t f) (h2 : VGs cm X js es u g)
    (hs : (assignEach (e :: es) X.env).map (·.2) = assign e X.env :: (assignEach es X.env).map (·.2) := by rfl) : VGs cm X (is ++ js) (e :: es) (gCons t u) (gsCons f g) := ⟨pgs_cons h1.pe h2.pe hs, by
  intro ds vs ρ c σ H Q r hd q
  cases ds with
  | nil => exact q.elim
  | cons d ds =>
    obtain ⟨v, vr, e1, h3, h4⟩ := hd
    subst e1
    refine ⟨v, vr, rfl, h1.sem d v ρ c σ H _ r h3 ?_⟩
    have q : (match (f d >>= fun _ => g ds) ρ with | .ok _ ρ' => QG cm X.K X.N.length (is ++ js) Q ρ σ c H ρ' | _ => False) := q
    rw [M.bind_run] at q
    cases e : f d ρ with
    | bad => rw [e] at q; exact q.elim
    | exc k ρ' => rw [e] at q; exact q.elim
    | ok _ ρ' =>
      rw [e] at q
      intro c' σ' H' s k en r'
      refine h2.sem ds vr ρ' c' σ' H' Q r' (DenL.mono s.gz _ _ h4) ?_
      dsimp only at q
      cases e2 : g ds ρ' with
      | bad => rw [e2] at q; exact q.elim
      | exc k ρ' => rw [e2] at q; exact q.elim
      | ok _ ρ2 => rw [e2] at q; exact QG.mono (fun j hj => List.mem_append_right _ hj) (QG.later s k (fun j hj => en j fun z => hj (List.mem_append_left _ z)) q)⟩
theorem vg_tup {es : List Expr} {k : Nat} {t : TGs} {m : Nat} {g : List D → M Unit} {is : List Nat} {pos : Pos} (hc : X.calm = true) (h : VGs cm X is es t g)
    (hn : (assignEach es X.env).length = m := by rfl) (hst : (assignEach es X.env).findIdx? (·.1) = none := by rfl) : VG cm X is (.Tuple es k pos) (gTup X.K m t) (gT m g) := ⟨pg_tup hc h.pe hn hst, by
  intro d v ρ c σ H Q r hd q
  cases d with
  | tup ds =>
    obtain ⟨a, vs, e, h1, h2⟩ := hd
    subst e
    have q : (match (if ds.length = m then g ds else M.bad) ρ with | .ok _ ρ' => QG cm X.K X.N.length is Q ρ σ c H ρ' | _ => False) := q
    by_cases hl : ds.length = m
    · rw [if_pos hl] at q
      exact ⟨a, vs, rfl, SqT.of (Gz.to h1).2, by rw [← h2.length]; exact hl, h.sem ds vs ρ c σ H Q r h2 q⟩
    · rw [if_neg hl] at q; exact q.elim
  | _ => exact q.elim⟩
end
end Vi

/-! ## ViLoop -/
set_option Elab.async false
set_option linter.all false
set_option maxRecDepth 100000
set_option maxHeartbeats 2000000
namespace Vi
open PySem L2

/-! ### what is walked -/
section
variable (cm : Nat → Addr) (K : PySem.W.Frag) (n : Nat) (W : WX)
/-- from (c₁, H₁) on, whatever is done by steps, the walk J yields ds -/
def Wlk (J : It) (ds : List D) (c₁ : Col) (H₁ : Hp) : Prop := ∀ c H, Stp n c₁ c H₁ H → ∀ i, (i = ds.length → J.stop i H) ∧ (∀ d, ds[i]? = some d → J.go i H ∧ ∀ x H', J.yld i H x H' → ∃ c', Ext c c' H H' ∧ Den cm K (Gz c' H') d x)
/-- the thing walked may be a name's own: it is lent for the while -/
def WlkL (J : It) (σ : St) (l : Option Nat) (ds : List D) (c₁ : Col) (H₁ : Hp) : Prop := match l with
  | none => Wlk cm K n J ds c₁ H₁
  | some i => ∀ a, σ[i]? = some (some (.ref a)) → Wlk cm K n J ds (cset c₁ a (n + 9)) H₁
def QI (Rw : It → Hp → Prop) (ρ₀ : List S) (c₀ : Col) (H₀ : Hp) (σ : St) : R (List D × Option Nat) → Prop
  | .ok p ρ' => ∀ c' H' J, Stq n ρ₀ ρ' c₀ c' H₀ H' → Rep cm K n c' H' ρ' σ → WlkL cm K n J σ p.2 p.1 c' H' → Rw J H'
  | .exc k ρ' => ∀ c' H', Stq n ρ₀ ρ' c₀ c' H₀ H' → Rep cm K n c' H' ρ' σ → W (.ref (cm k)) none σ H'
  | .bad => False
def SemI (wi : TI) (f : M (List D × Option Nat)) : Prop := ∀ ρ c σ H Rw, Rep cm K n c H ρ σ → QI cm K n W Rw ρ c H σ (f ρ) → wi σ H Rw
end
structure VI (cm : Nat → Addr) (X : Cx) (W : WX) (tg iter : Expr) (wi : TI) (f : M (List D × Option Nat)) : Prop where
  pe : PI X tg iter wi
  sem : SemI cm X.K X.N.length W wi f

/-! ### lending -/
def S.lend (i : Nat) : S → List S → R Unit
  | .own d, ρ => .ok () (ρ.set i (.bor d))
  | _, _ => .bad
def S.unlend (i : Nat) : S → List S → R Unit
  | .bor d, ρ => .ok () (ρ.set i (.own d))
  | _, _ => .bad
def lend : Option Nat → M Unit
  | none, ρ => .ok () ρ
  | some i, ρ => (at_ ρ i).lend i ρ
def unlend : Option Nat → M Unit
  | none, ρ => .ok () ρ
  | some i, ρ => (at_ ρ i).unlend i ρ
/-- whatever the end, what was lent is taken back -/
def R.back {α : Type} (l : Option Nat) : R α → R α
  | .ok a ρ => match unlend l ρ with | .ok _ ρ' => .ok a ρ' | _ => .bad
  | .exc k ρ => match unlend l ρ with | .ok _ ρ' => .exc k ρ' | _ => .bad
  | .bad => .bad
/-- .. a return goes as it is -/
def R.backF (l : Option Nat) : R Fl → R Fl
  | .ok .nx ρ => match unlend l ρ with | .ok _ ρ' => .ok .nx ρ' | _ => .bad
  | .ok (.rt s) ρ => .ok (.rt s) ρ
  | .exc k ρ => match unlend l ρ with | .ok _ ρ' => .exc k ρ' | _ => .bad
  | _ => .bad
def lentF (l : Option Nat) (m : M Fl) : M Fl := fun ρ => match lend l ρ with
  | .ok _ ρ' => (m ρ').backF l
  | _ => .bad
def M.nox {α : Type} (m : M α) : M α := fun ρ => match m ρ with | .ok a ρ' => .ok a ρ' | _ => .bad
def lent {α : Type} (l : Option Nat) (m : M α) : M α := fun ρ => match lend l ρ with
  | .ok _ ρ' => (m ρ').back l
  | _ => .bad

section
variable {cm : Nat → Addr} {K : PySem.W.Frag} {n : Nat} {W : WX}
theorem lend_cases (l : Option Nat) (ρ : List S) : (∃ ρ', lend l ρ = .ok () ρ') ∨ lend l ρ = .bad := by
  cases l with
  | none => exact .inl ⟨_, rfl⟩
  | some i =>
    show (∃ ρ', (at_ ρ i).lend i ρ = .ok () ρ') ∨ (at_ ρ i).lend i ρ = .bad
    cases at_ ρ i with
    | own d => exact .inl ⟨_, rfl⟩
    | _ => exact .inr rfl
theorem unlend_cases (l : Option Nat) (ρ : List S) : (∃ ρ', unlend l ρ = .ok () ρ') ∨ unlend l ρ = .bad := by
  cases l with
  | none => exact .inl ⟨_, rfl⟩
  | some i =>
    show (∃ ρ', (at_ ρ i).unlend i ρ = .ok () ρ') ∨ (at_ ρ i).unlend i ρ = .bad
    cases at_ ρ i with
    | bor d => exact .inl ⟨_, rfl⟩
    | _ => exact .inr rfl
/-- the state while a thing is lent, and what stays true till it is taken back -/
theorem lend_ok {l : Option Nat} {ρ ρ1 ρL : List S} {σ : St} {c c1 : Col} {H H1 : Hp} {J : It} {ds : List D} (s1 : Stq n ρ ρ1 c c1 H H1) (r1 : Rep cm K n c1 H1 ρ1 σ) (e : lend l ρ1 = .ok () ρL) (w : WlkL cm K n J σ l ds c1 H1) :
    ∃ cL, Rep cm K n cL H1 ρL σ ∧ Wlk cm K n J ds cL H1 ∧ (∀ c' H', Stp n cL c' H1 H' → Stp n c c' H H') ∧
      ∀ ρ' c' σ' H', Stp n cL c' H1 H' → Kp ρL ρ' σ σ' → Rep cm K n c' H' ρ' σ' → ∀ ρ5, unlend l ρ' = .ok () ρ5 → ∃ c5, Stp n c c5 H H' ∧ Kp ρ ρ5 σ σ' ∧ Rep cm K n c5 H' ρ5 σ' ∧ ∀ b, c' b ≤ n + 8 → c5 b = c' b := by
  cases l with
  | none =>
    cases e
    exact ⟨c1, r1, w, fun c' H' s => s1.st.trans s, fun ρ' c' σ' H' s k r ρ5 e5 => by cases e5; exact ⟨c', s1.st.trans s, s1.kp.trans k, r, fun _ _ => rfl⟩⟩
  | some i =>
    have e : (at_ ρ1 i).lend i ρ1 = .ok () ρL := e
    cases q : at_ ρ1 i with
    | un => rw [q] at e; cases e
    | fr d => rw [q] at e; cases e
    | bor d => rw [q] at e; cases e
    | own d =>
      rw [q] at e; cases e
      have hs := at_some q (fun z => S.noConfusion z)
      obtain ⟨v, hv, a, ev, ha, ct⟩ := r1.at_ i _ hs
      rw [ev] at hv
      have hi : i < n := by rw [← r1.len]; exact (List.getElem?_eq_some_iff.mp hs).1
      obtain ⟨oa, hoa⟩ := ct.some_
      have gz : ∀ b o, Gz c1 H1 b = some o → Gz (cset c1 a (n + 9)) H1 b = some o := gz_recol (by omega)
      have rL : Rep cm K n (cset c1 a (n + 9)) H1 (ρ1.set i (.bor d)) σ := ⟨by rw [List.length_set]; exact r1.len, r1.lenσ, fun j s h => by
        by_cases hj : i = j
        · subst hj
          rw [List.getElem?_set_self (by rw [r1.len]; exact hi)] at h
          cases h
          exact ⟨_, hv, _, rfl, (ct.keep (c' := cset c1 a (n + 9)) (H' := H1) gz fun o q => q).b (.inr (by rw [cset_same]; omega))⟩
        · rw [List.getElem?_set_ne hj] at h
          obtain ⟨v', h1, h2⟩ := r1.at_ j s h
          refine ⟨v', h1, h2.keep gz (fun b o h => ?_) fun b o e h => ⟨cset_ne (fun q => by rw [q] at e; omega), h⟩⟩
          obtain ⟨z1, z2⟩ := Gb.to h
          exact Gb.of (by rw [cset_ne (fun e => by rw [e] at z1; omega)]; exact z1) z2⟩
      have st5 : ∀ c' H', Stp n (cset c1 a (n + 9)) c' H1 H' → Stp n c c' H H' := fun c' H' s b o hb => by
        obtain ⟨⟨o1, ho1⟩, z2, z3⟩ := s1.st b o hb
        refine ⟨(s b o1 ho1).1, fun q0 => ?_, fun qn => ?_⟩
        · obtain ⟨y1, y2⟩ := z2 q0
          have hne : b ≠ a := fun q => by rw [q] at y1; omega
          exact (s b o y2).2.1 (by rw [cset_ne hne]; exact y1)
        · obtain ⟨y1, y2⟩ := z3 qn
          have hne : b ≠ a := fun q => by subst q; omega
          obtain ⟨x1, x2⟩ := (s b o y2).2.2 (by rw [cset_ne hne, y1]; exact qn)
          exact ⟨by rw [x1, cset_ne hne]; exact y1, x2⟩
      refine ⟨cset c1 a (n + 9), rL, w a hv, st5, fun ρ' c' σ' H' s k r ρ5 e5 => ?_⟩
      have e5 : (at_ ρ' i).unlend i ρ' = .ok () ρ5 := e5
      cases q5 : at_ ρ' i with
      | un => rw [q5] at e5; cases e5
      | fr d => rw [q5] at e5; cases e5
      | own d => rw [q5] at e5; cases e5
      | bor d5 =>
        rw [q5] at e5; cases e5
        have hs5 := at_some q5 (fun z => S.noConfusion z)
        obtain ⟨k1, k2⟩ := k i d5 hs5
        rw [List.getElem?_set_self (by rw [r1.len]; exact hi)] at k1
        cases k1
        have hv' : σ'[i]? = some (some (.ref a)) := k2.trans hv
        obtain ⟨ca, Ha⟩ := (s a oa hoa).2.2 (by rw [cset_same]; omega)
        rw [cset_same] at ca
        have gz5 : ∀ b o, Gz c' H' b = some o → Gz (cset c' a (i + 1)) H' b = some o := gz_recol (by omega)
        obtain ⟨v5, hv5, u5, eu5, db⟩ := r.at_ i _ hs5
        rw [hv'] at hv5
        cases hv5
        cases eu5
        have ct5 : Cont cm K (cset c' a (i + 1)) H' a d := by
          cases d with
          | lst xs => obtain ⟨a', vs, e1, e2, e3⟩ := db; cases e1; exact ⟨vs, (Gb.to e2).2, DenL.mono gz5 _ _ e3⟩
          | dic ks xs => obtain ⟨a', vs, e1, e2, e3, e4⟩ := db; cases e1; exact ⟨vs, (Gb.to e2).2, e3, DenL.mono gz5 _ _ e4⟩
          | _ => exact ct.elim
        refine ⟨cset c' a (i + 1), fun b o hb => ?_, fun j e he => ?_, ⟨by rw [List.length_set]; exact r.len, r.lenσ, fun j s5 h5 => ?_⟩, fun b hb => cset_ne (fun q => by rw [q] at hb; omega)⟩
        · obtain ⟨⟨o1, ho1⟩, z2, z3⟩ := s1.st b o hb
          have nb : ∀ (hne : b ≠ a), c1 b = (cset c1 a (n + 9)) b := fun hne => (cset_ne hne).symm
          refine ⟨(s b o1 ho1).1, fun q0 => ?_, fun qn => ?_⟩
          · obtain ⟨y1, y2⟩ := z2 q0
            have hne : b ≠ a := fun q => by rw [q] at y1; omega
            obtain ⟨x1, x2⟩ := (s b o y2).2.1 (by rw [cset_ne hne]; exact y1)
            exact ⟨by rw [cset_ne hne]; exact x1, x2⟩
          · obtain ⟨y1, y2⟩ := z3 qn
            have hne : b ≠ a := fun q => by subst q; omega
            obtain ⟨x1, x2⟩ := (s b o y2).2.2 (by rw [cset_ne hne, y1]; exact qn)
            exact ⟨by rw [cset_ne hne, x1, cset_ne hne]; exact y1, x2⟩
        · by_cases hj : i = j
          · subst hj
            rw [List.getElem?_set_self (by rw [r.len]; exact hi)] at he
            cases he
          · rw [List.getElem?_set_ne hj] at he
            obtain ⟨m1, m2⟩ := k j e he
            rw [List.getElem?_set_ne hj] at m1
            exact ⟨s1.kq j e m1, m2⟩
        · by_cases hj : i = j
          · subst hj
            rw [List.getElem?_set_self (by rw [r.len]; exact hi)] at h5
            cases h5
            exact ⟨_, hv', _, rfl, cset_same, ct5⟩
          · rw [List.getElem?_set_ne hj] at h5
            obtain ⟨v', h1, h2⟩ := r.at_ j s5 h5
            cases s5 with
            | un => exact ⟨v', h1, trivial⟩
            | fr e => obtain ⟨u, eu, de⟩ := h2; exact ⟨v', h1, u, eu, Den.mono gz5 _ _ de⟩
            | own e =>
              obtain ⟨b, eb, cb, ctb⟩ := h2
              have hne : b ≠ a := fun q => by rw [q, ca] at cb; have hjn : j < n := by rw [← r.len]; exact (List.getElem?_eq_some_iff.mp h5).1
                                              omega
              exact ⟨v', h1, b, eb, by rw [cset_ne hne]; exact cb, ctb.keep gz5 fun o q => q⟩
            | bor e =>
              obtain ⟨m1, m2⟩ := k j e h5
              rw [List.getElem?_set_ne hj] at m1
              obtain ⟨v0, g1, u0, eu0, g2⟩ := r1.at_ j _ m1
              refine ⟨v0, m2.trans g1, u0, eu0, DenX.mono (fun b o hb => ?_) (fun b o hb => gz5 _ _ (s.gz _ _ (gz _ _ hb))) g2⟩
              obtain ⟨z1, z2⟩ := Gb.to hb
              have hne : b ≠ a := fun q => by rw [q] at z1; omega
              have y := Gb.of (n := n) (c := cset c1 a (n + 9)) (by rw [cset_ne hne]; exact z1) z2
              obtain ⟨x1, x2⟩ := Gb.to (s.gb _ _ y)
              exact Gb.of (by rw [cset_ne hne]; exact x1) x2
end

/-! ### for -/
def loopS (tg : D → M Unit) (body : M Fl) : List D → M Fl
  | [] => pure .nx
  | d :: ds => (tg d).nox >>= fun _ => body >>= fun x => match x with
    | .nx => loopS tg body ds
    | .ct => loopS tg body ds
    | .bk => pure .nx
    | .rt s => pure (.rt s)
def sFor (it : M (List D × Option Nat)) (tg : D → M Unit) (body : M Fl) : M Fl := it >>= fun p => lentF p.2 (loopS tg body p.1)

section
variable {cm : Nat → Addr} {K : PySem.W.Frag} {n : Nat} {W : WX}
theorem drop_get {α : Type} {l : List α} {i : Nat} (h : i < l.length) : ∃ d, l[i]? = some d ∧ l.drop i = d :: l.drop (i + 1) := ⟨l[i], List.getElem?_eq_getElem h, List.drop_eq_getElem_cons h⟩
theorem sem_for {wi : TI} {g : TG} {tb : TS} {fi : M (List D × Option Nat)} {tg : D → M Unit} {body : M Fl} (hi : SemI cm K n W wi fi) {is : List Nat} (hg : SemG cm K n is g tg) (hb : SemS cm K n W tb body) : SemS cm K n W (tFor wi g tb) (sFor fi tg body) := by
  intro ρ c σ H Dn r q
  refine hi ρ c σ H _ r ?_
  unfold sFor at q
  rw [M.bind_run] at q
  cases e : fi ρ with
  | bad => rw [e] at q; exact q.elim
  | exc k ρ1 => rw [e] at q; exact fun c' H' s r' => q c' σ H' s.st s.kp r'
  | ok p ρ1 =>
    obtain ⟨ds, l⟩ := p
    rw [e] at q
    intro c1 H1 J s1 r1 w
    have q : QS cm K n W Dn ρ σ c H (match lend l ρ1 with | .ok _ ρ' => (loopS tg body ds ρ').backF l | _ => .bad) := q
    rcases lend_cases l ρ1 with ⟨ρL, el⟩ | el
    case inr => rw [el] at q; exact q.elim
    rw [el] at q
    obtain ⟨cL, rL, wL, stL, back⟩ := lend_ok s1 r1 el w
    refine ⟨fun i m σ' H' => m = ds.length - i ∧ i ≤ ds.length ∧ ∃ ρ' c', Stp n cL c' H1 H' ∧ Kp ρL ρ' σ σ' ∧ Rep cm K n c' H' ρ' σ' ∧ QS cm K n W Dn ρ σ c H ((loopS tg body (ds.drop i) ρ').backF l),
      ⟨_, rfl, Nat.zero_le _, ρL, cL, Stp.refl, Kp.refl, rL, by rw [List.drop_zero]; exact q⟩, ?_⟩
    rintro i m σ' H' ⟨rfl, hil, ρ', c', s, k, r', q'⟩
    have wi := wL c' H' s i
    -- a plain end of the loop
    have fin : ∀ {Q : St → Hp → Prop} {ρ4 c4 σ4 H4}, Stp n cL c4 H1 H4 → Kp ρL ρ4 σ σ4 → Rep cm K n c4 H4 ρ4 σ4 → (∀ ρ5, unlend l ρ4 = .ok () ρ5 → QN cm K n Q ρ σ c H ρ5) → (unlend l ρ4 = .bad → False) → Q σ4 H4 := fun {Q ρ4 c4 σ4 H4} s4 k4 r4 h5 hn => by
      rcases unlend_cases l ρ4 with ⟨ρ5, e5⟩ | e5
      · obtain ⟨c5, a1, a2, a3, a4⟩ := back ρ4 c4 σ4 H4 s4 k4 r4 ρ5 e5
        exact h5 ρ5 e5 c5 σ4 H4 a1 a2 a3
      · exact (hn e5).elim
    by_cases hlt : i < ds.length
    · obtain ⟨d, hd, hdrop⟩ := drop_get hlt
      obtain ⟨go, yl⟩ := wi.2 d hd
      refine .inr ⟨go, fun σ4 H4 => ∃ ρ4 c4, Stp n cL c4 H1 H4 ∧ Kp ρL ρ4 σ σ4 ∧ Rep cm K n c4 H4 ρ4 σ4 ∧ QS cm K n W Dn ρ σ c H ((loopS tg body (ds.drop (i + 1)) ρ4).backF l),
        fun σ4 H4 ⟨ρ4, c4, a1, a2, a3, a4⟩ => ⟨ds.length - (i + 1), by omega, rfl, hlt, ρ4, c4, a1, a2, a3, a4⟩, fun x H2 hy => ?_⟩
      obtain ⟨c2, ex, dx⟩ := yl x H2 hy
      rw [hdrop] at q'
      have q' : QS cm K n W Dn ρ σ c H (R.backF l (((tg d).nox >>= fun _ => body >>= fun x => match x with
        | .nx => loopS tg body (ds.drop (i + 1))
        | .ct => loopS tg body (ds.drop (i + 1))
        | .bk => pure .nx
        | .rt s => pure (.rt s)) ρ')) := q'
      rw [M.bind_run] at q'
      refine hg d x ρ' c2 σ' H2 _ (r'.ext ex) dx ?_
      cases eg : tg d ρ' with
      | bad => simp only [M.nox, eg] at q'; exact q'.elim
      | exc kk ρ3 => simp only [M.nox, eg] at q'; exact q'.elim
      | ok _ ρ3 =>
        simp only [M.nox, eg] at q'
        rw [M.bind_run] at q'
        intro c3 σ3 H3 s3 k3 _ r3
        have s03 : Stp n cL c3 H1 H3 := (s.trans ex.stp).trans s3
        have k03 : Kp ρL ρ3 σ σ3 := k.trans k3
        refine hb ρ3 c3 σ3 H3 _ r3 ?_
        cases eb : body ρ3 with
        | bad => rw [eb] at q'; exact q'.elim
        | exc kk ρ4 =>
          rw [eb] at q'
          intro c4 σ4 H4 s4 k4 r4
          refine fin (s03.trans s4) (k03.trans k4) r4 (fun ρ5 e5 => ?_) (fun e5 => ?_)
          · simp only [R.backF, e5] at q'; exact q'
          · simp only [R.backF, e5] at q'; exact q'.elim
        | ok y ρ4 =>
          rw [eb] at q'
          cases y with
          | nx => exact fun c4 σ4 H4 s4 k4 r4 => ⟨ρ4, c4, s03.trans s4, k03.trans k4, r4, q'⟩
          | ct => exact fun c4 σ4 H4 s4 k4 r4 => ⟨ρ4, c4, s03.trans s4, k03.trans k4, r4, q'⟩
          | bk =>
            intro c4 σ4 H4 s4 k4 r4
            have q' : QS cm K n W Dn ρ σ c H (R.backF l (.ok Fl.nx ρ4)) := q'
            refine fin (s03.trans s4) (k03.trans k4) r4 (fun ρ5 e5 => ?_) (fun e5 => ?_)
            · simp only [R.backF, e5] at q'; exact q'
            · simp only [R.backF, e5] at q'; exact q'.elim
          | rt z =>
            intro c4 H4 v s4 rt4
            have q' : QS cm K n W Dn ρ σ c H (R.backF l (.ok (Fl.rt z) ρ4)) := q'
            exact q' c4 H4 v (stL _ _ (s03.trans s4)) (rt4.base (stL _ _ s03))
    · have hil' : i = ds.length := by omega
      refine .inl ⟨wi.1 hil', ?_⟩
      rw [hil', List.drop_length] at q'
      have q' : QS cm K n W Dn ρ σ c H (R.backF l (.ok Fl.nx ρ')) := q'
      refine fin s k r' (fun ρ5 e5 => ?_) (fun e5 => ?_)
      · simp only [R.backF, e5] at q'; exact q'
      · simp only [R.backF, e5] at q'; exact q'.elim

end

/-! ### list comprehensions -/
def wipeS (ρ : List S) : List Nat → List S
  | [] => ρ
  | v :: vs => (wipeS ρ vs).set v .un
/-- the names of the block get back what they held -/
def S.notOwn : S → Bool | .own _ => false | _ => true
def back (ρ' ρ : List S) : List Nat → List S
  | [] => ρ'
  | v :: vs => (back ρ' ρ vs).set v (at_ ρ v)
def guardM {α : Type} (b : Bool) (m : M α) : M α := fun ρ => if b = true then m ρ else .bad
def wipeM {α : Type} (vs : List Nat) (m : M α) : M α := fun ρ => m (wipeS ρ vs)
def lcS (tg : D → M Unit) (cond : M Bool) (elt : M Hd) (vs : List Nat) : List D → List D → M (List D)
  | [], acc => pure acc
  | d :: ds, acc => (tg d).nox >>= fun _ => cond.nox >>= fun b =>
    if b = true then elt.nox >>= fun h => fz h >>= fun x => guardM (decide (acc.length < SLine)) (wipeM vs (lcS tg cond elt vs ds (acc ++ [x])))
    else wipeM vs (lcS tg cond elt vs ds acc)
def lcF (vs : List Nat) (f : M (List D)) : M Hd := fun ρ => if vs.all (fun v => (at_ ρ v).notOwn) = true then
    match f (wipeS ρ vs) with
    | .ok ds ρ' => .ok (.new (.lst ds)) (back ρ' ρ vs)
    | _ => .bad
  else .bad
def eLc (it : M (List D × Option Nat)) (tg : D → M Unit) (cond : M Bool) (elt : M Hd) (vs : List Nat) : M Hd := it >>= fun p => lent p.2 (lcF vs (lcS tg cond elt vs p.1 []))
def tYesM : M Bool := pure true
section
variable {cm : Nat → Addr} {K : PySem.W.Frag} {n : Nat} {W : WX}
theorem wipeS_len (ρ : List S) : ∀ vs : List Nat, (wipeS ρ vs).length = ρ.length
  | [] => rfl
  | v :: vs => by unfold wipeS; rw [List.length_set, wipeS_len ρ vs]
theorem back_len (ρ' ρ : List S) : ∀ vs : List Nat, (back ρ' ρ vs).length = ρ'.length
  | [] => rfl
  | v :: vs => by unfold back; rw [List.length_set, back_len ρ' ρ vs]
theorem wipeS_get {ρ : List S} {i : Nat} : ∀ {vs : List Nat} {s : S}, (wipeS ρ vs)[i]? = some s → s ≠ .un → ρ[i]? = some s ∧ i ∉ vs
  | [], s, h, _ => ⟨h, by simp⟩
  | v :: vs, s, h, hs => by
    unfold wipeS at h
    by_cases hi : v = i
    · subst hi
      by_cases hv : v < (wipeS ρ vs).length
      · rw [List.getElem?_set_self hv] at h; exact absurd (Option.some.inj h).symm hs
      · rw [List.getElem?_eq_none (by simpa using hv)] at h; cases h
    · rw [List.getElem?_set_ne hi] at h
      obtain ⟨h1, h2⟩ := wipeS_get h hs
      exact ⟨h1, by simp only [List.mem_cons, not_or]; exact ⟨fun e => hi e.symm, h2⟩⟩
theorem back_get {ρ' ρ : List S} {i : Nat} : ∀ {vs : List Nat} {s : S}, (back ρ' ρ vs)[i]? = some s → (i ∈ vs ∧ s = at_ ρ i) ∨ (i ∉ vs ∧ ρ'[i]? = some s)
  | [], s, h => .inr ⟨by simp, h⟩
  | v :: vs, s, h => by
    unfold back at h
    by_cases hi : v = i
    · subst hi
      by_cases hv : v < (back ρ' ρ vs).length
      · rw [List.getElem?_set_self hv] at h; exact .inl ⟨List.mem_cons_self, (Option.some.inj h).symm⟩
      · rw [List.getElem?_eq_none (by simpa using hv)] at h; cases h
    · rw [List.getElem?_set_ne hi] at h
      rcases back_get h with ⟨h1, h2⟩ | ⟨h1, h2⟩
      · exact .inl ⟨List.mem_cons_of_mem _ h1, h2⟩
      · exact .inr ⟨by simp only [List.mem_cons, not_or]; exact ⟨fun e => hi e.symm, h1⟩, h2⟩
theorem wipe_in {σ : St} {i : Nat} : ∀ {vs : List Nat}, i ∈ vs → i < σ.length → (wipe σ vs)[i]? = some none
  | v :: vs, h, hl => by
    unfold wipe
    by_cases hi : v = i
    · subst hi; exact List.getElem?_set_self (by rw [wipe_length]; exact hl)
    · rw [List.getElem?_set_ne hi]
      exact wipe_in ((List.mem_cons.mp h).resolve_left fun e => hi e.symm) hl
theorem wipe_ext {σ σ' : St} {vs : List Nat} (hl : σ.length = σ'.length) (h : ∀ j, j ∉ vs → σ[j]? = σ'[j]?) : wipe σ vs = wipe σ' vs := by
  apply List.ext_getElem?
  intro i
  by_cases hi : i ∈ vs
  · by_cases hlt : i < σ.length
    · rw [wipe_in hi hlt, wipe_in hi (by omega)]
    · rw [List.getElem?_eq_none (by rw [wipe_length]; omega), List.getElem?_eq_none (by rw [wipe_length]; omega)]
  · rw [wipe_out hi, wipe_out hi]; exact h i hi
theorem Rep.wipe {c : Col} {H : Hp} {ρ : List S} {σ : St} (r : Rep cm K n c H ρ σ) (vs : List Nat) : Rep cm K n c H (wipeS ρ vs) (wipe σ vs) :=
  ⟨by rw [wipeS_len]; exact r.len, by rw [wipe_length]; exact r.lenσ, fun i s h => by
    by_cases hs : s = .un
    · subst hs
      have hi : i < n := by rw [← r.len, ← wipeS_len ρ vs]; exact (List.getElem?_eq_some_iff.mp h).1
      exact ⟨_, List.getElem?_eq_getElem (by rw [wipe_length, r.lenσ]; exact hi), trivial⟩
    · obtain ⟨h1, h2⟩ := wipeS_get h hs
      obtain ⟨v, g1, g2⟩ := r.at_ i s h1
      exact ⟨v, by rw [wipe_out h2]; exact g1, g2⟩⟩
/-- a temporary thing is written -/
theorem Rep.write {c : Col} {H : Hp} {ρ : List S} {σ : St} {p : Addr} {o : HO} (r : Rep cm K n c H ρ σ) (hp : n < c p) (hp2 : c p ≤ n + 8) : Rep cm K n c (upd H p o) ρ σ :=
  ⟨r.len, r.lenσ, fun i s q => by
    obtain ⟨v, h1, h2⟩ := r.at_ i s q
    have hi : i < n := by rw [← r.len]; exact (List.getElem?_eq_some_iff.mp q).1
    refine ⟨v, h1, h2.keep (fun a o h => ?_) (fun a o h => ?_) fun a o e h => ?_⟩
    · obtain ⟨z1, z2⟩ := Gz.to h
      exact Gz.of z1 (by rw [upd_ne (fun e => by rw [e] at z1; omega)]; exact z2)
    · obtain ⟨z1, z2⟩ := Gb.to h
      exact Gb.of z1 (by rw [upd_ne (fun e => by rw [e] at z1; omega)]; exact z2)
    · exact ⟨rfl, by rw [upd_ne (fun q => by rw [q] at e; omega)]; exact h⟩⟩
theorem gz_write {c : Col} {H : Hp} {p : Addr} {o : HO} (hp : c p ≠ 0) : ∀ a u, Gz c H a = some u → Gz c (upd H p o) a = some u := fun a u h => by
  obtain ⟨z1, z2⟩ := Gz.to h
  exact Gz.of z1 (by rw [upd_ne (fun e => by rw [e] at z1; exact hp z1)]; exact z2)
theorem Stp.write {c c' : Col} {H H' : Hp} {p : Addr} {o : HO} (s : Stp n c c' H H') (h0 : H p = none) : Stp n c c' H (upd H' p o) := fun a u h => by
  have ne : a ≠ p := ne_of_none h h0
  rw [upd_ne ne]
  exact s a u h
abbrev W0 : WX := fun _ _ _ _ => False
theorem sem_lc {wi : TI} {g : TG} {tt : TT} {te : TE} {vs is : List Nat} {fi : M (List D × Option Nat)} {tg : D → M Unit} {cond : M Bool} {elt : M Hd} (hi : SemI cm K n W wi fi) (hg : SemG cm K n is g tg) (hsub : ∀ j, j ∈ is → j ∈ vs)
    (ht : Sem cm K n W0 BlOk tt cond) (he : Sem cm K n W0 (HdOk cm K n) te elt) : Sem cm K n W (HdOk cm K n) (tLc wi g tt te vs) (eLc fi tg cond elt vs) := by
  intro ρ c σ H Q r q
  refine hi ρ c σ H _ r ?_
  unfold eLc at q
  rw [M.bind_run] at q
  cases e : fi ρ with
  | bad => rw [e] at q; exact q.elim
  | exc k ρ1 => rw [e] at q; exact q
  | ok p ρ1 =>
    obtain ⟨ds, l⟩ := p
    rw [e] at q
    intro c1 H1 J s1 r1 w D hD
    have q : QR cm K n W (HdOk cm K n) Q ρ c H σ (match lend l ρ1 with | .ok _ ρ' => (lcF vs (lcS tg cond elt vs ds []) ρ').back l | _ => .bad) := q
    rcases lend_cases l ρ1 with ⟨ρL, el⟩ | el
    case inr => rw [el] at q; exact q.elim
    rw [el] at q
    obtain ⟨cL, rL, wL, stL, bk⟩ := lend_ok s1 r1 el w
    have q : QR cm K n W (HdOk cm K n) Q ρ c H σ ((lcF vs (lcS tg cond elt vs ds []) ρL).back l) := q
    unfold lcF at q
    by_cases hall : vs.all (fun v => (at_ ρL v).notOwn) = true
    case neg => rw [if_neg hall] at q; exact q.elim
    rw [if_pos hall] at q
    -- what the end wants
    generalize hfin : (fun r : R (List Vi.D) => (match r with | .ok ds ρ' => (R.ok (Hd.new (.lst ds)) (back ρ' ρL vs) : R Hd) | _ => .bad)) = fin
    have q : QR cm K n W (HdOk cm K n) Q ρ c H σ ((fin (lcS tg cond elt vs ds [] (wipeS ρL vs))).back l) := by rw [← hfin]; exact q
    have hbad : fin .bad = .bad := by rw [← hfin]
    have ex0 : Ext cL (cset cL D (n + 1)) H1 (upd H1 D (.lst [])) := Ext.alloc hD
    refine ⟨fun i m H' => m = ds.length - i ∧ i ≤ ds.length ∧ ∃ ρ' c' acc us, Stp n cL c' H1 H' ∧ Kq (wipeS ρL vs) ρ' ∧ Rep cm K n c' H' ρ' (wipe σ vs) ∧ H' D = some (.lst us) ∧ c' D = n + 1 ∧ DenL cm K (Gz c' H') acc us ∧
        QR cm K n W (HdOk cm K n) Q ρ c H σ ((fin (lcS tg cond elt vs (ds.drop i) acc ρ')).back l),
      ⟨_, rfl, Nat.zero_le _, wipeS ρL vs, cset cL D (n + 1), [], [], ex0.stp, fun _ _ h => h, (rL.wipe vs).ext ex0, upd_same, cset_same, rfl, by rw [List.drop_zero]; exact q⟩, ?_⟩
    rintro i m H' ⟨rfl, hil, ρ', c', acc, us, s, k, r', hDl, hDc, dl, q'⟩
    have wi := wL c' H' s i
    by_cases hlt : i < ds.length
    · obtain ⟨d, hd, hdrop⟩ := drop_get hlt
      obtain ⟨go, yl⟩ := wi.2 d hd
      refine .inr ⟨go, fun H4 => ∃ ρ4 c4 acc4 us4, Stp n cL c4 H1 H4 ∧ Kq (wipeS ρL vs) ρ4 ∧ Rep cm K n c4 H4 ρ4 (wipe σ vs) ∧ H4 D = some (.lst us4) ∧ c4 D = n + 1 ∧ DenL cm K (Gz c4 H4) acc4 us4 ∧
          QR cm K n W (HdOk cm K n) Q ρ c H σ ((fin (lcS tg cond elt vs (ds.drop (i + 1)) acc4 ρ4)).back l),
        fun H4 ⟨ρ4, c4, acc4, us4, a1, a2, a3, a4, a5, a6, a7⟩ => ⟨ds.length - (i + 1), by omega, rfl, hlt, ρ4, c4, acc4, us4, a1, a2, a3, a4, a5, a6, a7⟩, fun x H2 hy => ?_⟩
      obtain ⟨c2, ex, dx⟩ := yl x H2 hy
      rw [hdrop] at q'
      have q' : QR cm K n W (HdOk cm K n) Q ρ c H σ ((fin (((tg d).nox >>= fun _ => cond.nox >>= fun b =>
          if b = true then elt.nox >>= fun h => fz h >>= fun x => guardM (decide (acc.length < SLine)) (wipeM vs (lcS tg cond elt vs (ds.drop (i + 1)) (acc ++ [x])))
          else wipeM vs (lcS tg cond elt vs (ds.drop (i + 1)) acc)) ρ')).back l) := q'
      rw [M.bind_run] at q'
      refine hg d x ρ' c2 (wipe σ vs) H2 _ (r'.ext ex) dx ?_
      obtain ⟨exc, exD⟩ := ex D _ hDl
      cases eg : tg d ρ' with
      | bad => simp only [M.nox, eg, hbad] at q'; exact q'.elim
      | exc kk ρ3 => simp only [M.nox, eg, hbad] at q'; exact q'.elim
      | ok _ ρ3 =>
        simp only [M.nox, eg] at q'
        rw [M.bind_run] at q'
        intro c3 σ3 H3 s3 k3 en3 r3
        have len3 : σ3.length = (wipe σ vs).length := r3.lenσ.trans r'.lenσ.symm
        have w3 : wipe σ3 vs = wipe σ vs := by
          have e1 : wipe σ3 vs = wipe (wipe σ vs) vs := wipe_ext len3 fun j hj => en3 j fun z => hj (hsub j z)
          have e2 : wipe (wipe σ vs) vs = wipe σ vs := wipe_ext (wipe_length σ vs) fun j hj => wipe_out hj
          exact e1.trans e2
        refine ⟨w3, ht ρ3 c3 σ3 H3 _ r3 ?_⟩
        have hD3 : c3 D = n + 1 ∧ H3 D = some (.lst us) := by
          obtain ⟨z1, z2⟩ := (s3 D _ exD).2.2 (by rw [exc, hDc]; exact Nat.lt_succ_self n)
          exact ⟨by rw [z1, exc]; exact hDc, z2⟩
        have s03 : Stp n cL c3 H1 H3 := (s.trans ex.stp).trans s3
        have k03 : Kq (wipeS ρL vs) ρ3 := fun j e h => k j e (k3 j e h).1
        cases eb : cond ρ3 with
        | bad => simp only [M.nox, eb, hbad] at q'; exact q'.elim
        | exc kk ρ4 => simp only [M.nox, eb, hbad] at q'; exact q'.elim
        | ok b ρ4 =>
          simp only [M.nox, eb] at q'
          intro c4 H4 b' s4 r4 hbb
          have hbb : b = b' := hbb
          subst hbb
          have hD4 : c4 D = n + 1 ∧ H4 D = some (.lst us) := by
            obtain ⟨z1, z2⟩ := (s4.st D _ hD3.2).2.2 (by rw [hD3.1]; exact Nat.lt_succ_self n)
            exact ⟨by rw [z1]; exact hD3.1, z2⟩
          cases b with
          | false =>
            simp only [Bool.false_eq_true, if_false] at q' ⊢
            refine ⟨wipeS ρ4 vs, c4, acc, us, s03.trans s4.st, fun j e h => ?_, by rw [← w3]; exact r4.wipe vs, hD4.2, hD4.1, DenL.mono (fun a o h => (s4.st.gz _ _ (s3.gz _ _ (ex.gz _ _ h)))) _ _ dl, q'⟩
            exact k03 j e (s4.kq j e (wipeS_get h (fun z => S.noConfusion z)).1)
          | true =>
            have q' : QR cm K n W (HdOk cm K n) Q ρ c H σ ((fin ((elt.nox >>= fun h => fz h >>= fun x => guardM (decide (acc.length < SLine)) (wipeM vs (lcS tg cond elt vs (ds.drop (i + 1)) (acc ++ [x])))) ρ4)).back l) := q'
            show te σ3 H4 _
            rw [M.bind_run] at q'
            refine he ρ4 c4 σ3 H4 _ r4 ?_
            cases ee : elt ρ4 with
            | bad => simp only [M.nox, ee, hbad] at q'; exact q'.elim
            | exc kk ρ5 => simp only [M.nox, ee, hbad] at q'; exact q'.elim
            | ok h ρ5 =>
              simp only [M.nox, ee] at q'
              intro c5 H5 y s5 r5 hy5
              have hD5 : c5 D = n + 1 ∧ H5 D = some (.lst us) := by
                obtain ⟨z1, z2⟩ := (s5.st D _ hD4.2).2.2 (by rw [hD4.1]; exact Nat.lt_succ_self n)
                exact ⟨by rw [z1]; exact hD4.1, z2⟩
              rw [M.bind_run] at q'
              rcases fz_cases h ρ5 with ⟨z, ρ6, ef⟩ | ef
              case inr => rw [ef] at q'; simp only [hbad] at q'; exact q'.elim
              rw [ef] at q'
              dsimp only at q'
              obtain ⟨c6, s6, r6, dz, g6⟩ := fz_ok s5 r5 hy5 ef
              have hD6 : c6 D = n + 1 := by
                obtain ⟨z1, z2⟩ := (s6.st D _ hD4.2).2.2 (by rw [hD4.1]; exact Nat.lt_succ_self n)
                rw [z1]; exact hD4.1
              have hlen : acc.length = us.length := dl.length
              by_cases hz : acc.length < SLine
              case neg => simp only [guardM, decide_eq_false hz, Bool.false_eq_true, if_false, hbad] at q'; exact q'.elim
              simp only [guardM, decide_eq_true hz, if_true] at q'
              refine ⟨us, hD5.2, Nat.lt_of_lt_of_le (by omega) sline, wipeS ρ6 vs, c6, acc ++ [z], us ++ [y], ?_, fun j e h => ?_, ?_, upd_same, hD6, ?_, q'⟩
              · exact ((s03.trans s4.st).trans s6.st).write hD
              · exact k03 j e (s4.kq j e (s6.kq j e (wipeS_get h (fun z => S.noConfusion z)).1))
              · rw [← w3]; exact (r6.write (by omega) (by omega)).wipe vs
              · have g7 : ∀ a o, Gz c6 H5 a = some o → Gz c6 (upd H5 D (.lst (us ++ [y]))) a = some o := gz_write (by omega)
                refine DenL.append (DenL.mono (fun a o h => g7 _ _ (s6.st.gz _ _ (s4.st.gz _ _ (s3.gz _ _ (ex.gz _ _ h))))) _ _ dl) ⟨y, [], rfl, Den.mono g7 _ _ dz, rfl⟩
    · have hil' : i = ds.length := by omega
      refine .inl ⟨wi.1 hil', ?_⟩
      rw [hil', List.drop_length] at q'
      have q' : QR cm K n W (HdOk cm K n) Q ρ c H σ ((fin (.ok acc ρ')).back l) := q'
      rw [← hfin] at q'
      have rb : Rep cm K n c' H' (back ρ' ρL vs) σ := ⟨by rw [back_len]; exact r'.len, r.lenσ, fun j s5 h => by
        rcases back_get h with ⟨h1, h2⟩ | ⟨h1, h2⟩
        · subst h2
          have hno : (at_ ρL j).notOwn = true := List.all_eq_true.mp hall j h1
          cases qq : at_ ρL j with
          | own d => rw [qq] at hno; cases hno
          | un =>
            have hj : j < n := by rw [← r'.len, ← back_len ρ' ρL vs]; exact (List.getElem?_eq_some_iff.mp h).1
            exact ⟨_, List.getElem?_eq_getElem (by rw [r.lenσ]; exact hj), trivial⟩
          | fr d =>
            obtain ⟨v, g1, u, eu, du⟩ := rL.at_ j _ (at_some qq (fun z => S.noConfusion z))
            exact ⟨v, g1, u, eu, Den.mono s.gz _ _ du⟩
          | bor d =>
            obtain ⟨v, g1, u, eu, du⟩ := rL.at_ j _ (at_some qq (fun z => S.noConfusion z))
            exact ⟨v, g1, u, eu, DenX.mono s.gb s.gz du⟩
        · obtain ⟨v, g1, g2⟩ := r'.at_ j s5 h2
          rw [wipe_out h1] at g1
          exact ⟨v, g1, g2⟩⟩
      have kb : Kp ρL (back ρ' ρL vs) σ σ := fun j e h => by
        rcases back_get h with ⟨h1, h2⟩ | ⟨h1, h2⟩
        · exact ⟨at_some h2.symm (fun z => S.noConfusion z), rfl⟩
        · exact ⟨(wipeS_get (k j e h2) (fun z => S.noConfusion z)).1, rfl⟩
      rcases unlend_cases l (back ρ' ρL vs) with ⟨ρ5, e5⟩ | e5
      · obtain ⟨c5, a1, a2, a3, a4⟩ := bk (back ρ' ρL vs) c' σ H' s kb rb ρ5 e5
        simp only [R.back, e5] at q'
        have cD : c5 D = n + 1 := by rw [a4 D (by omega)]; exact hDc
        exact q' c5 H' (.ref D) ⟨a1, fun j e h => (a2 j e h).1⟩ a3 ⟨D, rfl, s1.st.free hD, cD, us, hDl, DenL.mono (fun b o h => by
          obtain ⟨z1, z2⟩ := Gz.to h
          exact Gz.of (by rw [a4 b (by omega)]; exact z1) z2) _ _ dl⟩
      · simp only [R.back, e5] at q'; exact q'.elim
end
end Vi

/-! ## ViIt -/
set_option Elab.async false
set_option linter.all false
set_option maxRecDepth 100000
set_option maxHeartbeats 2000000
namespace Vi
open PySem L2

/-! ### a list, a tuple, a text -/
def iAny (K : PySem.W.Frag) (tl : TE) : TI := fun σ H R => tl σ H fun x H1 => (∃ a, x = .ref a ∧ (∃ xs, SqL K H1 a xs) ∧ R (Itl K a) H1) ∨ (∃ a, x = .ref a ∧ (∃ xs, SqT K H1 a xs) ∧ R (Itt K a) H1) ∨ ∃ z, x = .str z ∧ R (Its z) H1
/-- an expression's reading, its value fixed -/
theorem pi_any {X : Cx} {tg l : Expr} {tl : TE} (hl : PE X l tl) : PI X tg l (iAny X.K tl) := ⟨fun pins s σ H R I h => thn (hl.run pins s σ H _ I h) fun v s1 ⟨x, H1, I1, r1, q1⟩ => by
  rcases q1 with ⟨a, e, ⟨xs, hq⟩, q⟩ | ⟨a, e, ⟨xs, hq⟩, q⟩ | ⟨z, e, q⟩
  · subst e
    cases r1
    obtain ⟨its, _, p, _⟩ := I1.list hq
    exact wpAny_pyIter_list p.isList (pi_one (tk := s1.toks) I1 _ (turn_list a _) ⟨_, Heap.get?_push_size _ rfl, rfl, rfl⟩ q)
  · subst e
    cases r1
    obtain ⟨its, _, p, _⟩ := I1.tuple hq
    exact wpAny_pyIter_tuple (t := a) p (pi_one (tk := s1.toks) I1 _ (turn_tuple a _) ⟨_, Heap.get?_push_size _ rfl, rfl, rfl⟩ q)
  · subst e
    have hx : RelV (.str z) v := r1
    obtain ⟨t, rfl⟩ := hx
    cases ha : z.cps.all (· < 128)
    · exact wpAny_pyIter_wide ha (pi_one (tk := s1.toks) I1 _ (turn_str _ z t "str_iterator" (.inr rfl)) ⟨_, Heap.get?_push_size _ rfl, rfl, rfl⟩ q)
    · exact wpAny_pyIter_ascii ha (pi_one (tk := s1.toks) I1 _ (turn_str _ z t "str_ascii_iterator" (.inl rfl)) ⟨_, Heap.get?_push_size _ rfl, rfl, rfl⟩ q)⟩
def S.lentOf (i : Nat) : S → Option Nat | .own _ => some i | _ => none
def lentOf : Hd → List S → Option Nat
  | .slot i, ρ => (at_ ρ i).lentOf i
  | _, _ => none
def itOf (h : Hd) (d : D) : M (List D × Option Nat) := fun ρ => match d with
  | .lst xs => .ok (xs, lentOf h ρ) ρ
  | .tup xs => .ok (xs, none) ρ
  | .str s => .ok (s.map fun c => .str [c], none) ρ
  | _ => .bad
def itAny (f : M Hd) : M (List D × Option Nat) := f >>= fun h => rd h >>= fun d => itOf h d
section
variable {cm : Nat → Addr} {K : PySem.W.Frag} {n : Nat} {W : WX} {c c' : Col} {H H' : Hp}
theorem sql_eq {a : Addr} {xs ys : List V} (h : H a = some (.lst xs)) (h' : SqL K H a ys) (hk : K.lookup a = none ∨ True) : True := trivial
theorem wlk_list {a : Addr} {ds : List Vi.D} {vs : List V} (ha : H a = some (.lst vs)) (hd : DenL cm K (Gz c H) ds vs) (hc : c a = 0 ∨ n < c a) : Wlk cm K n (Itl K a) ds c H := by
  intro c1 H1 s i
  have h1 : H1 a = some (.lst vs) := by
    rcases hc with q | q
    · exact ((s a _ ha).2.1 q).2
    · exact ((s a _ ha).2.2 q).2
  have hl := hd.length
  refine ⟨fun e => ⟨vs, SqL.of h1, by omega⟩, fun d e => ?_⟩
  obtain ⟨v, hv, dv⟩ := hd.get e
  refine ⟨⟨vs, v, SqL.of h1, hv⟩, fun x H2 hy => ?_⟩
  obtain ⟨e1, e2⟩ := hy
  have e3 := e2 vs (SqL.of h1)
  rw [hv] at e3
  cases e3
  subst e1
  exact ⟨c1, Ext.refl, Den.mono s.gz _ _ dv⟩
theorem wlk_tup {a : Addr} {ds : List Vi.D} {vs : List V} (ha : Gz c H a = some (.tup vs)) (hd : DenL cm K (Gz c H) ds vs) : Wlk cm K n (Itt K a) ds c H := by
  intro c1 H1 s i
  have h1 : H1 a = some (.tup vs) := (Gz.to (s.gz _ _ ha)).2
  have hl := hd.length
  refine ⟨fun e => ⟨vs, SqT.of h1, by omega⟩, fun d e => ?_⟩
  obtain ⟨v, hv, dv⟩ := hd.get e
  refine ⟨⟨vs, v, SqT.of h1, hv⟩, fun x H2 hy => ?_⟩
  obtain ⟨e1, e2⟩ := hy
  have e3 := e2 vs (SqT.of h1)
  rw [hv] at e3
  cases e3
  subst e1
  exact ⟨c1, Ext.refl, Den.mono s.gz _ _ dv⟩
theorem wlk_str {s : List Nat} : Wlk cm K n (Its ⟨s.toArray⟩) (s.map fun c => .str [c]) c H := by
  intro c1 H1 st i
  refine ⟨fun e => ?_, fun d e => ?_⟩
  · show s.toArray.size ≤ i
    rw [e]; simp
  · rw [List.getElem?_map] at e
    cases q : s[i]? with
    | none => rw [q] at e; cases e
    | some x =>
      rw [q] at e
      have e : Vi.D.str [x] = d := Option.some.inj e
      subst e
      refine ⟨?_, fun v H2 hy => ?_⟩
      · show i < s.toArray.size
        simpa using (List.getElem?_eq_some_iff.mp q).1
      · obtain ⟨e1, z, e2, e3⟩ := hy
        subst e1
        have e2 : s.toArray[i]? = some z := e2
        rw [List.getElem?_toArray, q] at e2
        cases e2
        exact ⟨c1, Ext.refl, e3⟩
theorem sem_itAny {tl : TE} {f : M Hd} (h : Sem cm K n W (HdOk cm K n) tl f) : SemI cm K n W (iAny K tl) (itAny f) := by
  intro ρ c σ H Rw r q
  refine h ρ c σ H _ r ?_
  unfold itAny at q
  rw [M.bind_run] at q
  cases e : f ρ with
  | bad => rw [e] at q; exact q.elim
  | exc k ρ1 => rw [e] at q; exact q
  | ok hd ρ1 =>
    rw [e] at q
    intro c1 H1 x s1 r1 hx
    obtain ⟨d, e1, q⟩ := rd_bind (P := QI cm K n W Rw ρ c H σ) (fun h => h) q
    have dr := (rd_ok r1 hx e1).2
    cases d with
    | lst xs =>
      have q : QI cm K n W Rw ρ c H σ (.ok (xs, lentOf hd ρ1) ρ1) := q
      obtain ⟨a, vs, ev, ha, dl⟩ := dr
      refine .inl ⟨a, ev, ⟨vs, SqL.of ha⟩, q c1 H1 _ s1 r1 ?_⟩
      have gen : ∀ c2, (∀ b o, Gz c1 H1 b = some o → Gz c2 H1 b = some o) → (c2 a = 0 ∨ n < c2 a) → Wlk cm K n (Itl K a) xs c2 H1 := fun c2 g hc => wlk_list ha (DenL.mono g _ _ dl) hc
      cases hd with
      | val d' =>
        have e1 : (R.ok d' ρ1 : R Vi.D) = .ok (.lst xs) ρ1 := e1
        cases e1
        obtain ⟨a', vs', e2, h2, h3⟩ := hx
        rw [ev] at e2; cases e2
        exact gen c1 (fun _ _ h => h) (.inl (Gz.to h2).1)
      | new d' =>
        obtain ⟨a', e2, h0, h1, h2⟩ := hx
        rw [ev] at e2; cases e2
        exact gen c1 (fun _ _ h => h) (.inr (by omega))
      | slot i =>
        have hx : σ[i]? = some (some x) := hx
        rw [ev] at hx
        have e1 : (at_ ρ1 i).rd ρ1 = .ok (.lst xs) ρ1 := e1
        show WlkL cm K n (Itl K a) σ ((at_ ρ1 i).lentOf i) xs c1 H1
        cases qq : at_ ρ1 i with
        | un => rw [qq] at e1; cases e1
        | fr d' =>
          rw [qq] at e1; cases e1
          obtain ⟨_, _, u, e2, e3⟩ := slot_ok r1 hx qq (fun z => S.noConfusion z)
          cases e2
          obtain ⟨a', vs', e2, h2, h3⟩ := e3
          cases e2
          exact gen c1 (fun _ _ h => h) (.inl (Gz.to h2).1)
        | bor d' =>
          rw [qq] at e1; cases e1
          obtain ⟨_, _, u, e2, e3⟩ := slot_ok r1 hx qq (fun z => S.noConfusion z)
          cases e2
          obtain ⟨a', vs', e2, h2, h3⟩ := e3
          cases e2
          exact gen c1 (fun _ _ h => h) ((Gb.to h2).1.imp id fun z => by omega)
        | own d' =>
          obtain ⟨hi, _, a', e2, e3, e4⟩ := slot_ok r1 hx qq (fun z => S.noConfusion z)
          cases e2
          show WlkL cm K n (Itl K a) σ (some i) xs c1 H1
          intro b hb
          rw [hx] at hb
          cases hb
          have e3 : c1 a = i + 1 := e3
          exact gen _ (gz_recol (by omega)) (.inr (by rw [cset_same]; omega))
    | tup xs =>
      have q : QI cm K n W Rw ρ c H σ (.ok (xs, none) ρ1) := q
      obtain ⟨a, vs, ev, ha, dl⟩ := dr
      exact .inr (.inl ⟨a, ev, ⟨vs, SqT.of (Gz.to ha).2⟩, q c1 H1 _ s1 r1 (wlk_tup ha dl)⟩)
    | str s =>
      have q : QI cm K n W Rw ρ c H σ (.ok (s.map fun c => .str [c], none) ρ1) := q
      exact .inr (.inr ⟨_, dr, q c1 H1 _ s1 r1 wlk_str⟩)
    | _ => exact q.elim
theorem vi_any {X : Cx} {tg l : Expr} {tl : TE} {f : M Hd} (h : VE cm X W l tl f) : VI cm X W tg l (iAny X.K tl) (itAny f) := ⟨pi_any h.pe, sem_itAny h.sem⟩

/-! ### ranges -/
def intsFrom (i k : Int) : Nat → List D
  | 0 => []
  | m + 1 => .int i :: intsFrom (i + k) k m
theorem intsFrom_len {k : Int} : ∀ {m : Nat} {i : Int}, (intsFrom i k m).length = m
  | 0, _ => rfl
  | m + 1, i => by unfold intsFrom; rw [List.length_cons, intsFrom_len]
theorem intsFrom_get {k : Int} : ∀ {m j : Nat} {i : Int} {d : D}, (intsFrom i k m)[j]? = some d → j < m ∧ d = .int (i + j * k)
  | 0, j, i, d, h => by simp [intsFrom] at h
  | m + 1, 0, i, d, h => by
    have h : some (D.int i) = some d := h
    cases h
    exact ⟨Nat.succ_pos _, by simp⟩
  | m + 1, j + 1, i, d, h => by
    have h : (intsFrom (i + k) k m)[j]? = some d := by simpa [intsFrom] using h
    obtain ⟨h1, h2⟩ := intsFrom_get h
    refine ⟨Nat.succ_lt_succ h1, ?_⟩
    rw [h2]
    congr 1
    have : ((j + 1 : Nat) : Int) * k = j * k + k := by rw [Int.natCast_add, Int.add_mul]; simp
    omega
theorem wlk_range {i k : Int} {m : Nat} : Wlk cm K n (Itc i k m) (intsFrom i k m) c H := by
  intro c1 H1 st j
  refine ⟨fun e => ?_, fun d e => ?_⟩
  · rw [intsFrom_len] at e
    show m ≤ j
    omega
  · obtain ⟨h1, h2⟩ := intsFrom_get e
    refine ⟨h1, fun v H2 hy => ?_⟩
    obtain ⟨e1, e2⟩ := hy
    subst e1 e2 h2
    exact ⟨c1, Ext.refl, rfl⟩

theorem wlk_range1 {i : Int} {m : Nat} : Wlk cm K n (Itr i m) (intsFrom i 1 m) c H := by
  intro c1 H1 st j
  refine ⟨fun e => ?_, fun d e => ?_⟩
  · rw [intsFrom_len] at e
    show m ≤ j
    omega
  · obtain ⟨h1, h2⟩ := intsFrom_get e
    refine ⟨h1, fun v H2 hy => ?_⟩
    obtain ⟨e1, e2⟩ := hy
    subst e1 e2 h2
    exact ⟨c1, Ext.refl, by show V.int _ = V.int _; rw [Int.mul_one]⟩
def big62 (i : Int) : Bool := decide (-(2 ^ 62) ≤ i) && decide (i < 2 ^ 62)
def rg3 (i j k : Int) : Option Nat := if k ≠ 0 ∧ k.natAbs < 1073741824 ∧ Builtin.Range.small i j k = true ∧ 0 ≤ Builtin.Range.rangeSize i j k then some (Builtin.Range.rangeSize i j k).toNat else none
def rgD : List D → Option (List D)
  | [.int j] => if big62 j = true then some (intsFrom 0 1 j.toNat) else none
  | [.int i, .int j] => if (big62 i && big62 j) = true then some (intsFrom i 1 (j - i).toNat) else none
  | [.int i, .int j, .int k] => (rg3 i j k).map fun m => intsFrom i k m
  | _ => none
def itRng (f : M (List Hd)) : M (List D × Option Nat) := f >>= fun hs => rds hs >>= fun ds => M.lift ((rgD ds).map fun xs => (xs, none))
theorem rng_q {f : M (List Hd)} {Rw : It → Hp → Prop} {ρ : List S} {σ : St} (Q : List V → Hp → Prop) (hQ : ∀ ds vs xs c1 H1, DsR cm K c1 H1 ds vs → rgD ds = some xs → (∀ J, (∀ c2, Wlk cm K n J xs c2 H1) → Rw J H1) → Q vs H1)
    (q : QI cm K n W Rw ρ c H σ (itRng f ρ)) : QR cm K n W (HsOk cm K n) Q ρ c H σ (f ρ) := by
  unfold itRng at q
  rw [M.bind_run] at q
  cases e : f ρ with
  | bad => rw [e] at q; exact q
  | exc k ρ1 => rw [e] at q; exact q
  | ok hs ρ1 =>
    rw [e] at q
    dsimp only at q
    rw [M.bind_run] at q
    intro c1 H1 vs s1 r1 hx
    rcases rds_ok r1 hx with ⟨ds, e2, hd⟩ | e2
    · rw [e2] at q
      dsimp only at q
      rw [lift_run] at q
      cases e3 : rgD ds with
      | none => rw [e3] at q; exact q.elim
      | some xs =>
        rw [e3] at q
        exact hQ ds vs xs c1 H1 hd e3 fun J w => q c1 H1 J s1 r1 (w c1)
    · rw [e2] at q; exact q.elim
theorem dsr_nil {vs : List V} (h : DsR cm K c H [] vs) : vs = [] := h
theorem dsr_cons {d : D} {ds : List D} {vs : List V} (h : DsR cm K c H (d :: ds) vs) : ∃ v r, vs = v :: r ∧ DenR cm K c H d v ∧ DsR cm K c H ds r := h
theorem rgD_cases {ds : List D} {xs : List D} (h : rgD ds = some xs) : (∃ j, ds = [.int j] ∧ big62 j = true ∧ xs = intsFrom 0 1 j.toNat) ∨ (∃ i j, ds = [.int i, .int j] ∧ (big62 i && big62 j) = true ∧ xs = intsFrom i 1 (j - i).toNat) ∨
    ∃ i j k m, ds = [.int i, .int j, .int k] ∧ rg3 i j k = some m ∧ xs = intsFrom i k m := by
  unfold rgD at h
  split at h
  · rename_i j
    by_cases hb : big62 j = true
    · rw [if_pos hb] at h; cases h; exact .inl ⟨_, rfl, hb, rfl⟩
    · rw [if_neg hb] at h; cases h
  · rename_i i j
    by_cases hb : (big62 i && big62 j) = true
    · rw [if_pos hb] at h; cases h; exact .inr (.inl ⟨_, _, rfl, hb, rfl⟩)
    · rw [if_neg hb] at h; cases h
  · rename_i i j k
    cases e : rg3 i j k with
    | none => rw [e] at h; cases h
    | some m => rw [e] at h; cases h; exact .inr (.inr ⟨_, _, _, m, rfl, e, rfl⟩)
  · cases h
theorem big62_ok {i : Int} (h : big62 i = true) : -(2 ^ 62) ≤ i ∧ i < 2 ^ 62 := by
  unfold big62 at h
  rw [Bool.and_eq_true, decide_eq_true_eq, decide_eq_true_eq] at h
  exact h
theorem dsr_ints {a : Int} {vs : List V} (h : DsR cm K c H [.int a] vs) : vs = [.int a] := by
  obtain ⟨v, r, e, h1, h2⟩ := h
  have h1 : v = .int a := h1
  have h2 : r = [] := h2
  rw [e, h1, h2]
theorem dsr_ints2 {a b : Int} {vs : List V} (h : DsR cm K c H [.int a, .int b] vs) : vs = [.int a, .int b] := by
  obtain ⟨v, r, e, h1, h2⟩ := h
  have h1 : v = .int a := h1
  rw [e, h1, dsr_ints h2]
theorem dsr_ints3 {a b k : Int} {vs : List V} (h : DsR cm K c H [.int a, .int b, .int k] vs) : vs = [.int a, .int b, .int k] := by
  obtain ⟨v, r, e, h1, h2⟩ := h
  have h1 : v = .int a := h1
  rw [e, h1, dsr_ints2 h2]
theorem dsr_len : ∀ {ds : List D} {vs : List V}, DsR cm K c H ds vs → ds.length = vs.length
  | [], vs, h => by cases (show vs = [] from h); rfl
  | d :: ds, vs, ⟨v, r, e, _, h⟩ => by rw [e, List.length_cons, List.length_cons, dsr_len (ds := ds) (vs := r) h]
section
variable {X : Cx} {tg : Expr}
/-- range(a), with the number of arguments checked by the evaluator -/
def itRngN (m : Nat) (f : M (List Hd)) : M (List D × Option Nat) := itRng (f >>= fun hs => if hs.length = m then pure hs else M.bad)
theorem HsOk.len {H₀ : Hp} {σ : St} : ∀ {hs : List Hd} {vs : List V}, HsOk cm K n H₀ c H σ hs vs → hs.length = vs.length
  | [], vs, h => by cases (show vs = [] from h); rfl
  | d :: ds, vs, ⟨v, r, e, _, h⟩ => by rw [e, List.length_cons, List.length_cons, HsOk.len (hs := ds) (vs := r) h]
theorem rng_qn {m : Nat} {f : M (List Hd)} {Rw : It → Hp → Prop} {ρ : List S} {σ : St} (Q : List V → Hp → Prop) (hQ : ∀ ds vs xs c1 H1, vs.length = m → DsR cm K c1 H1 ds vs → rgD ds = some xs → (∀ J, (∀ c2, Wlk cm K n J xs c2 H1) → Rw J H1) → Q vs H1)
    (q : QI cm K n W Rw ρ c H σ (itRngN m f ρ)) : QR cm K n W (HsOk cm K n) Q ρ c H σ (f ρ) := by
  have q2 := rng_q (fun vs H1 => vs.length = m → Q vs H1) (fun ds vs xs c1 H1 h1 h2 h3 hm => hQ ds vs xs c1 H1 hm h1 h2 h3) q
  rw [M.bind_run] at q2
  cases e : f ρ with
  | bad => rw [e] at q2; exact q2
  | exc k ρ1 => rw [e] at q2; exact q2
  | ok hs ρ1 =>
    rw [e] at q2
    have q2 : QR cm K n W (HsOk cm K n) (fun vs H1 => vs.length = m → Q vs H1) ρ c H σ ((if hs.length = m then pure hs else M.bad : M (List Hd)) ρ1) := q2
    by_cases hm : hs.length = m
    · rw [if_pos hm] at q2
      exact fun c1 H1 vs s1 r1 hx => q2 c1 H1 vs s1 r1 hx (by rw [← hx.len]; exact hm)
    · rw [if_neg hm] at q2; exact q2.elim
theorem vi_range1 {a : Expr} {ta : TA} {f : M (List Hd)} {p pos : Pos} (hm : X.mg "range" = none) (ha : VA cm X W [a] ta f) (hg : Gl X "range" := by rfl) (hs : starEach [a] X.env = [(false, eval a X.env)] := by rfl) :
    VI cm X W tg (.Call (.Name "range" p) [a] [] pos) (iRng1 ta) (itRngN 1 f) := ⟨pi_range1 hg hm ha.pe hs, fun ρ c σ H Rw r q => by
  refine ha.sem ρ c σ H _ r (rng_qn _ (fun ds vs xs c1 H1 hl hd e k => ?_) q)
  have l2 := dsr_len (ds := ds) (vs := vs) hd
  rcases rgD_cases e with ⟨j, e1, e2, e3⟩ | ⟨i, j, e1, e2, e3⟩ | ⟨i, j, kk, m, e1, e2, e3⟩
  · subst e1 e3
    exact ⟨j, dsr_ints hd, (big62_ok e2).1, (big62_ok e2).2, k _ fun c2 => wlk_range1⟩
  · subst e1; simp only [List.length_cons, List.length_nil] at l2; omega
  · subst e1; simp only [List.length_cons, List.length_nil] at l2; omega⟩
theorem vi_range2 {a b : Expr} {ta : TA} {f : M (List Hd)} {p pos : Pos} (hm : X.mg "range" = none) (ha : VA cm X W [a, b] ta f) (hg : Gl X "range" := by rfl) (hs : starEach [a, b] X.env = [(false, eval a X.env), (false, eval b X.env)] := by rfl) (hs2 : starEach [b] X.env = [(false, eval b X.env)] := by rfl) :
    VI cm X W tg (.Call (.Name "range" p) [a, b] [] pos) (iRng2 ta) (itRngN 2 f) := ⟨pi_range2 hg hm ha.pe hs hs2, fun ρ c σ H Rw r q => by
  refine ha.sem ρ c σ H _ r (rng_qn _ (fun ds vs xs c1 H1 hl hd e k => ?_) q)
  have l2 := dsr_len (ds := ds) (vs := vs) hd
  rcases rgD_cases e with ⟨j, e1, e2, e3⟩ | ⟨i, j, e1, e2, e3⟩ | ⟨i, j, kk, m, e1, e2, e3⟩
  · subst e1; simp only [List.length_cons, List.length_nil] at l2; omega
  · subst e1 e3
    rw [Bool.and_eq_true] at e2
    exact ⟨i, j, dsr_ints2 hd, ⟨(big62_ok e2.1).1, (big62_ok e2.1).2, (big62_ok e2.2).1, (big62_ok e2.2).2⟩, k _ fun c2 => wlk_range1⟩
  · subst e1; simp only [List.length_cons, List.length_nil] at l2; omega⟩
theorem vi_range3 {a b d : Expr} {ta : TA} {f : M (List Hd)} {p pos : Pos} (hm : X.mg "range" = none) (ha : VA cm X W [a, b, d] ta f) (hg : Gl X "range" := by rfl) (hs : starEach [a, b, d] X.env = (false, eval a X.env) :: starEach [b, d] X.env := by rfl) (hpl : (backTo pos (starEach [b, d] X.env)).any (·.1) = false := by rfl) :
    VI cm X W tg (.Call (.Name "range" p) [a, b, d] [] pos) (iRng3 ta) (itRngN 3 f) := ⟨pi_range3 hg hm ha.pe hs hpl, fun ρ c σ H Rw r q => by
  refine ha.sem ρ c σ H _ r (rng_qn _ (fun ds vs xs c1 H1 hl hd e k => ?_) q)
  have l2 := dsr_len (ds := ds) (vs := vs) hd
  rcases rgD_cases e with ⟨j, e1, e2, e3⟩ | ⟨i, j, e1, e2, e3⟩ | ⟨i, j, kk, m, e1, e2, e3⟩
  · subst e1; simp only [List.length_cons, List.length_nil] at l2; omega
  · subst e1; simp only [List.length_cons, List.length_nil] at l2; omega
  · subst e1 e3
    unfold rg3 at e2
    by_cases hc : kk ≠ 0 ∧ kk.natAbs < 1073741824 ∧ Builtin.Range.small i j kk = true ∧ 0 ≤ Builtin.Range.rangeSize i j kk
    · rw [if_pos hc] at e2
      cases e2
      exact ⟨i, j, kk, _, dsr_ints3 hd, ⟨hc.1, hc.2.1, hc.2.2.1, by have := hc.2.2.2; omega⟩, k _ fun c2 => wlk_range⟩
    · rw [if_neg hc] at e2; cases e2⟩

/-! ### for, comprehensions as rules -/
theorem vs_for {iter tg : Expr} {body : List Stmt} {wi : TI} {g : TG} {tb : TS} {is : List Nat} {fi : M (List D × Option Nat)} {ft : D → M Unit} {fb : M Fl} {pos : Pos} (hp : PassesOwn (model X.prog X.w) X.A X.env X.xe) (hc : X.calm = true)
    (hi : VI cm X W tg iter wi fi) (hg : VG cm X is tg g ft) (hb : VSs cm X W body tb fb) (hs : ∀ x, foldedSetIterable iter X.env x = pure x := by intro _; rfl) : VS cm X W (.For tg iter body [] pos) (tFor wi g tb) (sFor fi ft fb) :=
  ⟨ps_for hp hc hi.pe hg.pe hb.pe hs, sem_for hi.sem hg.sem hb.sem⟩
/-- a clause's tests -/
structure VTs (cm : Nat → Addr) (X : Cx) (W : WX) (es : List Expr) (te : TT) (f : M Bool) : Prop where
  pe : PTs X es te
  sem : Sem cm X.K X.N.length W BlOk te f
theorem vts_nil : VTs cm X W [] tYes tYesM := ⟨pts_nil, sem_bl⟩
theorem vts_one {e : Expr} {t : TT} {f : M Bool} (h : VT cm X W e t f) : VTs cm X W [e] t f := ⟨pts_one h.pe, h.sem⟩
theorem ve_lc {elt iter : Expr} {tg : Expr} {ifs : List Expr} {scope : Scope} (own : List (Str × Nat)) {pos : Pos} {wi : TI} {g : TG} {tt : TT} {te : TE} {is : List Nat} {fi : M (List D × Option Nat)} {ft : D → M Unit} {fc : M Bool} {fe : M Hd} (hc : X.calm = true) (hN : X.N.Nodup)
    (hi : VI cm X W tg iter wi fi)
    (hg : ∀ (s : Shared) (H : Hp) (C : Addr) (cl : List (Str × Addr)) (fp : List Addr), VG cm (X.blk s H scope (compEnvC scope cl C X.env) fp) is tg g ft)
    (ht : ∀ (s : Shared) (H : Hp) (C : Addr) (cl : List (Str × Addr)) (fp : List Addr), VTs cm (X.blk s H scope (compEnvC scope cl C X.env) fp) W0 ifs tt fc)
    (he : ∀ (s : Shared) (H : Hp) (C : Addr) (cl : List (Str × Addr)) (fp : List Addr), VE cm (X.blk s H scope (compEnvC scope cl C X.env) fp) W0 elt te fe)
    (ok : blkC X.N X.env.scope scope own = true := by decide +kernel) (hsub : (is.all fun j => (own.map (·.2)).contains j) = true := by rfl) (hs : ∀ x, foldedSetIterable iter X.env x = pure x := by intro _; rfl) :
    VE cm X W (.ListComp elt [⟨tg, iter, ifs, 0⟩] scope pos) (tLc wi g tt te (own.map (·.2))) (eLc fi ft fc fe (own.map (·.2))) :=
  ⟨pe_lc hc hN hi.pe (blkOk_by ok) (fun s H C cl fp => (hg s H C cl fp).pe) (fun s H C cl fp => (ht s H C cl fp).pe) (fun s H C cl fp => (he s H C cl fp).pe) hs,
   sem_lc hi.sem (hg X.s_0 X.H_0 0 [] []).sem (fun j hj => by have := List.all_eq_true.mp hsub j hj; simpa using this) (ht X.s_0 X.H_0 0 [] []).sem (he X.s_0 X.H_0 0 [] []).sem⟩
theorem vs_setLc (i : Nat) {y : Str} {py : Pos} {elt iter : Expr} {tg : Expr} {ifs : List Expr} {scope : Scope} (own : List (Str × Nat)) {pos spos : Pos} {wi : TI} {g : TG} {tt : TT} {te : TE} {is : List Nat} {fi : M (List D × Option Nat)} {ft : D → M Unit} {fc : M Bool} {fe : M Hd} (hc : X.calm = true) (hN : X.N.Nodup)
    (hi : VI cm X W tg iter wi fi)
    (hg : ∀ (s : Shared) (H : Hp) (C : Addr) (cl : List (Str × Addr)) (fp : List Addr), VG cm (X.blk s H scope (compEnvC scope cl C X.env) fp) is tg g ft)
    (ht : ∀ (s : Shared) (H : Hp) (C : Addr) (cl : List (Str × Addr)) (fp : List Addr), VTs cm (X.blk s H scope (compEnvC scope cl C X.env) fp) W0 ifs tt fc)
    (he : ∀ (s : Shared) (H : Hp) (C : Addr) (cl : List (Str × Addr)) (fp : List Addr), VE cm (X.blk s H scope (compEnvC scope cl C X.env) fp) W0 elt te fe)
    (hy : X.N[i]? = some y := by rfl) (hyl : X.env.scope.names.lookup y = some .local := by rfl) (hsw : swapsWith (.ListComp elt [⟨tg, iter, ifs, 0⟩] scope pos) (some (.Name y py)) spos.line X.env = pure true := by exact sw_true rfl rfl rfl (by decide +kernel))
    (ok : blkC X.N X.env.scope scope own = true := by decide +kernel) (hsub : (is.all fun j => (own.map (·.2)).contains j) = true := by rfl) (hs : ∀ x, foldedSetIterable iter X.env x = pure x := by intro _; rfl) :
    VS cm X W (.Assign [.Name y py] (.ListComp elt [⟨tg, iter, ifs, 0⟩] scope pos) spos) (tAsg (tLc wi g tt te (own.map (·.2))) (gName i)) (sSet i (eLc fi ft fc fe (own.map (·.2)))) :=
  ⟨ps_setLc hc hN hy hyl hsw hi.pe (blkOk_by ok) (fun s H C cl fp => (hg s H C cl fp).pe) (fun s H C cl fp => (ht s H C cl fp).pe) (fun s H C cl fp => (he s H C cl fp).pe) hs,
   sem_set (List.getElem?_eq_some_iff.mp hy).1 (sem_lc hi.sem (hg X.s_0 X.H_0 0 [] []).sem (fun j hj => by have := List.all_eq_true.mp hsub j hj; simpa using this) (ht X.s_0 X.H_0 0 [] []).sem (he X.s_0 X.H_0 0 [] []).sem)⟩
end
end
end Vi

/-! ## ViFn -/
set_option Elab.async false
set_option linter.all false
set_option maxRecDepth 100000
set_option maxHeartbeats 2000000
namespace Vi
open PySem L2

/-! ### while -/
def sWhile (c : M Bool) (b : M Fl) : Nat → M Fl
  | 0 => M.bad
  | m + 1 => c >>= fun x => if x = true then b >>= fun y => match y with
      | .nx => sWhile c b m
      | .ct => sWhile c b m
      | .bk => pure .nx
      | .rt s => pure (.rt s)
    else pure .nx
section
variable {cm : Nat → Addr} {K : PySem.W.Frag} {n : Nat} {W : WX} {c c' : Col} {H H' : Hp}
theorem sem_while (fuel : Nat) {tc : TT} {tb : TS} {fc : M Bool} {fb : M Fl} (hc : Sem cm K n W BlOk tc fc) (hb : SemS cm K n W tb fb) : SemS cm K n W (tWhile tc tb) (sWhile fc fb fuel) := by
  intro ρ c σ H Dn r q
  refine ⟨fun m σ' H' => ∃ ρ' c', Stp n c c' H H' ∧ Kp ρ ρ' σ σ' ∧ Rep cm K n c' H' ρ' σ' ∧ QS cm K n W Dn ρ σ c H (sWhile fc fb m ρ'), ⟨fuel, ρ, c, Stp.refl, Kp.refl, r, q⟩, ?_⟩
  rintro m σ1 H1 ⟨ρ1, c1, s1, k1, r1, q1⟩
  cases m with
  | zero => exact q1.elim
  | succ m =>
    have q1 : QS cm K n W Dn ρ σ c H ((fc >>= fun x => if x = true then fb >>= fun y => match y with
      | .nx => sWhile fc fb m
      | .ct => sWhile fc fb m
      | .bk => pure .nx
      | .rt s => pure (.rt s)
      else pure .nx) ρ1) := q1
    refine hc ρ1 c1 σ1 H1 _ r1 ?_
    rw [M.bind_run] at q1
    cases e : fc ρ1 with
    | bad => rw [e] at q1; exact q1.elim
    | exc k ρ2 => rw [e] at q1; exact fun c' H' s r' => q1 c' σ1 H' (s1.trans s.st) (k1.trans s.kp) r'
    | ok b ρ2 =>
      rw [e] at q1
      intro c2 H2 b' s2 r2 hbb
      have hbb : b = b' := hbb
      subst hbb
      cases b with
      | false =>
        rw [if_neg Bool.false_ne_true]
        exact (show QN cm K _ Dn.nx ρ σ c H ρ2 from q1) c2 σ1 H2 (s1.trans s2.st) (k1.trans s2.kp) r2
      | true =>
        rw [if_pos rfl]
        have q2 : QS cm K n W Dn ρ σ c H ((fb >>= fun y => match y with
          | .nx => sWhile fc fb m
          | .ct => sWhile fc fb m
          | .bk => pure .nx
          | .rt s => pure (.rt s)) ρ2) := q1
        refine ⟨fun σ' H' => ∃ ρ' c', Stp n c c' H H' ∧ Kp ρ ρ' σ σ' ∧ Rep cm K n c' H' ρ' σ' ∧ QS cm K n W Dn ρ σ c H (sWhile fc fb m ρ'), fun σ' H' ⟨ρ', c', a1, a2, a3, a4⟩ => ⟨m, Nat.lt_succ_self m, ρ', c', a1, a2, a3, a4⟩, ?_⟩
        have s02 := s1.trans s2.st
        have k02 := k1.trans (s2.kp (σ := σ1))
        refine hb ρ2 c2 σ1 H2 _ r2 ?_
        rw [M.bind_run] at q2
        cases eb : fb ρ2 with
        | bad => rw [eb] at q2; exact q2.elim
        | exc k ρ3 => rw [eb] at q2; exact fun c' σ' H' s k' r' => q2 c' σ' H' (s02.trans s) (k02.trans k') r'
        | ok y ρ3 =>
          rw [eb] at q2
          cases y with
          | nx => exact fun c3 σ3 H3 s3 k3 r3 => ⟨ρ3, c3, s02.trans s3, k02.trans k3, r3, q2⟩
          | ct => exact fun c3 σ3 H3 s3 k3 r3 => ⟨ρ3, c3, s02.trans s3, k02.trans k3, r3, q2⟩
          | bk => exact fun c3 σ3 H3 s3 k3 r3 => (show QN cm K _ Dn.nx ρ σ c H ρ3 from q2) c3 σ3 H3 (s02.trans s3) (k02.trans k3) r3
          | rt z => exact fun c3 H3 v s3 rt3 => q2 c3 H3 v (s02.trans s3) (rt3.base s02)
theorem vs_while (fuel : Nat) {X : Cx} {e : Expr} {body : List Stmt} {tc : TT} {tb : TS} {fc : M Bool} {fb : M Fl} {pos : Pos} (hp : PassesOwn (model X.prog X.w) X.A X.env X.xe) (hc : VT cm X W e tc fc) (hb : VSs cm X W body tb fb) :
    VS cm X W (.While e body [] pos) (tWhile tc tb) (sWhile fc fb fuel) := ⟨ps_while hp hc.pe hb.pe, sem_while fuel hc.sem hb.sem⟩

end

/-! ### defs -/
inductive Out where
  | ret (s : S) | exc (k : Nat) | bad
def paramS : D → S
  | .lst xs => .bor (.lst xs)
  | .dic ks xs => .bor (.dic ks xs)
  | d => .fr d
def startS (n : Nat) (ds : List D) : List S := ds.map paramS ++ List.replicate (n - ds.length) .un
def endF : R Fl → Out
  | .ok .nx _ => .ret (.fr .non)
  | .ok (.rt s) _ => .ret s
  | .exc k _ => .exc k
  | _ => .bad
/-- what a def gives -/
def runF (n : Nat) (F : M Fl) (ds : List D) : Out := endF (F (startS n ds))
section
variable (cm : Nat → Addr) (K : PySem.W.Frag)
def RetOk (H : Hp) (c' : Col) (H' : Hp) (s : S) (v : V) : Prop := match s with
  | .fr d => Den cm K (Gz c' H') d v
  | .own d => ∃ a, v = .ref a ∧ H a = none ∧ c' a ≠ 0 ∧ Cont cm K c' H' a d
  | _ => False
/-- a def's promise, by its evaluator -/
def spV (m : Nat) (φ : List D → Out) : Sp := fun vs H Q E => ∃ c ds, ds.length = m ∧ DsR cm K c H ds vs ∧ (match φ ds with
  | .ret s => ∀ c' H' v, Ext c c' H H' → RetOk cm K H c' H' s v → Q v H'
  | .exc k => ∀ c' H', Ext c c' H H' → E (.ref (cm k)) none H'
  | .bad => False)
end
section
variable {cm : Nat → Addr} {K : PySem.W.Frag} {n : Nat} {c : Col} {H : Hp}
theorem dsr_get : ∀ {ds : List D} {vs : List V} {i : Nat} {d : D}, DsR cm K c H ds vs → ds[i]? = some d → ∃ v, vs[i]? = some v ∧ DenR cm K c H d v
  | [], vs, i, d, h, e => by simp at e
  | d' :: ds, vs, 0, d, ⟨v, r, h1, h2, h3⟩, e => by
    subst h1
    have q : d' = d := by simpa using e
    subst q
    exact ⟨v, rfl, h2⟩
  | d' :: ds, vs, i + 1, d, ⟨v, r, h1, h2, h3⟩, e => by
    subst h1
    obtain ⟨u, q1, q2⟩ := dsr_get (ds := ds) (vs := r) (i := i) (d := d) h3 (by simpa using e)
    exact ⟨u, by simpa using q1, q2⟩
/-- the colours at a def's entry -/
def col0 (n : Nat) (c : Col) : Col := fun a => if c a = 0 then 0 else n + 9
theorem gz_col0 : Gz (col0 n c) H = Gz c H := by
  funext a
  unfold Gz col0
  by_cases h : c a = 0
  · rw [if_pos h, if_pos h]; rfl
  · rw [if_neg h, if_neg h]; rfl
theorem gb_col0 : Gb n (col0 n c) H = H := by
  funext a
  unfold Gb col0
  by_cases h : c a = 0
  · rw [if_pos h]; rfl
  · rw [if_neg h]; exact if_pos (.inr (by omega))
theorem rep_start {N : List Str} {ds : List D} {vs : List V} (hl : ds.length ≤ N.length) (h : DsR cm K c H ds vs) : Rep cm K N.length (col0 N.length c) H (startS N.length ds) (L2.start N vs) := by
  have l2 := dsr_len (ds := ds) (vs := vs) h
  refine ⟨by unfold startS; rw [List.length_append, List.length_map, List.length_replicate]; omega, by unfold L2.start; rw [List.length_append, List.length_map, List.length_replicate]; omega, fun i s e => ?_⟩
  unfold startS at e
  unfold L2.start
  by_cases hi : i < ds.length
  · rw [List.getElem?_append_left (by rw [List.length_map]; exact hi), List.getElem?_map] at e
    rw [List.getElem?_append_left (by rw [List.length_map]; omega), List.getElem?_map]
    obtain ⟨d, hd⟩ : ∃ d, ds[i]? = some d := ⟨ds[i], List.getElem?_eq_getElem hi⟩
    rw [hd] at e
    obtain ⟨v, hv, dv⟩ := dsr_get (ds := ds) (vs := vs) h hd
    refine ⟨some v, by rw [hv]; rfl, ?_⟩
    have e : paramS d = s := Option.some.inj e
    subst e
    have gen : ∀ d, DenR cm K c H d v → (∀ xs, d ≠ .lst xs) → (∀ ks xs, d ≠ .dic ks xs) → RepS cm K N.length (col0 N.length c) H i (some v) (.fr d) := fun d h h1 h2 => ⟨v, rfl, by
      rw [gz_col0]
      cases d with
      | lst xs => exact absurd rfl (h1 xs)
      | dic ks xs => exact absurd rfl (h2 ks xs)
      | _ => exact h⟩
    cases d with
    | lst xs => exact ⟨v, rfl, by unfold DenB; rw [gb_col0, gz_col0]; exact dv⟩
    | dic ks xs => exact ⟨v, rfl, by unfold DenB; rw [gb_col0, gz_col0]; exact dv⟩
    | _ => exact gen _ dv (fun _ z => D.noConfusion z) (fun _ _ z => D.noConfusion z)
  · rw [List.getElem?_append_right (by rw [List.length_map]; omega), List.getElem?_replicate] at e
    by_cases hj : i - (ds.map paramS).length < N.length - ds.length
    · rw [if_pos hj] at e
      cases e
      rw [List.length_map] at hj
      refine ⟨none, ?_, trivial⟩
      rw [List.getElem?_append_right (by rw [List.length_map]; omega), List.getElem?_replicate, List.length_map, if_pos (by omega)]
    · rw [if_neg hj] at e; cases e
/-- back in the caller's colours -/
def colB (H : Hp) (c c' : Col) : Col := fun a => match H a with | some _ => c a | none => c' a
theorem colB_old {c' : Col} {a : Addr} {o : HO} (h : H a = some o) : colB H c c' a = c a := by unfold colB; rw [h]
theorem colB_new {c' : Col} {a : Addr} (h : H a = none) : colB H c c' a = c' a := by unfold colB; rw [h]
theorem back_ext {c' : Col} {H' : Hp} (s : Stp n (col0 n c) c' H H') : Ext c (colB H c c') H H' := fun a o h => ⟨colB_old h, by
  by_cases q : c a = 0
  · exact ((s a o h).2.1 (by unfold col0; rw [if_pos q])).2
  · exact ((s a o h).2.2 (by unfold col0; rw [if_neg q]; omega)).2⟩
theorem back_gz {c' : Col} {H' : Hp} (s : Stp n (col0 n c) c' H H') : ∀ a o, Gz c' H' a = some o → Gz (colB H c c') H' a = some o := fun a o h => by
  obtain ⟨h1, h2⟩ := Gz.to h
  refine Gz.of ?_ h2
  cases q : H a with
  | none => rw [colB_new q]; exact h1
  | some u =>
    rw [colB_old q]
    by_cases z : c a = 0
    · exact z
    · have := ((s a u q).2.2 (by unfold col0; rw [if_neg z]; omega)).1
      rw [h1] at this
      unfold col0 at this
      rw [if_neg z] at this
      omega
theorem back_ret {c' : Col} {H' : Hp} {s : S} {v : V} (st : Stp n (col0 n c) c' H H') (h : RtOk cm K n H c' H' s v) : RetOk cm K H (colB H c c') H' s v := by
  cases s with
  | un => exact h
  | bor d => exact h
  | fr d => exact Den.mono (back_gz st) _ _ h
  | own d =>
    obtain ⟨a, e, h1, h2, h3⟩ := h
    have hn : H a = none := by
      rcases h3 with q | q
      · exact q
      · cases z : H a with
        | none => rfl
        | some u =>
          by_cases y : c a = 0
          · exact absurd ((st a u z).2.1 (by unfold col0; rw [if_pos y])).1 h1
          · have := ((st a u z).2.2 (by unfold col0; rw [if_neg y]; omega)).1
            unfold col0 at this
            rw [if_neg y] at this
            omega
    exact ⟨a, e, hn, by rw [colB_new hn]; exact h1, h2.keep (back_gz st) fun o q => q⟩
end

section
variable {P : Program} {w : World} {K : PySem.W.Frag} {mg : Str → Option Value} {base : Heap} {cm : Nat → Addr}
/-- a def's exceptions are its caller's -/
abbrev WD (E : XK) : WX := fun cls d _ H => E cls d H
theorem fn_ok {x qual : Str} {st : Stmt} {f : Addr} {fd : FuncData} {N ps : List Str} {k : Nat} (F' : M Fl) (F : Fun K x qual st f fd) (sc : FnScope N ps (defScope st)) (hps : ps.length ≤ N.length)
    (hbody : ∀ (cdv : Value) (A : Around) (outer : List Env) (s : Shared) (H : Hp) (E : XK), Room k (A.deeper (PyProof.Rows.envOfC qual (defScope st) s.heap.objs.size f cdv)) →
      ∃ t, VSs cm (cxOf (L2.CX P w) P w K mg base N qual (defScope st) f cdv A outer s H E) (WD E) (defBody st) t F') : FnOk P w K mg base (L2.CX P w) (k + 1) f fd ps (spV cm K ps.length (runF N.length F')) := by
  refine F.okX sc (fun vs H Q E h => ?_) (fun cdv A outer s H vs Q E hr h => ?_)
  · obtain ⟨c, ds, hl, hd, _⟩ := h
    rw [← dsr_len (ds := ds) (vs := vs) hd]
    exact hl
  · obtain ⟨c, ds, hl, hd, q⟩ := h
    obtain ⟨t, ht⟩ := hbody cdv A outer s H E hr
    have hlN : ds.length ≤ N.length := by omega
    refine ⟨t, ht.pe, ht.sem _ _ _ _ _ (rep_start hlN hd) ?_⟩
    show QS cm K N.length (WD E) _ (startS N.length ds) (L2.start N vs) (col0 N.length c) H (F' (startS N.length ds))
    unfold runF at q
    cases e : F' (startS N.length ds) with
    | bad => rw [e] at q; exact q.elim
    | exc k ρ' => rw [e] at q; exact fun c' σ' H' s _ _ => q _ H' (back_ext s)
    | ok y ρ' =>
      rw [e] at q
      cases y with
      | bk => exact q.elim
      | ct => exact q.elim
      | nx => exact fun c' σ' H' s _ _ => q _ H' .non (back_ext s) rfl
      | rt z => exact fun c' H' v s r => q _ H' v (back_ext s) (back_ret s r)
/-- a def as it is called -/
structure Fn (P : Program) (w : World) (K : PySem.W.Frag) (mg : Str → Option Value) (base : Heap) (cm : Nat → Addr) (j : Nat) (x : Str) (m : Nat) (φ : List D → Out) : Prop where
  ex : ∃ f fd ps, ps.length = m ∧ FnOk P w K mg base (L2.CX P w) j f fd ps (spV cm K m φ) ∧ mg x = some (.ref f) ∧ PySem.W.keepIn K (.ref f) = true ∧ Binds K fd ps []
end

/-! ### calls of defs -/
def outHd : Out → List S → R Hd
  | .ret (.fr d), ρ => .ok (.val d) ρ
  | .ret (.own d), ρ => .ok (.new d) ρ
  | .exc k, ρ => .exc k ρ
  | _, _ => .bad
def callM (m : Nat) (φ : List D → Out) (ds : List D) : M Hd := fun ρ => if ds.length = m then outHd (φ ds) ρ else .bad
def eCall (m : Nat) (φ : List D → Out) (f : M (List Hd)) : M Hd := f >>= fun hs => rds hs >>= fun ds => callM m φ ds
section
variable {cm : Nat → Addr} {X : Cx} {W : WX} {K : PySem.W.Frag} {n : Nat}
theorem sem_call {m : Nat} {φ : List D → Out} {t : TA} {f : M (List Hd)} (h : Sem cm K n W (HsOk cm K n) t f) : Sem cm K n W (HdOk cm K n) (tCallS (spV cm K m φ) (WE W) t) (eCall m φ f) := by
  refine Sem.bind (u := fun vs σ H1 Q => spV cm K m φ vs H1 Q (WE W σ)) h ?_
  intro ρ₀ c₀ H₀ a x ρ c σ H Q s0 r0 hx q
  dsimp only at q
  rw [M.bind_run] at q
  rcases rds_ok r0 hx with ⟨ds, e, hd⟩ | e
  case inr => rw [e] at q; exact q.elim
  rw [e] at q
  dsimp only [callM] at q
  by_cases hl : ds.length = m
  case neg => rw [if_neg hl] at q; exact q.elim
  rw [if_pos hl] at q
  refine ⟨c, ds, hl, hd, ?_⟩
  cases eo : φ ds with
  | bad => rw [eo] at q; exact q.elim
  | exc k => rw [eo] at q; exact fun c' H' ex => q c' H' (s0.app ex.stp) (r0.ext ex)
  | ret s =>
    rw [eo] at q
    cases s with
    | un => exact q.elim
    | bor d => exact q.elim
    | fr d => exact fun c' H' v ex hv => q c' H' v (s0.app ex.stp) (r0.ext ex) hv
    | own d =>
      intro c' H' v ex hv
      obtain ⟨p, ev, hp, hc, ct⟩ := hv
      have ex2 : Ext c (cset c' p (n + 1)) H H' := fun b o h => by
        have ne : b ≠ p := ne_of_none h hp
        exact ⟨by rw [cset_ne ne]; exact (ex b o h).1, (ex b o h).2⟩
      exact q _ H' v (s0.app ex2.stp) (r0.ext ex2) ⟨p, ev, s0.st.free hp, cset_same, ct.keep (gz_recol hc) fun o q => q⟩
theorem ve_call {j m : Nat} {x : Str} {φ : List D → Out} {e : Expr} {es : List Expr} {t : TA} {f : M (List Hd)} {p pos : Pos} (F : Fn X.prog X.w X.K X.mg X.base cm j x m φ) (hr : Room j X.A) (hx : ∀ σ, PassesAt (L2.CX X.prog X.w) X σ (WE W σ)) (ha : VA cm X W (e :: es) t f)
    (hg : Gl X x := by rfl) (hdb : (x == ("__debug__" : Str)) = false := by decide) (he : starEach (e :: es) X.env = (false, eval e X.env) :: starEach es X.env := by rfl) (hpl : (backTo pos (starEach es X.env)).any (·.1) = false := by rfl) :
    VE cm X W (.Call (.Name x p) (e :: es) [] pos) (tCallS (spV cm X.K m φ) (WE W) t) (eCall m φ f) := by
  obtain ⟨fa, fd, ps, hl, Fk, hm, hk, hb⟩ := F.ex
  exact ⟨pe_callS Fk hr hg hm hk hb hx ha.pe hdb he hpl, sem_call ha.sem⟩
theorem ve_call0 {E : XK} {j : Nat} {x : Str} {φ : List D → Out} {p pos : Pos} (F : Fn X.prog X.w X.K X.mg X.base cm j x 0 φ) (hr : Room j X.A) (hx : Passes (L2.CX X.prog X.w) X E)
    (hg : Gl X x := by rfl) (hdb : (x == ("__debug__" : Str)) = false := by decide) : VE cm X (WD E) (.Call (.Name x p) [] [] pos) (tCall (spV cm X.K 0 φ) [] E tNil) (eCall 0 φ eNil) := by
  obtain ⟨fa, fd, ps, hl, Fk, hm, hk, hb⟩ := F.ex
  refine ⟨pe_call0 Fk hr hg hm hk hb .nil hx hdb, ?_⟩
  exact sem_call (W := WD E) (m := 0) va_nil.sem

/-! ### raise -/
def sRaise (k : Nat) : M Fl := fun ρ => .exc k ρ
theorem vs_raise (k : Nat) {x m : Str} {jj : Nat} {p p2 pos pos2 : Pos} {bmB : List Value} {B newId initId : String} (hc : X.calm = true) (tk : Takes X W) (Fb : ExcBaseFacts B newId initId bmB) (q : PySem.W.excIn X.K (cm k) bmB newId = true) (gC : X.mg x = some (.ref (cm k)))
    (kC : PySem.W.keepIn X.K (.ref (cm k)) = true) (r : Raises X (.ref (cm k))) (hg : Gl X x := by rfl) (hdb : (x == ("__debug__" : Str)) = false := by decide) :
    VS cm X W (.Raise (some (.Call (.Name x p) [.Constant (.str m) jj p2] [] pos)) none pos2) (fun _ σ H => W (.ref (cm k)) none σ H) (sRaise k) :=
  ⟨ps_raise hc tk (pmk_own Fb q gC kC r hg hdb), fun ρ c σ H Dn r q => q c σ H Stp.refl Kp.refl r⟩
end
end Vi

/-! ## ViOps -/
set_option Elab.async false
set_option linter.all false
set_option maxRecDepth 100000
set_option maxHeartbeats 2000000
namespace Vi
open PySem L2

section
variable {cm : Nat → Addr} {X : Cx} {W : WX} {K : PySem.W.Frag} {n : Nat} {c : Col} {H : Hp}
theorem den_int {i : Int} {x : V} (h : DenR cm K c H (.int i) x) : x = .int i := h
theorem den_bl {i : Bool} {x : V} (h : DenR cm K c H (.bl i) x) : x = .bl i := h
theorem den_str {i : List Nat} {x : V} (h : DenR cm K c H (.str i) x) : x = .str ⟨i.toArray⟩ := h
theorem den_non {x : V} (h : DenR cm K c H .non x) : x = .non := h
theorem hv_int {i : Int} : HdV cm K n H c H (.val (.int i)) (.int i) := rfl
theorem hv_bl {i : Bool} : HdV cm K n H c H (.val (.bl i)) (.bl i) := rfl
theorem hv_str {i : List Nat} : HdV cm K n H c H (.val (.str i)) (.str ⟨i.toArray⟩) := rfl
theorem str_len (s : List Nat) : (⟨s.toArray⟩ : Str).length = s.length := by show s.toArray.size = s.length; simp
theorem str_app (s t : List Nat) : ((⟨s.toArray⟩ : Str) ++ ⟨t.toArray⟩) = ⟨(s ++ t).toArray⟩ := by
  show (⟨s.toArray ++ t.toArray⟩ : Str) = _
  rw [List.append_toArray]
theorem sline_str {k : Nat} (h : k ≤ SLine) : k ≤ sizeLine := Nat.le_trans h sline

/-! ### arithmetic -/
def gI (f : Int → Int → Option Hd) : D → D → Option Hd | .int i, .int j => f i j | _, _ => none
def okI (i : Int) : Option Hd := some (.val (.int i))
def okB (b : Bool) : Option Hd := some (.val (.bl b))
theorem gI_cases {f : Int → Int → Option Hd} {d e : D} {h : Hd} (hg : gI f d e = some h) : ∃ i j, d = .int i ∧ e = .int j ∧ f i j = some h := by
  unfold gI at hg
  split at hg
  · exact ⟨_, _, rfl, rfl, hg⟩
  · cases hg
/-- rules on two ints -/
theorem opsI {C : Int → Int → Prop} {g : Int → Int → V} {f : Int → Int → Option Hd} (h : ∀ i j h, f i j = some h → C i j ∧ ∃ d, h = .val d ∧ ∀ G, Den cm K G d (g i j)) : OpS cm K n (rI C g) (gI f) := by
  intro c H d e x y hh Q hd he hg k
  obtain ⟨i, j, e1, e2, e3⟩ := gI_cases hg
  subst e1 e2
  obtain ⟨h1, d, e4, h2⟩ := h i j hh e3
  subst e4
  exact ⟨i, j, den_int hd, den_int he, h1, k c H _ Ext.refl (h2 _)⟩
theorem opsI0 {g : Int → Int → V} {f : Int → Int → Option Hd} (h : ∀ i j h, f i j = some h → ∃ d, h = .val d ∧ ∀ G, Den cm K G d (g i j)) : OpS cm K n (rI0 g) (gI f) := by
  intro c H d e x y hh Q hd he hg k
  obtain ⟨i, j, e1, e2, e3⟩ := gI_cases hg
  subst e1 e2
  obtain ⟨d, e4, h2⟩ := h i j hh e3
  subst e4
  exact ⟨i, j, den_int hd, den_int he, k c H _ Ext.refl (h2 _)⟩
theorem okI_ {i j : Int} {h : Hd} (e : okI i = some h) (q : j = i) : ∃ d, h = .val d ∧ ∀ G, Den cm K G d (.int j) := by cases e; subst q; exact ⟨_, rfl, fun _ => rfl⟩
theorem okB_ {i j : Bool} {h : Hd} (e : okB i = some h) (q : j = i) : ∃ d, h = .val d ∧ ∀ G, Den cm K G d (.bl j) := by cases e; subst q; exact ⟨_, rfl, fun _ => rfl⟩
def aAdd : D → D → Option Hd := gI fun i j => okI (i + j)
def aSub : D → D → Option Hd := gI fun i j => okI (i - j)
def aMul : D → D → Option Hd := gI fun i j => if Builtin.Int.intBits i + Builtin.Int.intBits j ≤ 134217728 then okI (i * j) else none
def aFdiv : D → D → Option Hd := gI fun i j => if 0 < j ∧ j < 1073741824 then okI (i / j) else none
def aMod : D → D → Option Hd := gI fun i j => if 0 < j then okI (i % j) else none
def aPow : D → D → Option Hd := gI fun i j => if 0 ≤ j ∧ j ≤ 1000000 ∧ i.natAbs < 2 ^ 64 then okI (i ^ j.toNat) else none
def aShr : D → D → Option Hd := gI fun i j => if 0 ≤ j then okI (i / 2 ^ j.toNat) else none
theorem s_sub : OpS cm K n (rI0 fun i j => .int (i - j)) aSub := opsI0 fun i j h e => okI_ e rfl
theorem s_add : OpS cm K n (rI0 fun i j => .int (i + j)) aAdd := opsI0 fun i j h e => okI_ e rfl
theorem s_mulI : OpS cm K n (rI CMulX fun i j => .int (i * j)) aMul := opsI fun i j h e => by
  by_cases q : Builtin.Int.intBits i + Builtin.Int.intBits j ≤ 134217728
  · rw [if_pos q] at e; exact ⟨by unfold CMulX; omega, okI_ e rfl⟩
  · rw [if_neg q] at e; cases e
theorem s_fdiv : OpS cm K n (rI CDiv fun i j => .int (i / j)) aFdiv := opsI fun i j h e => by
  by_cases q : 0 < j ∧ j < 1073741824
  · rw [if_pos q] at e; exact ⟨q, okI_ e rfl⟩
  · rw [if_neg q] at e; cases e
theorem s_mod : OpS cm K n (rI (fun _ j => 0 < j) fun i j => .int (i % j)) aMod := opsI fun i j h e => by
  by_cases q : 0 < j
  · rw [if_pos q] at e; exact ⟨q, okI_ e rfl⟩
  · rw [if_neg q] at e; cases e
theorem s_pow : OpS cm K n (rI CPow fun i j => .int (i ^ j.toNat)) aPow := opsI fun i j h e => by
  by_cases q : 0 ≤ j ∧ j ≤ 1000000 ∧ i.natAbs < 2 ^ 64
  · rw [if_pos q] at e; exact ⟨q, okI_ e rfl⟩
  · rw [if_neg q] at e; cases e
theorem s_shr : OpS cm K n (rI (fun _ j => 0 ≤ j) fun i j => .int (i / 2 ^ j.toNat)) aShr := opsI fun i j h e => by
  by_cases q : 0 ≤ j
  · rw [if_pos q] at e; exact ⟨q, okI_ e rfl⟩
  · rw [if_neg q] at e; cases e
/-- texts, lists together -/
def aCatS : D → D → Option Hd | .str s, .str t => if s.length + t.length ≤ SLine then some (.val (.str (s ++ t))) else none | _, _ => none
def rAddS : R2 := fun x y H Q => ∃ i j, x = .str i ∧ y = .str j ∧ i.length + j.length ≤ sizeLine ∧ Q (.str (i ++ j)) H
theorem s_addS : OpS cm K n rAddS aCatS := by
  intro c H d e x y hh Q hd he hg k
  unfold aCatS at hg
  split at hg
  · rename_i s t
    by_cases q : s.length + t.length ≤ SLine
    · rw [if_pos q] at hg
      cases hg
      exact ⟨_, _, den_str hd, den_str he, by rw [str_len, str_len]; exact sline_str q, by rw [str_app]; exact k c H _ Ext.refl hv_str⟩
    · rw [if_neg q] at hg; cases hg
  · cases hg
def aCatL : D → D → Option Hd | .lst s, .lst t => if s.length + t.length ≤ SLine then some (.new (.lst (s ++ t))) else none | _, _ => none
theorem s_addL : OpS cm K n rCat aCatL := by
  intro c H d e x y hh Q hd he hg k
  unfold aCatL at hg
  split at hg
  · rename_i s t
    by_cases q : s.length + t.length ≤ SLine
    · rw [if_pos q] at hg
      cases hg
      obtain ⟨a, vs, e1, h1, h2⟩ := hd
      obtain ⟨b, us, e2, h3, h4⟩ := he
      have l1 := h2.length
      have l2 := h4.length
      refine ⟨a, b, vs, us, e1, e2, h1, h3, sline_str (by omega), fun p hp => ?_⟩
      exact k _ _ _ (Ext.alloc hp) (hdv_new_lst hp (h2.append h4))
    · rw [if_neg q] at hg; cases hg
  · cases hg
def aPlus : D → D → Option Hd := fun d e => (aAdd d e).or ((aCatS d e).or (aCatL d e))
theorem o_add : OpR X (binaryOp .Add) (fun x y H Q => rI0 (fun i j => .int (i + j)) x y H Q ∨ rAddS x y H Q ∨ rCat x y H Q) := op_add.or (OpR.or (r := rAddS) op_add_str op_cat)
theorem s_plus : OpS cm K n (fun x y H Q => rI0 (fun i j => .int (i + j)) x y H Q ∨ rAddS x y H Q ∨ rCat x y H Q) aPlus := s_add.or (s_addS.or s_addL)
/-- a text, a list times a number -/
def repL {α : Type} (s : List α) (k : Int) : List α := (List.replicate k.toNat s).flatten
def aRepS : D → D → Option Hd | .str s, .int k => if 0 ≤ k ∧ k ≤ 1000 ∧ s.length * k.toNat ≤ SLine then some (.val (.str (repL s k))) else none | _, _ => none
def rRepS : R2 := fun x y H Q => ∃ s k, x = .str ⟨s.toArray⟩ ∧ y = .int k ∧ 0 ≤ k ∧ k ≤ 1000 ∧ s.length * k.toNat ≤ SLine ∧ Q (.str ⟨(repL s k).toArray⟩) H
theorem fold_rep (s : List Nat) : ∀ m : Nat, ∀ a : Array Nat, (List.replicate m s.toArray).foldl (· ++ ·) a = a ++ ((List.replicate m s).flatten).toArray
  | 0, a => by simp
  | m + 1, a => by
    rw [List.replicate_succ, List.foldl_cons, fold_rep s m, List.replicate_succ, List.flatten_cons]
    apply Array.ext'
    simp
theorem txt_mul (s : List Nat) (k : Int) (h0 : 0 ≤ k) : Txt.mul ⟨s.toArray⟩ k = ⟨(repL s k).toArray⟩ := by
  unfold Txt.mul repL
  by_cases h1 : k < 1
  · rw [if_pos h1]
    have e : k = 0 := by omega
    subst e
    rfl
  · rw [if_neg h1]
    by_cases h2 : (k == 1 || (⟨s.toArray⟩ : Str).length == 0) = true
    · rw [if_pos h2]
      rw [Bool.or_eq_true] at h2
      rcases h2 with h2 | h2
      · have e : k = 1 := by simpa using h2
        subst e
        simp
      · have e : s.length = 0 := by rw [str_len] at h2; simpa using h2
        have e : s = [] := List.eq_nil_of_length_eq_zero e
        subst e
        have e2 : (List.replicate k.toNat ([] : List Nat)).flatten = [] := by simp
        rw [e2]
    · rw [if_neg h2, fold_rep]
      simp
theorem o_repS : OpR X (binaryOp .Mult) rRepS := by
  intro pins s σ H x y v u Q I rx ry h
  obtain ⟨t, k, rfl, rfl, h0, h1, h2, q⟩ := h
  obtain ⟨t1, rfl⟩ := rx
  obtain ⟨t2, rfl⟩ := ry
  have hl : (⟨t.toArray⟩ : Str).length = t.length := str_len t
  have sl := sline
  have slv : SLine = 1000000 := by unfold SLine; rfl
  refine PySem.SB.mul ⟨?_, fun g1 g2 => ?_, fun g1 g2 => ?_⟩ fun t' kk => ?_
  · rw [decide_eq_false (by omega), decide_eq_false (by omega)]; rfl
  · rw [hl]
    intro g3
    have e1 : ((t.length * k.toNat : Nat) : Int) = (t.length : Int) * k := by rw [Int.natCast_mul, Int.toNat_of_nonneg h0]
    have h4 : (t.length : Int) * k ≤ 1000000 := by rw [← e1]; unfold SLine at h2; exact Int.ofNat_le.mpr h2
    have h5 : (2 ^ 63 - 1 : Int) / k < (t.length : Int) := g3
    have h6 := (Int.ediv_lt_iff_lt_mul (by omega : 0 < k)).mp h5
    omega
  · rw [hl]
    exact decide_eq_false (by omega)
  · rw [txt_mul t k h0]
    exact ⟨.str _, H, I.tok kk, ⟨_, rfl⟩, q⟩
theorem s_repS : OpS cm K n rRepS aRepS := by
  intro c H d e x y hh Q hd he hg k
  unfold aRepS at hg
  split at hg
  · rename_i s j
    by_cases q : 0 ≤ j ∧ j ≤ 1000 ∧ s.length * j.toNat ≤ SLine
    · rw [if_pos q] at hg
      cases hg
      exact ⟨s, j, den_str hd, den_int he, q.1, q.2.1, q.2.2, k c H _ Ext.refl hv_str⟩
    · rw [if_neg q] at hg; cases hg
  · cases hg
def aRepL : D → D → Option Hd | .lst s, .int k => if 0 ≤ k ∧ k ≤ 1000 ∧ s.length * k.toNat ≤ SLine then some (.new (.lst (repL s k))) else none | _, _ => none
theorem DenL.rep {G : Hp} {xs : List D} {vs : List V} (h : DenL cm K G xs vs) : ∀ m : Nat, DenL cm K G (List.replicate m xs).flatten (List.replicate m vs).flatten
  | 0 => rfl
  | m + 1 => by
    rw [List.replicate_succ, List.flatten_cons, List.replicate_succ, List.flatten_cons]
    exact h.append (DenL.rep h m)
theorem s_repL : OpS cm K n rRep aRepL := by
  intro c H d e x y hh Q hd he hg k
  unfold aRepL at hg
  split at hg
  · rename_i s j
    by_cases q : 0 ≤ j ∧ j ≤ 1000 ∧ s.length * j.toNat ≤ SLine
    · rw [if_pos q] at hg
      cases hg
      obtain ⟨a, vs, e1, h1, h2⟩ := hd
      have l1 := h2.length
      exact ⟨a, j, vs, e1, den_int he, h1, by omega, by omega, sline_str (by rw [← l1]; exact q.2.2), fun p hp => k _ _ _ (Ext.alloc hp) (hdv_new_lst hp (h2.rep _))⟩
    · rw [if_neg q] at hg; cases hg
  · cases hg
def aTimes : D → D → Option Hd := fun d e => (aMul d e).or ((aRepS d e).or (aRepL d e))
theorem o_mul : OpR X (binaryOp .Mult) (fun x y H Q => rI CMulX (fun i j => .int (i * j)) x y H Q ∨ rRepS x y H Q ∨ rRep x y H Q) := op_mulX.or (o_repS.or op_rep)
theorem s_mul : OpS cm K n (fun x y H Q => rI CMulX (fun i j => .int (i * j)) x y H Q ∨ rRepS x y H Q ∨ rRep x y H Q) aTimes := s_mulI.or (s_repS.or s_repL)

variable {a b : Expr} {ta tb : TE} {fa fb : M Hd} {pos : Pos}
def aNeg : D → Option Hd | .int i => okI (-i) | _ => none
theorem sem_un {r : V → Hp → VK → Prop} {g : D → Option Hd} (hs : UnS cm K n r g) (ha : Sem cm K n W (HdOk cm K n) ta fa) : Sem cm K n W (HdOk cm K n) (tUn r ta) (eUn g fa) := by
  refine Sem.bind (u := fun x σ H1 Q => r x H1 Q) ha ?_
  intro ρ₀ c₀ H₀ a x ρ c σ H Q s0 r0 hx q
  dsimp only at q
  obtain ⟨d1, e1, q⟩ := rd_bind (P := QR cm K n W (HdOk cm K n) Q ρ₀ c₀ H₀ σ) QR.nobad q
  rw [lift_run] at q
  cases eg : g d1 with
  | none => rw [eg] at q; exact q.elim
  | some h =>
    rw [eg] at q
    exact hs c H d1 x h Q (rd_ok r0 hx e1).2 eg fun c' H' v ex hv => q c' H' v (s0.app ex.stp) (r0.ext ex) (hv.hd s0.st)
theorem ve_neg (ha : VE cm X W a ta fa) : VE cm X W (.UnaryOp .USub a pos) (tUn (rU fun i => .int (-i)) ta) (eUn aNeg fa) := ⟨pe_un un_neg ha.pe, sem_un (fun c H d x h Q hd hg k => by
  unfold aNeg at hg
  split at hg
  · cases hg; exact ⟨_, den_int hd, k c H _ Ext.refl hv_int⟩
  · cases hg) ha.sem⟩

/-! ### comparisons -/
def cLt : D → D → Option Hd := gI fun i j => okB (decide (i < j))
def cLe : D → D → Option Hd := gI fun i j => okB (decide (i ≤ j))
def cGt : D → D → Option Hd := gI fun i j => okB (decide (j < i))
def cGeI : D → D → Option Hd := gI fun i j => okB (decide (j ≤ i))
theorem s_lt : OpS cm K n (rI0 fun i j => .bl (decide (i < j))) cLt := opsI0 fun i j h e => okB_ e rfl
theorem s_le : OpS cm K n (rI0 fun i j => .bl (decide (i ≤ j))) cLe := opsI0 fun i j h e => okB_ e rfl
theorem s_gt : OpS cm K n (rI0 fun i j => .bl (decide (j < i))) cGt := opsI0 fun i j h e => okB_ e rfl
theorem s_geI : OpS cm K n (rI0 fun i j => .bl (decide (j ≤ i))) cGeI := opsI0 fun i j h e => okB_ e rfl
def cGeS : D → D → Option Hd | .str s, .str t => okB (!decide (s < t)) | _, _ => none
def rGeS : R2 := fun x y H Q => ∃ i j, x = .str i ∧ y = .str j ∧ Q (.bl (!decide (i.cps.toList < j.cps.toList))) H
theorem s_geS : OpS cm K n rGeS cGeS := by
  intro c H d e x y hh Q hd he hg k
  unfold cGeS at hg
  split at hg
  · cases hg
    exact ⟨_, _, den_str hd, den_str he, k c H _ Ext.refl hv_bl⟩
  · cases hg
def cGe : D → D → Option Hd := fun d e => (cGeI d e).or (cGeS d e)
theorem o_ge : OpR X (compareOp .GtE) (fun x y H Q => rI0 (fun i j => .bl (decide (j ≤ i))) x y H Q ∨ rGeS x y H Q) := op_ge.or op_ge_str
theorem s_ge : OpS cm K n (fun x y H Q => rI0 (fun i j => .bl (decide (j ≤ i))) x y H Q ∨ rGeS x y H Q) cGe := s_geI.or s_geS

/-! == by plain data -/
mutual
def toPy : D → PyData
  | .non => .none
  | .bl b => .bool b
  | .int i => .int i
  | .str s => .str ⟨s.toArray⟩
  | .lst xs => .list (toPys xs)
  | .tup xs => .tuple (toPys xs)
  | _ => .dict []
def toPys : List D → List PyData
  | [] => []
  | d :: ds => toPy d :: toPys ds
end
mutual
def okD : D → Bool
  | .non => true
  | .bl _ => true
  | .int _ => true
  | .str s => s.all (· < 0x110000)
  | .lst xs => okDs xs
  | .tup xs => okDs xs
  | _ => false
def okDs : List D → Bool
  | [] => true
  | d :: ds => okD d && okDs ds
end
mutual
def depD : D → Nat
  | .lst xs => depDs xs + 1
  | .tup xs => depDs xs + 1
  | _ => 0
def depDs : List D → Nat
  | [] => 0
  | d :: ds => max (depD d) (depDs ds)
end
mutual
theorem okD_lay : ∀ d : D, okD d = true → PyData.canLay0 (toPy d) = true
  | .non, h => rfl
  | .bl b, h => rfl
  | .int i, h => rfl
  | .str s, h => by
    show PyData.strOk _ = true
    unfold PyData.strOk
    have h : s.all (· < 0x110000) = true := h
    simpa using h
  | .lst xs, h => okDs_lay xs h
  | .tup xs, h => okDs_lay xs h
  | .dic ks xs, h => by cases (show false = true from h)
  | .obj k ns xs, h => by cases (show false = true from h)
  | .ty t, h => by cases (show false = true from h)
  | .cls k, h => by cases (show false = true from h)
  | .scr ns, h => by cases (show false = true from h)
theorem okDs_lay : ∀ ds : List D, okDs ds = true → PyData.canLayAll0 (toPys ds) = true
  | [], h => rfl
  | d :: ds, h => by
    have h : (okD d && okDs ds) = true := h
    rw [Bool.and_eq_true] at h
    show (PyData.canLay0 (toPy d) && PyData.canLayAll0 (toPys ds)) = true
    rw [okD_lay d h.1, okDs_lay ds h.2]; rfl
end
mutual
theorem depD_eq : ∀ d : D, okD d = true → PyData.depth (toPy d) = depD d
  | .non, h => rfl
  | .bl b, h => rfl
  | .int i, h => rfl
  | .str s, h => rfl
  | .lst xs, h => congrArg (· + 1) (depDs_eq xs h)
  | .tup xs, h => congrArg (· + 1) (depDs_eq xs h)
  | .dic ks xs, h => by cases (show false = true from h)
  | .obj k ns xs, h => by cases (show false = true from h)
  | .ty t, h => by cases (show false = true from h)
  | .cls k, h => by cases (show false = true from h)
  | .scr ns, h => by cases (show false = true from h)
theorem depDs_eq : ∀ ds : List D, okDs ds = true → PyData.depthAll (toPys ds) = depDs ds
  | [], h => rfl
  | d :: ds, h => by
    have h : (okD d && okDs ds) = true := h
    rw [Bool.and_eq_true] at h
    show max (PyData.depth (toPy d)) (PyData.depthAll (toPys ds)) = max (depD d) (depDs ds)
    rw [depD_eq d h.1, depDs_eq ds h.2]
end
mutual
theorem dp_of {G : Hp} : ∀ (d : D) (v : V), okD d = true → Den cm K G d v → Dp K G v (toPy d)
  | .non, v, h, e => by cases (show v = .non from e); exact .non
  | .bl b, v, h, e => by cases (show v = .bl b from e); exact .bl b
  | .int i, v, h, e => by cases (show v = .int i from e); exact .int i
  | .str s, v, h, e => by cases (show v = .str ⟨s.toArray⟩ from e); exact .str _
  | .lst xs, v, h, ⟨a, vs, e, h1, h2⟩ => by subst e; exact .lst (SqL.of h1) (dps_of xs vs h h2)
  | .tup xs, v, h, ⟨a, vs, e, h1, h2⟩ => by subst e; exact .tup (SqT.of h1) (dps_of xs vs h h2)
  | .dic ks xs, v, h, _ => by cases (show false = true from h)
  | .obj k ns xs, v, h, _ => by cases (show false = true from h)
  | .ty t, v, h, _ => by cases (show false = true from h)
  | .cls k, v, h, _ => by cases (show false = true from h)
  | .scr ns, v, h, _ => by cases (show false = true from h)
theorem dps_of {G : Hp} : ∀ (ds : List D) (vs : List V), okDs ds = true → DenL cm K G ds vs → DpAll K G vs (toPys ds)
  | [], vs, h, e => by cases (show vs = [] from e); exact .nil
  | d :: ds, vs, h, ⟨v, r, e, h1, h2⟩ => by
    subst e
    have h : (okD d && okDs ds) = true := h
    rw [Bool.and_eq_true] at h
    exact .cons (dp_of d v h.1 h1) (dps_of ds r h.2 h2)
end
mutual
theorem Dp.up {G G' : Hp} (e : ∀ a o, G a = some o → G' a = some o) : ∀ (p : PyData) (v : V), Dp K G v p → Dp K G' v p
  | .none, _, .non => .non
  | .bool _, _, .bl b => .bl b
  | .int _, _, .int i => .int i
  | .str _, _, .str s => .str s
  | .list ds, _, .lst h1 h2 => .lst (sql_mono e h1) (Dp.ups e ds _ h2)
  | .tuple ds, _, .tup h1 h2 => .tup (sqt_mono e h1) (Dp.ups e ds _ h2)
  | .dict kvs, _, h => nomatch h
theorem Dp.ups {G G' : Hp} (e : ∀ a o, G a = some o → G' a = some o) : ∀ (ps : List PyData) (vs : List V), DpAll K G vs ps → DpAll K G' vs ps
  | [], _, .nil => .nil
  | p :: ps, _, .cons h1 h2 => .cons (Dp.up e p _ h1) (Dp.ups e ps _ h2)
end
theorem dp_r {d : D} {v : V} (h : okD d = true) (e : DenR cm K c H d v) : Dp K H v (toPy d) := by
  cases d with
  | lst xs => obtain ⟨a, vs, e1, h1, h2⟩ := e; subst e1; exact .lst (SqL.of h1) (Dp.ups gz_sub _ _ (dps_of xs vs h h2))
  | dic ks xs => cases (show false = true from h)
  | non => exact Dp.up (G := Gz c H) gz_sub _ _ (dp_of (cm := cm) _ v h e)
  | bl b => exact Dp.up (G := Gz c H) gz_sub _ _ (dp_of (cm := cm) _ v h e)
  | int b => exact Dp.up (G := Gz c H) gz_sub _ _ (dp_of (cm := cm) _ v h e)
  | str b => exact Dp.up (G := Gz c H) gz_sub _ _ (dp_of (cm := cm) _ v h e)
  | tup b => exact Dp.up (G := Gz c H) gz_sub _ _ (dp_of (cm := cm) _ v h e)
  | _ => cases (show false = true from h)
def eqD (d e : D) : Bool := PyData.eqv (toPy d) (toPy e)
def eqG (d e : D) : Option Bool := match d, e with
  | .str s, .str t => some (s == t)
  | .int i, .int j => some (i == j)
  | .bl a, .bl b => some (a == b)
  | d, e => if okD d = true ∧ okD e = true ∧ depD d ≤ 60 ∧ depD e ≤ 60 then some (eqD d e) else none
def cEq (d e : D) : Option Hd := (eqG d e).map fun b => .val (.bl b)
def cNe (d e : D) : Option Hd := (eqG d e).map fun b => .val (.bl !b)
theorem shaped_of {d : D} (h : okD d = true) (h2 : depD d ≤ 60) : SeqAt.shaped (toPy d) = true := by
  unfold SeqAt.shaped
  rw [okD_lay d h, depD_eq d h, decide_eq_true (by omega)]; rfl
theorem str_eq (s t : List Nat) : decide (V.str ⟨s.toArray⟩ = V.str ⟨t.toArray⟩) = (s == t) := by
  rw [Bool.eq_iff_iff]
  simp
theorem eqG_ok {d e : D} {x y : V} {b : Bool} (hd : DenR cm K c H d x) (he : DenR cm K c H e y) (hg : eqG d e = some b) : (scal x y = true ∧ decide (x = y) = b) ∨ (∃ p q, Dp K H x p ∧ Dp K H y q ∧ SeqAt.shaped p = true ∧ SeqAt.shaped q = true ∧ PyData.eqv p q = b) := by
  unfold eqG at hg
  split at hg
  · cases hg; rw [den_str hd, den_str he]; exact .inl ⟨rfl, str_eq _ _⟩
  · cases hg; rw [den_int hd, den_int he]; exact .inl ⟨rfl, dec_int⟩
  · cases hg; rw [den_bl hd, den_bl he]; exact .inl ⟨rfl, dec_bl⟩
  · split at hg
    · rename_i q
      cases hg
      exact .inr ⟨_, _, dp_r q.1 hd, dp_r q.2.1 he, shaped_of q.1 q.2.2.1, shaped_of q.2.1 q.2.2.2, rfl⟩
    · cases hg
theorem s_eq : OpS cm K n (fun x y H Q => rEq x y H Q ∨ rEqD K x y H Q) cEq := by
  intro c H d e x y hh Q hd he hg k
  unfold cEq at hg
  cases q : eqG d e with
  | none => rw [q] at hg; cases hg
  | some b =>
    rw [q] at hg; cases hg
    have kk := k c H (.bl b) Ext.refl hv_bl
    rcases eqG_ok hd he q with ⟨h1, h2⟩ | ⟨p, r, h1, h2, h3, h4, h5⟩
    · exact .inl ⟨h1, by rw [h2]; exact kk⟩
    · exact .inr ⟨p, r, h1, h2, h3, h4, by rw [h5]; exact kk⟩
theorem s_ne : OpS cm K n (fun x y H Q => rNe x y H Q ∨ rNeD K x y H Q) cNe := by
  intro c H d e x y hh Q hd he hg k
  unfold cNe at hg
  cases q : eqG d e with
  | none => rw [q] at hg; cases hg
  | some b =>
    rw [q] at hg; cases hg
    have kk := k c H (.bl !b) Ext.refl hv_bl
    rcases eqG_ok hd he q with ⟨h1, h2⟩ | ⟨p, r, h1, h2, h3, h4, h5⟩
    · exact .inl ⟨h1, by rw [h2]; exact kk⟩
    · exact .inr ⟨p, r, h1, h2, h3, h4, by rw [h5]; exact kk⟩
theorem o_eq (hu : X.A.units + 64 < cLine) : OpR X (compareOp .Eq) (fun x y H Q => rEq x y H Q ∨ rEqD X.K x y H Q) := op_eq.or (op_eqD hu)
theorem o_ne (hu : X.A.units + 64 < cLine) : OpR X (compareOp .NotEq) (fun x y H Q => rNe x y H Q ∨ rNeD X.K x y H Q) := op_ne.or (op_neD hu)

/-! is None -/
def cIsN : D → D → Option Hd | .non, .non => okB true | .int _, .non => okB false | .str _, .non => okB false | .tup _, .non => okB false | .lst _, .non => okB false | .bl _, .non => okB false | .obj _ _ _, .non => okB false | _, _ => none
def cNotN : D → D → Option Hd | .non, .non => okB false | .int _, .non => okB true | .str _, .non => okB true | .tup _, .non => okB true | .lst _, .non => okB true | .bl _, .non => okB true | .obj _ _ _, .non => okB true | _, _ => none
def rIsNo : R2 := fun x y H Q => y = .non ∧ Q (.bl (decide (x = .non))) H
def rNotNo : R2 := fun x y H Q => y = .non ∧ Q (.bl (!decide (x = .non))) H
theorem o_isN : OpR X (compareOp .Is) rIsNo := op_isN
theorem o_notN : OpR X (compareOp .IsNot) rNotNo := op_notN
theorem s_isN : OpS cm K n rIsNo cIsN := by
  intro c H d e x y hh Q hd he hg k
  unfold cIsN at hg
  split at hg
  · cases hg; exact ⟨den_non he, by rw [den_non hd]; exact k c H _ Ext.refl hv_bl⟩
  · cases hg; exact ⟨den_non he, by rw [den_int hd]; exact k c H _ Ext.refl hv_bl⟩
  · cases hg; exact ⟨den_non he, by rw [den_str hd]; exact k c H _ Ext.refl hv_bl⟩
  · cases hg; obtain ⟨a, vs, e1, _⟩ := hd; exact ⟨den_non he, by rw [e1]; exact k c H _ Ext.refl hv_bl⟩
  · cases hg; obtain ⟨a, vs, e1, _⟩ := hd; exact ⟨den_non he, by rw [e1]; exact k c H _ Ext.refl hv_bl⟩
  · cases hg; exact ⟨den_non he, by rw [den_bl hd]; exact k c H _ Ext.refl hv_bl⟩
  · cases hg; obtain ⟨a, dx, vs, e1, _⟩ := hd; exact ⟨den_non he, by rw [e1]; exact k c H _ Ext.refl hv_bl⟩
  · cases hg
theorem s_notN : OpS cm K n rNotNo cNotN := by
  intro c H d e x y hh Q hd he hg k
  unfold cNotN at hg
  split at hg
  · cases hg; exact ⟨den_non he, by rw [den_non hd]; exact k c H _ Ext.refl hv_bl⟩
  · cases hg; exact ⟨den_non he, by rw [den_int hd]; exact k c H _ Ext.refl hv_bl⟩
  · cases hg; exact ⟨den_non he, by rw [den_str hd]; exact k c H _ Ext.refl hv_bl⟩
  · cases hg; obtain ⟨a, vs, e1, _⟩ := hd; exact ⟨den_non he, by rw [e1]; exact k c H _ Ext.refl hv_bl⟩
  · cases hg; obtain ⟨a, vs, e1, _⟩ := hd; exact ⟨den_non he, by rw [e1]; exact k c H _ Ext.refl hv_bl⟩
  · cases hg; exact ⟨den_non he, by rw [den_bl hd]; exact k c H _ Ext.refl hv_bl⟩
  · cases hg; obtain ⟨a, dx, vs, e1, _⟩ := hd; exact ⟨den_non he, by rw [e1]; exact k c H _ Ext.refl hv_bl⟩
  · cases hg

/-! in -/
def flatD : D → Bool | .non => true | .bl _ => true | .int _ => true | .str _ => true | _ => false
def eqF : D → D → Bool
  | .non, .non => true
  | .bl a, .bl b => a == b
  | .bl a, .int b => (if a then 1 else 0) == b
  | .int a, .bl b => a == (if b then 1 else 0)
  | .int a, .int b => a == b
  | .str a, .str b => a == b
  | _, _ => false
def inD (x : D) (xs : List D) : Bool := xs.any fun y => eqF y x
theorem flat_v {G : Hp} {d : D} {v : V} (h : flatD d = true) (e : Den cm K G d v) : flatV v = true := by
  cases d with
  | non => cases (show v = .non from e); rfl
  | bl b => cases (show v = .bl b from e); rfl
  | int i => cases (show v = .int i from e); rfl
  | str s => cases (show v = .str ⟨s.toArray⟩ from e); rfl
  | _ => cases h
theorem eqF_v {G G' : Hp} {d e : D} {v u : V} (h : flatD d = true) (h' : flatD e = true) (hd : Den cm K G d v) (he : Den cm K G' e u) : eqV v u = eqF d e := by
  cases d with
  | non => cases (show v = .non from hd); cases e with
    | non => cases (show u = .non from he); rfl
    | bl b => cases (show u = .bl b from he); rfl
    | int i => cases (show u = .int i from he); rfl
    | str s => cases (show u = .str ⟨s.toArray⟩ from he); rfl
    | _ => cases h'
  | bl b => cases (show v = .bl b from hd); cases e with
    | non => cases (show u = .non from he); rfl
    | bl b => cases (show u = .bl b from he); rfl
    | int i => cases (show u = .int i from he); rfl
    | str s => cases (show u = .str ⟨s.toArray⟩ from he); rfl
    | _ => cases h'
  | int i => cases (show v = .int i from hd); cases e with
    | non => cases (show u = .non from he); rfl
    | bl b => cases (show u = .bl b from he); rfl
    | int i => cases (show u = .int i from he); rfl
    | str s => cases (show u = .str ⟨s.toArray⟩ from he); rfl
    | _ => cases h'
  | str s => cases (show v = .str ⟨s.toArray⟩ from hd); cases e with
    | non => cases (show u = .non from he); rfl
    | bl b => cases (show u = .bl b from he); rfl
    | int i => cases (show u = .int i from he); rfl
    | str t =>
      cases (show u = .str ⟨t.toArray⟩ from he)
      show ((⟨s.toArray⟩ : Str) == ⟨t.toArray⟩) = (s == t)
      rw [Bool.eq_iff_iff]; simp
    | _ => cases h'
  | _ => cases h
theorem in_v {G G' : Hp} {x : D} {v : V} (h : flatD x = true) (hx : Den cm K G' x v) : ∀ {xs : List D} {vs : List V}, xs.all flatD = true → DenL cm K G xs vs → vs.all flatV = true ∧ inV v vs = inD x xs
  | [], vs, _, e => by cases (show vs = [] from e); exact ⟨rfl, rfl⟩
  | d :: ds, vs, hf, ⟨u, r, e, h1, h2⟩ => by
    subst e
    rw [List.all_cons, Bool.and_eq_true] at hf
    obtain ⟨g1, g2⟩ := in_v h hx hf.2 h2
    refine ⟨by rw [List.all_cons, flat_v hf.1 h1, g1]; rfl, ?_⟩
    show (eqV u v || inV v r) = (eqF d x || inD x ds)
    rw [eqF_v hf.1 h h1 hx, g2]
/-! a dict whose keys are texts -/
def kget {α : Type} : List (List Nat) → List α → List Nat → Option α
  | k :: ks, v :: vs, s => if k = s then some v else kget ks vs s
  | _, _, _ => none
theorem str_mk {s t : List Nat} : (⟨s.toArray⟩ : Str) = ⟨t.toArray⟩ ↔ s = t := by simp
theorem kys_val (s : List Nat) : ∀ (ks : List (List Nat)) (vs : List V), valV (kys ks vs) (Sum.inr ⟨s.toArray⟩) = kget ks vs s
  | [], vs => rfl
  | k :: ks, [] => rfl
  | k :: ks, v :: vs => by
    have e : kys (k :: ks) (v :: vs) = ((Sum.inr ⟨k.toArray⟩ : Key), v) :: kys ks vs := rfl
    rw [e]
    by_cases h : k = s
    · subst h
      rw [valV_pos rfl]
      show _ = if k = k then some v else _
      rw [if_pos rfl]
    · rw [valV_neg (fun q => h (str_mk.mp (Sum.inr.inj q))), kys_val s ks vs]
      show _ = if k = s then some v else _
      rw [if_neg h]
theorem kget_den {G : Hp} {s : List Nat} {d : D} : ∀ {ks : List (List Nat)} {xs : List D} {vs : List V}, DenL cm K G xs vs → kget ks xs s = some d → ∃ v, kget ks vs s = some v ∧ Den cm K G d v
  | [], xs, vs, h, e => by unfold kget at e; cases e
  | k :: ks, [], vs, h, e => by unfold kget at e; cases e
  | k :: ks, x :: xs, vs, ⟨v, r, e1, h1, h2⟩, e => by
    subst e1
    unfold kget at e ⊢
    by_cases q : k = s
    · rw [if_pos q] at e ⊢; cases e; exact ⟨v, rfl, h1⟩
    · rw [if_neg q] at e ⊢; exact kget_den h2 e
theorem kget_some {α : Type} {s : List Nat} : ∀ {ks : List (List Nat)} {vs : List α}, ks.length = vs.length → (kget ks vs s).isSome = ks.contains s
  | [], [], _ => rfl
  | [], v :: vs, h => by cases h
  | k :: ks, [], h => by cases h
  | k :: ks, v :: vs, h => by
    have h : ks.length = vs.length := by simpa using h
    unfold kget
    rw [List.contains_cons]
    by_cases q : k = s
    · subst q; rw [if_pos rfl]; simp
    · rw [if_neg q, kget_some h]
      have : (s == k) = false := beq_eq_false_iff_ne.mpr fun e => q e.symm
      rw [this]; rfl
theorem dget_of {s : List Nat} {ks : List (List Nat)} {xs : List D} {x y : V} (hd : DenR cm K c H (.dic ks xs) x) (he : DenR cm K c H (.str s) y) : ∃ a vs, x = .ref a ∧ ks.length = vs.length ∧ DenL cm K (Gz c H) xs vs ∧ DGet H a y (kget ks vs s) := by
  obtain ⟨a, vs, e1, h1, h2, h3⟩ := hd
  refine ⟨a, vs, e1, h2, h3, ?_⟩
  rw [← kys_val, den_str he]
  exact DGet.k (k := Sum.inr ⟨s.toArray⟩) h1
def rInD (neg : Bool) : R2 := fun x y H Q => ∃ a o, y = .ref a ∧ DGet H a x o ∧ Q (.bl (if neg then !o.isSome else o.isSome)) H
theorem op_inD (hu : X.A.units + 1 < cLine) : OpR X (compareOp .In) (rInD false) := fun pins s σ H x y v u Q I rx ry h => by
  obtain ⟨a, o, e, g, q⟩ := h
  subst e
  obtain rfl : u = Value.ref a := ry
  exact d_in hu I g rx fun s3 I3 => ⟨.bl o.isSome, H, I3, rfl, q⟩
theorem op_notInD (hu : X.A.units + 1 < cLine) : OpR X (compareOp .NotIn) (rInD true) := fun pins s σ H x y v u Q I rx ry h => by
  obtain ⟨a, o, e, g, q⟩ := h
  subst e
  obtain rfl : u = Value.ref a := ry
  exact d_notIn hu I g rx fun s3 I3 => ⟨.bl (!o.isSome), H, I3, rfl, q⟩
def inG (x y : D) : Option Bool := match x, y with
  | .str [ch], .str s => some (decide (ch ∈ s))
  | .str s, .dic ks _ => some (ks.contains s)
  | x, .lst xs => if flatD x = true ∧ xs.all flatD = true then some (inD x xs) else none
  | x, .tup xs => if flatD x = true ∧ xs.all flatD = true then some (inD x xs) else none
  | _, _ => none
def cIn (d e : D) : Option Hd := (inG d e).map fun b => .val (.bl b)
def cNotIn (d e : D) : Option Hd := (inG d e).map fun b => .val (.bl !b)
theorem inG_ok {d e : D} {x y : V} {b : Bool} (hd : DenR cm K c H d x) (he : DenR cm K c H e y) (hg : inG d e = some b) :
    (∃ a o, y = .ref a ∧ DGet H a x o ∧ o.isSome = b) ∨ (∃ (ch : Nat) (z : Str), x = .str ⟨#[ch]⟩ ∧ y = .str z ∧ decide (ch ∈ z.cps.toList) = b) ∨ (∃ p xs, y = .ref p ∧ (SqL K H p xs ∨ SqT K H p xs) ∧ flatV x = true ∧ xs.all flatV = true ∧ inV x xs = b) := by
  unfold inG at hg
  split at hg
  · cases hg
    exact .inr (.inl ⟨_, _, den_str hd, den_str he, rfl⟩)
  · cases hg
    obtain ⟨a, vs, e1, e2, e3, g⟩ := dget_of he hd
    exact .inl ⟨a, _, e1, g, kget_some e2⟩
  · rename_i xs
    split at hg
    · rename_i q
      cases hg
      obtain ⟨a, vs, e1, h1, h2⟩ := he
      have hx : Den cm K (Gz c H) d x := by cases d <;> first | exact hd | (cases q.1)
      obtain ⟨g1, g2⟩ := in_v q.1 hx q.2 h2
      exact .inr (.inr ⟨a, vs, e1, .inl (SqL.of h1), flat_v q.1 hx, g1, g2⟩)
    · cases hg
  · rename_i xs
    split at hg
    · rename_i q
      cases hg
      obtain ⟨a, vs, e1, h1, h2⟩ := he
      have hx : Den cm K (Gz c H) d x := by cases d <;> first | exact hd | (cases q.1)
      obtain ⟨g1, g2⟩ := in_v q.1 hx q.2 h2
      exact .inr (.inr ⟨a, vs, e1, .inr (SqT.of (Gz.to h1).2), flat_v q.1 hx, g1, g2⟩)
    · cases hg
  · cases hg
def rInSg : R2 := fun x y H Q => ∃ (c : Nat) (z : Str), x = .str ⟨#[c]⟩ ∧ y = .str z ∧ Q (.bl (decide (c ∈ z.cps.toList))) H
def rNotInSg : R2 := fun x y H Q => ∃ (c : Nat) (z : Str), x = .str ⟨#[c]⟩ ∧ y = .str z ∧ Q (.bl (!decide (c ∈ z.cps.toList))) H
theorem o_in (hu : X.A.units + 64 < cLine) : OpR X (compareOp .In) (fun x y H Q => rInD false x y H Q ∨ rInSg x y H Q ∨ rIn X.K false x y H Q) := (op_inD (by omega)).or (OpR.or (r := rInSg) op_in_sign op_in_seq)
theorem o_notIn (hu : X.A.units + 64 < cLine) : OpR X (compareOp .NotIn) (fun x y H Q => rInD true x y H Q ∨ rNotInSg x y H Q ∨ rIn X.K true x y H Q) := (op_notInD (by omega)).or (OpR.or (r := rNotInSg) op_notIn_sign op_notIn_seq)
theorem s_in : OpS cm K n (fun x y H Q => rInD false x y H Q ∨ rInSg x y H Q ∨ rIn K false x y H Q) cIn := by
  intro c H d e x y hh Q hd he hg k
  unfold cIn at hg
  cases q : inG d e with
  | none => rw [q] at hg; cases hg
  | some b =>
    rw [q] at hg; cases hg
    have kk := k c H (.bl b) Ext.refl hv_bl
    rcases inG_ok hd he q with ⟨a, o, h1, h2, h3⟩ | ⟨ch, z, h1, h2, h3⟩ | ⟨p, xs, h1, h2, h3, h4, h5⟩
    · exact .inl ⟨a, o, h1, h2, by rw [if_neg Bool.false_ne_true, h3]; exact kk⟩
    · exact .inr (.inl ⟨ch, z, h1, h2, by rw [h3]; exact kk⟩)
    · exact .inr (.inr ⟨p, xs, h1, h2, h3, h4, by rw [if_neg Bool.false_ne_true, h5]; exact kk⟩)
theorem s_notIn : OpS cm K n (fun x y H Q => rInD true x y H Q ∨ rNotInSg x y H Q ∨ rIn K true x y H Q) cNotIn := by
  intro c H d e x y hh Q hd he hg k
  unfold cNotIn at hg
  cases q : inG d e with
  | none => rw [q] at hg; cases hg
  | some b =>
    rw [q] at hg; cases hg
    have kk := k c H (.bl !b) Ext.refl hv_bl
    rcases inG_ok hd he q with ⟨a, o, h1, h2, h3⟩ | ⟨ch, z, h1, h2, h3⟩ | ⟨p, xs, h1, h2, h3, h4, h5⟩
    · exact .inl ⟨a, o, h1, h2, by rw [if_pos rfl, h3]; exact kk⟩
    · exact .inr (.inl ⟨ch, z, h1, h2, by rw [h3]; exact kk⟩)
    · exact .inr (.inr ⟨p, xs, h1, h2, h3, h4, by rw [if_pos rfl, h5]; exact kk⟩)
end
end Vi

/-! ## ViOps2 -/
set_option Elab.async false
set_option linter.all false
set_option maxRecDepth 100000
set_option maxHeartbeats 2000000
namespace Vi
open PySem L2

section
variable {cm : Nat → Addr} {X : Cx} {W : WX} {K : PySem.W.Frag} {n : Nat} {c : Col} {H : Hp}
/-! ### a subscript -/
def ixD (d i : D) : Option D := match d, i with
  | .lst xs, .int i => atI xs i
  | .tup xs, .int i => atI xs i
  | .str s, .int i => if s.length ≤ SLine then (atI s i).map fun c => .str [c] else none
  | .dic ks xs, .str s => kget ks xs s
  | _, _ => none
def aIx (d i : D) : Option Hd := (ixD d i).map .val
theorem atI_den {G : Hp} {xs : List D} {vs : List V} {i : Int} {d : D} (h : DenL cm K G xs vs) (e : atI xs i = some d) : ∃ v, atI vs i = some v ∧ Den cm K G d v := by
  unfold atI at e ⊢
  rw [h.length] at e
  cases q : ixN vs.length i with
  | none => rw [q] at e; cases e
  | some j => rw [q] at e; exact h.get e
def rIxD : R2 := fun x y H Q => ∃ a v, x = .ref a ∧ DGet H a y (some v) ∧ Q v H
open PyProof.Rows PySem.Spec in
theorem ix_dict (hu : X.A.units + 1 < cLine) : IxR X rIxD := by
  intro value slice pins s σ H x y v u Q I rx ry h hs
  obtain ⟨a, z, e, g, q⟩ := h
  subst e
  obtain rfl : v = Value.ref a := rx
  have fin : wpAny (model X.prog X.w) X.A (getItem (.ref a) u) (EP X pins σ Q) X.xe s := d_getItem hu I g ry fun w' s3 I3 rw' => ⟨z, H, I3, rw', q⟩
  have hT := dict_typeIs I g
  unfold subscriptTail
  refine wpAny_bind ?_
  rw [getitemInPython_of_ne hT.not_modules]
  refine wpAny_bind (wpAny_specialOf hT PySem.F.slot_dict_getitem.lookup ?_)
  have fin2 : wpAny (model X.prog X.w) X.A (subscripted slice false (.ref a) u) (fun r s₃ => wpAny (model X.prog X.w) X.A (letTemporaryGo value (.ref a) r >>= fun _ => pure r) (EP X pins σ Q) X.xe s₃) X.xe s := by
    rw [hs]
    exact wpAny_operating (wpAny_mono fin (fun r s₃ h₃ => wpAny_bind (wpAny_letTemporaryGo (wpAny_pure h₃))) fun _ _ x => x)
  first
    | exact wpAny_pure (wpAny_bind fin2)
    | exact wpAny_pure (wpAny_pure (wpAny_bind fin2))
    | exact wpAny_bind fin2
theorem IxR.or {r r' : R2} (h : IxR X r) (h' : IxR X r') : IxR X (fun x y H Q => r x y H Q ∨ r' x y H Q) := by
  intro value slice pins s σ H x y v u Q I rx ry q hs
  rcases q with q | q
  · exact h value slice pins s σ H x y v u Q I rx ry q hs
  · exact h' value slice pins s σ H x y v u Q I rx ry q hs
def rIxA (K : PySem.W.Frag) : R2 := fun x y H Q => rIx K x y H Q ∨ rIxD x y H Q
theorem s_ix : OpS cm K n (rIxA K) aIx := by
  intro c H d e x y hh Q hd he hg k
  unfold aIx at hg
  cases q : ixD d e with
  | none => rw [q] at hg; cases hg
  | some z =>
    rw [q] at hg; cases hg
    unfold ixD at q
    split at q
    · obtain ⟨a, vs, e1, h1, h2⟩ := hd
      obtain ⟨v, e2, dv⟩ := atI_den h2 q
      exact .inl (.inl ⟨a, vs, _, v, e1, den_int he, SqL.of h1, e2, k c H v Ext.refl dv⟩)
    · obtain ⟨a, vs, e1, h1, h2⟩ := hd
      obtain ⟨v, e2, dv⟩ := atI_den h2 q
      exact .inl (.inr (.inl ⟨a, vs, _, v, e1, den_int he, SqT.of (Gz.to h1).2, e2, k c H v Ext.refl dv⟩))
    · rename_i s i
      by_cases hl : s.length ≤ SLine
      · rw [if_pos hl] at q
        cases q2 : atI s i with
        | none => rw [q2] at q; cases q
        | some ch =>
          rw [q2] at q; cases q
          refine .inl (.inr (.inr ⟨_, i, ch, den_str hd, den_int he, by rw [str_len]; exact sline_str hl, ?_, k c H _ Ext.refl rfl⟩))
          show atI s.toArray.toList i = some ch
          rw [List.toList_toArray]; exact q2
      · rw [if_neg hl] at q; cases q
    · obtain ⟨a, vs, e1, e2, e3, g⟩ := dget_of hd he
      obtain ⟨v, g2, dv⟩ := kget_den e3 q
      rw [g2] at g
      exact .inr ⟨a, v, e1, g, k c H v Ext.refl dv⟩
    · cases q
theorem ve_ix {a b : Expr} {ta tb : TE} {fa fb : M Hd} {pos : Pos} (ha : VE cm X W a ta fa) (hb : VE cm X W b tb fb) (hu : X.A.units + 64 < cLine) (hs : PlainIx b := by exact fun _ _ => rfl) : VE cm X W (.Subscript a b pos) (tOp (rIxA X.K) ta tb) (eOp aIx fa fb) := ⟨pe_ix (IxR.or (r := rIx X.K) ix_seq (ix_dict (by omega))) ha.pe hb.pe hs, sem_op s_ix ha.sem hb.sem⟩

/-! ### slices -/
structure VO (cm : Nat → Addr) (X : Cx) (W : WX) (e : Option Expr) (to : TO) (f : M (Option Int)) : Prop where
  pe : PO X e to
  sem : Sem cm X.K X.N.length W (fun _ _ _ _ (a b : Option Int) => a = b) to f
def oNone : M (Option Int) := pure none
def int? : D → Option Int | .int i => some i | _ => none
def oSome (f : M Hd) : M (Option Int) := f >>= fun h => rd h >>= fun d => M.lift ((int? d).map some)
theorem vo_none : VO cm X W none tNoPart oNone := ⟨po_none, sem_pure (fun _ _ _ q => q) fun _ _ _ => rfl⟩
theorem vo_some {e : Expr} {te : TE} {f : M Hd} (h : VE cm X W e te f) : VO cm X W (some e) (tPart te) (oSome f) := ⟨po_some h.pe, by
  refine Sem.bind (u := fun x σ H1 Q => ∃ i, x = .int i ∧ Q (some i) H1) h.sem ?_
  intro ρ₀ c₀ H₀ a x ρ c σ H Q s0 r0 hx q
  dsimp only at q
  obtain ⟨d1, e1, q⟩ := rd_bind (P := QR cm X.K X.N.length W (fun _ _ _ _ (a b : Option Int) => a = b) Q ρ₀ c₀ H₀ σ) QR.nobad q
  rw [lift_run] at q
  have p1 := (rd_ok r0 hx e1).2
  cases d1 with
  | int i => exact ⟨i, p1, q c H _ s0 r0 rfl⟩
  | _ => exact q.elim⟩
def cut {α : Type} (xs : List α) (lo hi : Option Int) : List α := (xs.drop (HT.sIx xs.length 0 lo)).take (HT.sIx xs.length xs.length hi - HT.sIx xs.length 0 lo)
def slD (d : D) (lo hi : Option Int) : Option Hd := match d with
  | .lst xs => some (.new (.lst (cut xs lo hi)))
  | .str s => if s.length ≤ SLine then some (.val (.str (cut s lo hi))) else none
  | .scr ns => if ns.length ≤ SLine then some (.new (.lst ((cut ns lo hi).map .int))) else none
  | _ => none
def rSl (K : PySem.W.Frag) : V → Option Int → Option Int → Hp → VK → Prop := fun x lo hi H Q => rSlL K x lo hi H Q ∨ rSlS x lo hi H Q
theorem o_sl : SlR X (rSl X.K) := sl_list.or sl_str
theorem cut_map {α β : Type} (f : α → β) (xs : List α) (lo hi : Option Int) : cut (xs.map f) lo hi = (cut xs lo hi).map f := by
  unfold cut
  rw [List.length_map, List.map_take, List.map_drop]
theorem denl_ints {G : Hp} : ∀ ns : List Int, DenL cm K G (ns.map D.int) (ns.map V.int)
  | [] => rfl
  | i :: ns => ⟨.int i, _, rfl, rfl, denl_ints ns⟩
def eSl (f : M Hd) (lo hi : M (Option Int)) : M Hd := f >>= fun h => lo >>= fun l => hi >>= fun u => rd h >>= fun d => M.lift (slD d l u)
theorem ve_slice {e : Expr} {lo hi : Option Expr} {te : TE} {tl th : TO} {f : M Hd} {fl fh : M (Option Int)} {p2 pos : Pos} (h : VE cm X W e te f) (hl : VO cm X W lo tl fl) (hh : VO cm X W hi th fh) :
    VE cm X W (.Subscript e (.Slice lo hi none p2) pos) (tSl (rSl X.K) te tl th) (eSl f fl fh) := ⟨pe_slice o_sl h.pe hl.pe hh.pe, by
  refine Sem.bind (u := fun x σ H1 Q => tl σ H1 fun l H2 => th σ H2 fun u H3 => rSl X.K x l u H3 Q) h.sem ?_
  intro ρ₀ c₀ H₀ a x ρ c σ H Q s0 r0 hx q
  refine hl.sem ρ c σ H _ r0 ?_
  dsimp only at q
  rw [M.bind_run] at q
  cases e : fl ρ with
  | exc k ρ' => rw [e] at q; exact fun c' H' s' r' => q c' H' (s0.trans s') r'
  | bad => rw [e] at q; exact q
  | ok l ρ1 =>
    rw [e] at q
    intro c1 H1 l' s1 r1 hl'
    have hl' : l = l' := hl'
    subst hl'
    refine hh.sem ρ1 c1 σ H1 _ r1 ?_
    dsimp only at q
    rw [M.bind_run] at q
    cases e2 : fh ρ1 with
    | exc k ρ' => rw [e2] at q; exact fun c' H' s' r' => q c' H' ((s0.trans s1).trans s') r'
    | bad => rw [e2] at q; exact q
    | ok u ρ2 =>
      rw [e2] at q
      intro c2 H2 u' s2 r2 hu'
      have hu' : u = u' := hu'
      subst hu'
      dsimp only at q
      have s02 := (s0.trans s1).trans s2
      obtain ⟨d, e3, q⟩ := rd_bind (P := QR cm X.K X.N.length W (HdOk cm X.K X.N.length) Q ρ₀ c₀ H₀ σ) QR.nobad q
      rw [lift_run] at q
      have dr := (rd_ok r2 ((hx.stp s1.st).stp s2.st) e3).2
      cases d with
      | lst xs =>
        obtain ⟨b, vs, e4, h1, h2⟩ := dr
        have e5 : cut xs l u = (xs.drop (HT.sIx vs.length 0 l)).take (HT.sIx vs.length vs.length u - HT.sIx vs.length 0 l) := by unfold cut; rw [h2.length]
        refine .inl ⟨b, vs, e4, SqL.of h1, fun p hp => ?_⟩
        have ex : Ext c2 (cset c2 p (X.N.length + 1)) H2 (upd H2 p (.lst (cutV vs l u))) := Ext.alloc hp
        exact q _ _ _ (s02.app ex.stp) (r2.ext ex) ((hdv_new_lst hp (by rw [e5]; exact (h2.drop _).take _)).hd s02.st)
      | str s =>
        have e9 : slD (.str s) l u = if s.length ≤ SLine then some (Hd.val (.str (cut s l u))) else none := rfl
        rw [e9] at q
        by_cases hz : s.length ≤ SLine
        · rw [if_pos hz] at q
          refine .inr ⟨_, dr, by rw [str_len]; exact sline_str hz, q c2 H2 _ s02 r2 ?_⟩
          show V.str (cutS ⟨s.toArray⟩ l u) = V.str ⟨(cut s l u).toArray⟩
          unfold cutS cut
          rw [str_len]
        · rw [if_neg hz] at q; exact q.elim
      | scr ns =>
        have e9 : slD (.scr ns) l u = if ns.length ≤ SLine then some (Hd.new (.lst ((cut ns l u).map .int))) else none := rfl
        rw [e9] at q
        by_cases hz : ns.length ≤ SLine
        · rw [if_pos hz] at q
          obtain ⟨b, e4, h1⟩ := dr
          refine .inl ⟨b, _, e4, sql_mono gz_sub h1, fun p hp => ?_⟩
          have ex : Ext c2 (cset c2 p (X.N.length + 1)) H2 (upd H2 p (.lst (cutV (ns.map V.int) l u))) := Ext.alloc hp
          refine q _ _ _ (s02.app ex.stp) (r2.ext ex) ((hdv_new_lst hp ?_).hd s02.st)
          have e6 : cutV (ns.map V.int) l u = (cut ns l u).map V.int := cut_map V.int ns l u
          rw [e6]
          exact denl_ints _
        · rw [if_neg hz] at q; exact q.elim
      | _ => exact q.elim⟩

/-! ### built-in calls -/
theorem calls1 {r : List V → Hp → VK → Prop} {g : D → Option Hd} (h : ∀ c H d v hh Q, DenR cm K c H d v → g d = some hh → (∀ c' H' v, Ext c c' H H' → HdV cm K n H c' H' hh v → Q v H') → r [v] H Q) : CallS cm K n r (fun ds => match ds with | [d] => g d | _ => none) := by
  intro c H ds xs hh Q hd hg k
  dsimp only at hg
  split at hg
  · obtain ⟨v, t, e, h1, h2⟩ := hd
    have h2 : t = [] := h2
    rw [e, h2]
    exact h c H _ v hh Q h1 hg k
  · cases hg
theorem calls2 {r : List V → Hp → VK → Prop} {g : D → D → Option Hd} (h : ∀ c H d e v u hh Q, DenR cm K c H d v → DenR cm K c H e u → g d e = some hh → (∀ c' H' v, Ext c c' H H' → HdV cm K n H c' H' hh v → Q v H') → r [v, u] H Q) : CallS cm K n r (fun ds => match ds with | [d, e] => g d e | _ => none) := by
  intro c H ds xs hh Q hd hg k
  dsimp only at hg
  split at hg
  · obtain ⟨v, t, e, h1, u, t2, e2, h2, h3⟩ := hd
    have h3 : t2 = [] := h3
    rw [e, e2, h3]
    exact h c H _ _ v u hh Q h1 h2 hg k
  · cases hg
def f1 (g : D → Option Hd) : List D → Option Hd := fun ds => match ds with | [d] => g d | _ => none
def f2 (g : D → D → Option Hd) : List D → Option Hd := fun ds => match ds with | [d, e] => g d e | _ => none
/-! len -/
def lenD : D → Option Hd
  | .lst xs => okI xs.length
  | .tup xs => okI xs.length
  | .str s => if s.length ≤ SLine then okI s.length else none
  | .scr ns => okI ns.length
  | _ => none
theorem s_len : CallS cm K n (fun xs H Q => ∃ x m, xs = [x] ∧ LenV K x H m ∧ Q (.int m) H) (f1 lenD) := calls1 fun c H d v hh Q hd hg k => by
  unfold lenD at hg
  split at hg
  · cases hg
    obtain ⟨a, vs, e, h1, h2⟩ := hd
    refine ⟨v, vs.length, rfl, by rw [e]; exact .inl ⟨vs, SqL.of h1, rfl⟩, k c H _ Ext.refl ?_⟩
    rw [← h2.length]; rfl
  · cases hg
    obtain ⟨a, vs, e, h1, h2⟩ := hd
    refine ⟨v, vs.length, rfl, by rw [e]; exact .inr ⟨vs, SqT.of (Gz.to h1).2, rfl⟩, k c H _ Ext.refl ?_⟩
    rw [← h2.length]; rfl
  · rename_i s
    by_cases hl : s.length ≤ SLine
    · rw [if_pos hl] at hg; cases hg
      refine ⟨v, s.length, rfl, by rw [den_str hd]; exact ⟨by rw [str_len]; exact sline_str hl, (str_len s).symm⟩, k c H _ Ext.refl rfl⟩
    · rw [if_neg hl] at hg; cases hg
  · rename_i ns
    cases hg
    obtain ⟨a, e, h1⟩ := hd
    refine ⟨v, (ns.map V.int).length, rfl, by rw [e]; exact .inl ⟨_, sql_mono gz_sub h1, rfl⟩, k c H _ Ext.refl ?_⟩
    rw [List.length_map]; rfl
  · cases hg
/-! min, max of two -/
def maxD : D → D → Option Hd := gI fun i j => okI (if j > i then j else i)
def minD : D → D → Option Hd := gI fun i j => okI (if j < i then j else i)
theorem s_max2 : CallS cm K n (fun xs H Q => ∃ i j, xs = [.int i, .int j] ∧ Q (.int (if j > i then j else i)) H) (f2 maxD) := calls2 fun c H d e v u hh Q hd he hg k => by
  obtain ⟨i, j, e1, e2, e3⟩ := gI_cases hg
  subst e1 e2
  cases e3
  exact ⟨i, j, by rw [den_int hd, den_int he], k c H _ Ext.refl rfl⟩
theorem s_min2 : CallS cm K n (fun xs H Q => ∃ i j, xs = [.int i, .int j] ∧ Q (.int (if j < i then j else i)) H) (f2 minD) := calls2 fun c H d e v u hh Q hd he hg k => by
  obtain ⟨i, j, e1, e2, e3⟩ := gI_cases hg
  subst e1 e2
  cases e3
  exact ⟨i, j, by rw [den_int hd, den_int he], k c H _ Ext.refl rfl⟩
/-! all, any, sum -/
def bls? : List D → Option (List Bool)
  | [] => some []
  | .bl b :: ds => (bls? ds).map (b :: ·)
  | _ => none
def ints? : List D → Option (List Int)
  | [] => some []
  | .int b :: ds => (ints? ds).map (b :: ·)
  | _ => none
def strs? : List D → Option (List (List Nat))
  | [] => some []
  | .str b :: ds => (strs? ds).map (b :: ·)
  | _ => none
theorem bls_v {G : Hp} : ∀ {ds : List D} {vs : List V} {bs : List Bool}, DenL cm K G ds vs → bls? ds = some bs → vs = bs.map V.bl
  | [], vs, bs, h, e => by cases e; exact h
  | d :: ds, vs, bs, ⟨v, r, e1, h1, h2⟩, e => by
    cases d with
    | bl b =>
      have e : (bls? ds).map (b :: ·) = some bs := e
      cases q : bls? ds with
      | none => rw [q] at e; cases e
      | some cs =>
        rw [q] at e; cases e
        rw [e1, (show v = .bl b from h1), bls_v h2 q]; rfl
    | _ => exact nomatch (show none = some bs from e)
theorem ints_v {G : Hp} : ∀ {ds : List D} {vs : List V} {bs : List Int}, DenL cm K G ds vs → ints? ds = some bs → vs = bs.map V.int
  | [], vs, bs, h, e => by cases e; exact h
  | d :: ds, vs, bs, ⟨v, r, e1, h1, h2⟩, e => by
    cases d with
    | int b =>
      have e : (ints? ds).map (b :: ·) = some bs := e
      cases q : ints? ds with
      | none => rw [q] at e; cases e
      | some cs =>
        rw [q] at e; cases e
        rw [e1, (show v = .int b from h1), ints_v h2 q]; rfl
    | _ => exact nomatch (show none = some bs from e)
def toS (s : List Nat) : Str := ⟨s.toArray⟩
theorem strs_v {G : Hp} : ∀ {ds : List D} {vs : List V} {bs : List (List Nat)}, DenL cm K G ds vs → strs? ds = some bs → vs = (bs.map toS).map V.str
  | [], vs, bs, h, e => by cases e; exact h
  | d :: ds, vs, bs, ⟨v, r, e1, h1, h2⟩, e => by
    cases d with
    | str b =>
      have e : (strs? ds).map (b :: ·) = some bs := e
      cases q : strs? ds with
      | none => rw [q] at e; cases e
      | some cs =>
        rw [q] at e; cases e
        rw [e1, (show v = .str ⟨b.toArray⟩ from h1), strs_v h2 q]; rfl
    | _ => exact nomatch (show none = some bs from e)
def allD : D → Option Hd | .lst ds => (bls? ds).map fun bs => .val (.bl (bs.all id)) | _ => none
def anyD : D → Option Hd | .lst ds => (bls? ds).map fun bs => .val (.bl (bs.any id)) | _ => none
def sumD : D → Option Hd | .lst ds => (ints? ds).map fun bs => .val (.int bs.sum) | _ => none
theorem s_all : CallS cm K n (rAll K) (f1 allD) := calls1 fun c H d v hh Q hd hg k => by
  unfold allD at hg
  split at hg
  · rename_i ds
    cases q : bls? ds with
    | none => rw [q] at hg; cases hg
    | some bs =>
      rw [q] at hg; cases hg
      obtain ⟨a, vs, e, h1, h2⟩ := hd
      have e2 := bls_v h2 q
      subst e2
      exact ⟨a, bs, by rw [e], SqL.of h1, k c H _ Ext.refl rfl⟩
  · cases hg
theorem s_any : CallS cm K n (rAny K) (f1 anyD) := calls1 fun c H d v hh Q hd hg k => by
  unfold anyD at hg
  split at hg
  · rename_i ds
    cases q : bls? ds with
    | none => rw [q] at hg; cases hg
    | some bs =>
      rw [q] at hg; cases hg
      obtain ⟨a, vs, e, h1, h2⟩ := hd
      have e2 := bls_v h2 q
      subst e2
      exact ⟨a, bs, by rw [e], SqL.of h1, k c H _ Ext.refl rfl⟩
  · cases hg
theorem s_sum : CallS cm K n (rSum K) (f1 sumD) := calls1 fun c H d v hh Q hd hg k => by
  unfold sumD at hg
  split at hg
  · rename_i ds
    cases q : ints? ds with
    | none => rw [q] at hg; cases hg
    | some bs =>
      rw [q] at hg; cases hg
      obtain ⟨a, vs, e, h1, h2⟩ := hd
      have e2 := ints_v h2 q
      subst e2
      exact ⟨a, bs, by rw [e], SqL.of h1, k c H _ Ext.refl rfl⟩
  · cases hg
/-! isinstance, built-in types -/
def tyD : D → Option String
  | .non => some "NoneType" | .bl _ => some "bool" | .int _ => some "int" | .str _ => some "str" | .lst _ => some "list" | .tup _ => some "tuple" | .dic _ _ => some "dict" | _ => none
def isiB (a b : String) : Bool := a == b || (a == "bool" && b == "int")
def isiT : List String := ["str", "int", "bool", "list", "tuple", "dict"]
def isiD (d t : D) : Option Hd := match tyD d, t with
  | some a, .ty b => if isiT.contains b = true then okB (isiB a b) else none
  | _, _ => none
theorem kitB_ok : ∀ a ∈ ["NoneType", "bool", "int", "str", "list", "tuple", "dict"], ∀ b ∈ isiT, kitB a b = some (isiB a b) := by decide +kernel
theorem tyD_ok {d : D} {v : V} {a : String} (hd : DenR cm K c H d v) (h : tyD d = some a) : TyX K H v (.type a) ∧ a ∈ ["NoneType", "bool", "int", "str", "list", "tuple", "dict"] := by
  unfold tyD at h
  split at h
  · cases h; rw [den_non hd]; exact ⟨.base .non, by decide⟩
  · cases h; rw [den_bl hd]; exact ⟨.base (.bl _), by decide⟩
  · cases h; rw [den_int hd]; exact ⟨.base (.int _), by decide⟩
  · cases h; rw [den_str hd]; exact ⟨.base (.str _), by decide⟩
  · cases h; obtain ⟨a, vs, e, h1, _⟩ := hd; rw [e]; exact ⟨.base (.lst h1), by decide⟩
  · cases h; obtain ⟨a, vs, e, h1, _⟩ := hd; rw [e]; exact ⟨.base (.tup (Gz.to h1).2), by decide⟩
  · cases h; obtain ⟨a, vs, e, h1, _⟩ := hd; rw [e]; exact ⟨.base (.dK h1), by decide⟩
  · cases h
theorem s_isi : CallS cm K n (rIsi K) (f2 isiD) := calls2 fun c H d e v u hh Q hd he hg k => by
  unfold isiD at hg
  split at hg
  · rename_i a b ea
    by_cases q : isiT.contains b = true
    · rw [if_pos q] at hg; cases hg
      obtain ⟨t, m⟩ := tyD_ok hd ea
      have he : u = .ty b := he
      subst he
      exact ⟨v, .ty b, .type a, .type b, _, rfl, .ty b, t, kit_ty (kitB_ok a m b (by simpa using q)), k c H _ Ext.refl rfl⟩
    · rw [if_neg q] at hg; cases hg
  · cases hg
/-! list(xs) -/
def listD : D → Option Hd | .lst xs => some (.new (.lst xs)) | .tup xs => some (.new (.lst xs)) | _ => none
theorem s_list : CallS cm K n (fun xs H Q => ∃ p ys, xs = [.ref p] ∧ (SqL K H p ys ∨ SqT K H p ys) ∧ ∀ l, H l = none → Q (.ref l) (upd H l (.lst ys))) (f1 listD) := calls1 fun c H d v hh Q hd hg k => by
  unfold listD at hg
  split at hg
  · cases hg
    obtain ⟨a, vs, e, h1, h2⟩ := hd
    exact ⟨a, vs, by rw [e], .inl (SqL.of h1), fun l hl => k _ _ _ (Ext.alloc hl) (hdv_new_lst hl h2)⟩
  · cases hg
    obtain ⟨a, vs, e, h1, h2⟩ := hd
    exact ⟨a, vs, by rw [e], .inr (SqT.of (Gz.to h1).2), fun l hl => k _ _ _ (Ext.alloc hl) (hdv_new_lst hl h2)⟩
  · cases hg

/-! ### x or y by truth -/
def truD : D → Option Bool
  | .non => some false
  | .bl b => some b
  | .int i => some (i != 0)
  | .str s => if s.length ≤ SLine then some (!s.isEmpty) else none
  | .lst xs => some (!xs.isEmpty)
  | .tup xs => some (!xs.isEmpty)
  | _ => none
theorem denl_empty {G : Hp} {xs : List D} {vs : List V} (h : DenL cm K G xs vs) : vs.isEmpty = xs.isEmpty := by
  have := h.length
  cases xs <;> cases vs <;> first | rfl | (simp at this)
theorem tru_d {d : D} {v : V} {b : Bool} (hd : DenR cm K c H d v) (h : truD d = some b) : TruV K v H b := by
  unfold truD at h
  split at h
  · cases h; rw [den_non hd]; exact rfl
  · cases h; rw [den_bl hd]; exact rfl
  · cases h; rw [den_int hd]; exact rfl
  · rename_i s
    by_cases hl : s.length ≤ SLine
    · rw [if_pos hl] at h; cases h
      rw [den_str hd]
      refine ⟨by rw [str_len]; exact sline_str hl, ?_⟩
      rw [str_len]
      cases s with
      | nil => rfl
      | cons a r =>
        show true = _
        have : ((a :: r).length : Int) ≠ 0 := by simp only [List.length_cons]; omega
        simp only [bne, beq_eq_false_iff_ne.mpr this]; rfl
    · rw [if_neg hl] at h; cases h
  · cases h; obtain ⟨a, vs, e, h1, h2⟩ := hd; rw [e]; exact .inl ⟨vs, SqL.of h1, by rw [denl_empty h2]⟩
  · cases h; obtain ⟨a, vs, e, h1, h2⟩ := hd; rw [e]; exact .inr (.inl ⟨vs, SqT.of (Gz.to h1).2, by rw [denl_empty h2]⟩)
  · cases h
def truM (d : D) : M Bool := M.lift (truD d)
def eOrT (a b : M Hd) : M Hd := a >>= fun h => rd h >>= fun d => truM d >>= fun k => if k = true then pure h else b
def eAndT (a b : M Hd) : M Hd := a >>= fun h => rd h >>= fun d => truM d >>= fun k => if k = true then b else pure h
theorem ve_orT {a b : Expr} {rest : List Expr} {ta tb : TE} {fa fb : M Hd} {pos : Pos} (ha : VE cm X W a ta fa) (hb : VE cm X W (.BoolOp .Or (b :: rest) pos) tb fb) : VE cm X W (.BoolOp .Or (a :: b :: rest) pos) (tOrT X.K ta tb) (eOrT fa fb) := ⟨pe_orT ha.pe hb.pe, by
  refine Sem.bind (u := fun x σ H1 Q => ∃ k, TruV X.K x H1 k ∧ if k = true then Q x H1 else tb σ H1 Q) ha.sem ?_
  intro ρ₀ c₀ H₀ a x ρ c σ H Q s0 r0 hx q
  dsimp only at q
  obtain ⟨d1, e1, q⟩ := rd_bind (P := QR cm X.K X.N.length W (HdOk cm X.K X.N.length) Q ρ₀ c₀ H₀ σ) QR.nobad q
  rw [M.bind_run] at q
  unfold truM at q
  rw [lift_run] at q
  cases e : truD d1 with
  | none => rw [e] at q; exact q.elim
  | some k =>
    rw [e] at q
    refine ⟨k, tru_d (rd_ok r0 hx e1).2 e, ?_⟩
    cases k with
    | true => exact q c H x s0 r0 hx
    | false => exact SemK.of (rel := BlOk) hd_stab hb.sem ρ₀ c₀ H₀ true true ρ c σ H Q s0 r0 rfl q⟩
theorem ve_andT {a b : Expr} {rest : List Expr} {ta tb : TE} {fa fb : M Hd} {pos : Pos} (ha : VE cm X W a ta fa) (hb : VE cm X W (.BoolOp .And (b :: rest) pos) tb fb) : VE cm X W (.BoolOp .And (a :: b :: rest) pos) (tAndT X.K ta tb) (eAndT fa fb) := ⟨pe_andT ha.pe hb.pe, by
  refine Sem.bind (u := fun x σ H1 Q => ∃ k, TruV X.K x H1 k ∧ if k = true then tb σ H1 Q else Q x H1) ha.sem ?_
  intro ρ₀ c₀ H₀ a x ρ c σ H Q s0 r0 hx q
  dsimp only at q
  obtain ⟨d1, e1, q⟩ := rd_bind (P := QR cm X.K X.N.length W (HdOk cm X.K X.N.length) Q ρ₀ c₀ H₀ σ) QR.nobad q
  rw [M.bind_run] at q
  unfold truM at q
  rw [lift_run] at q
  cases e : truD d1 with
  | none => rw [e] at q; exact q.elim
  | some k =>
    rw [e] at q
    refine ⟨k, tru_d (rd_ok r0 hx e1).2 e, ?_⟩
    cases k with
    | false => exact q c H x s0 r0 hx
    | true => exact SemK.of (rel := BlOk) hd_stab hb.sem ρ₀ c₀ H₀ true true ρ c σ H Q s0 r0 rfl q⟩
theorem ve_boolOne {op : BoolOp} {a : Expr} {te : TE} {f : M Hd} {pos : Pos} (h : VE cm X W a te f) : VE cm X W (.BoolOp op [a] pos) te f := ⟨pe_one h.pe, h.sem⟩
/-- not e as a value -/
def eNotT (a : M Hd) : M Hd := a >>= fun h => rd h >>= fun d => truM d >>= fun k => pure (.val (.bl !k))
theorem ve_notT {a : Expr} {ta : TE} {fa : M Hd} {pos : Pos} (ha : VE cm X W a ta fa) : VE cm X W (.UnaryOp .Not a pos) (tNotT X.K ta) (eNotT fa) := ⟨pe_notT ha.pe, by
  refine Sem.bind (u := fun x σ H1 Q => ∃ k, TruV X.K x H1 k ∧ Q (V.bl (!k)) H1) ha.sem ?_
  intro ρ₀ c₀ H₀ a x ρ c σ H Q s0 r0 hx q
  dsimp only at q
  obtain ⟨d1, e1, q⟩ := rd_bind (P := QR cm X.K X.N.length W (HdOk cm X.K X.N.length) Q ρ₀ c₀ H₀ σ) QR.nobad q
  rw [M.bind_run] at q
  unfold truM at q
  rw [lift_run] at q
  cases e : truD d1 with
  | none => rw [e] at q; exact q.elim
  | some k =>
    rw [e] at q
    exact ⟨k, tru_d (rd_ok r0 hx e1).2 e, q c H _ s0 r0 rfl⟩⟩

/-! ### a < b < c -/
def eChain (g g' : D → D → Option Hd) (a b e : M Hd) : M Hd := a >>= fun x => b >>= fun y => rd x >>= fun d1 => rd y >>= fun d2 => M.lift ((g d1 d2).bind fun h => match h with | .val (.bl k) => some k | _ => none) >>= fun k =>
  if k = true then e >>= fun z => rd y >>= fun d2 => rd z >>= fun d3 => M.lift (g' d2 d3) else pure (.val (.bl false))
end
end Vi

/-! ## ViOps3 -/
set_option Elab.async false
set_option linter.all false
set_option maxRecDepth 100000
set_option maxHeartbeats 400000
namespace Vi
open PySem L2

section
variable {cm : Nat → Addr} {X : Cx} {W : WX} {K : PySem.W.Frag} {n : Nat} {c : Col} {H : Hp}
/-! ### chains -/
theorem sem_chain {r r' : R2} {g g' : D → D → Option Hd} {ta tb te : TE} {fa fb fe : M Hd} (h1 : OpS cm K n r g) (h2 : OpS cm K n r' g') (ha : Sem cm K n W (HdOk cm K n) ta fa) (hb : Sem cm K n W (HdOk cm K n) tb fb) (he : Sem cm K n W (HdOk cm K n) te fe) :
    Sem cm K n W (HdOk cm K n) (tChain r r' ta tb te) (eChain g g' fa fb fe) := by
  refine Sem.bind (u := fun x σ H1 Q => tb σ H1 fun y H2 => r x y H2 fun z H3 => ∃ k, z = V.bl k ∧ (if k = true then te σ H3 fun w' H4 => r' y w' H4 Q else Q (V.bl false) H3)) ha ?_
  intro ρ₀ c₀ H₀ a x ρ c σ H Q s0 r0 hx q
  refine hb ρ c σ H _ r0 ?_
  dsimp only at q
  rw [M.bind_run] at q
  cases e : fb ρ with
  | exc k ρ' => rw [e] at q; exact fun c' H' s' r' => q c' H' (s0.trans s') r'
  | bad => rw [e] at q; exact q
  | ok b ρ1 =>
    rw [e] at q
    intro c1 H1 y s1 r1 hy
    dsimp only at q
    have s01 := s0.trans s1
    obtain ⟨d1, e1, q⟩ := rd_bind (P := QR cm K n W (HdOk cm K n) Q ρ₀ c₀ H₀ σ) QR.nobad q
    obtain ⟨d2, e2, q⟩ := rd_bind (P := QR cm K n W (HdOk cm K n) Q ρ₀ c₀ H₀ σ) QR.nobad q
    rw [M.bind_run, lift_run] at q
    have p1 := (rd_ok r1 (hx.stp s1.st) e1).2
    have p2 := (rd_ok r1 hy e2).2
    cases eg : g d1 d2 with
    | none => rw [eg] at q; exact q.elim
    | some hd =>
      rw [eg] at q
      cases hd with
      | slot i => exact q.elim
      | new d => exact q.elim
      | val d =>
        cases d with
        | bl k =>
          refine h1 c1 H1 d1 d2 x y _ _ p1 p2 eg fun c2 H2 v ex hv => ?_
          have hv : v = .bl k := hv
          refine ⟨k, hv, ?_⟩
          have s02 := s01.app ex.stp
          have r2 := r1.ext ex
          cases k with
          | false => rw [if_neg Bool.false_ne_true]; exact q c2 H2 _ s02 r2 rfl
          | true =>
            rw [if_pos rfl]
            have q : QR cm K n W (HdOk cm K n) Q ρ₀ c₀ H₀ σ ((fe >>= fun z => rd b >>= fun d2 => rd z >>= fun d3 => M.lift (g' d2 d3)) ρ1) := q
            refine he ρ1 c2 σ H2 _ r2 ?_
            rw [M.bind_run] at q
            cases ee : fe ρ1 with
            | exc k ρ' => rw [ee] at q; exact fun c' H' s' r' => q c' H' (s02.trans s') r'
            | bad => rw [ee] at q; exact q
            | ok z ρ3 =>
              rw [ee] at q
              intro c3 H3 w s3 r3 hz
              dsimp only at q
              obtain ⟨d4, e4, q⟩ := rd_bind (P := QR cm K n W (HdOk cm K n) Q ρ₀ c₀ H₀ σ) QR.nobad q
              obtain ⟨d5, e5, q⟩ := rd_bind (P := QR cm K n W (HdOk cm K n) Q ρ₀ c₀ H₀ σ) QR.nobad q
              rw [lift_run] at q
              have p4 := (rd_ok r3 ((hy.stp ex.stp).stp s3.st) e4).2
              have p5 := (rd_ok r3 hz e5).2
              cases eg' : g' d4 d5 with
              | none => rw [eg'] at q; exact q.elim
              | some hh =>
                rw [eg'] at q
                exact h2 c3 H3 d4 d5 y w hh Q p4 p5 eg' fun c4 H4 v4 ex4 hv4 => q c4 H4 v4 ((s02.trans s3).app ex4.stp) (r3.ext ex4) (hv4.hd (s02.trans s3).st)
        | _ => exact q.elim
theorem ve_chain {op op' : CmpOp} {r r' : R2} {g g' : D → D → Option Hd} {a b e : Expr} {ta tb te : TE} {fa fb fe : M Hd} {pos : Pos} (ho : OpR X (compareOp op) r) (h1 : OpS cm X.K X.N.length r g) (ho' : OpR X (compareOp op') r') (h2 : OpS cm X.K X.N.length r' g')
    (ha : VE cm X W a ta fa) (hb : VE cm X W b tb fb) (he : VE cm X W e te fe) (hm : lastMarks [op, op'] [b, e] = false := by with_unfolding_all rfl) : VE cm X W (.Compare a [op, op'] [b, e] pos) (tChain r r' ta tb te) (eChain g g' fa fb fe) :=
  ⟨pe_chain ho ho' ha.pe hb.pe he.pe hm, sem_chain h1 h2 ha.sem hb.sem he.sem⟩
theorem vt_chain {op op' : CmpOp} {r r' : R2} {g g' : D → D → Option Hd} {a b e : Expr} {ta tb te : TE} {fa fb fe : M Hd} {pos : Pos} (ho : OpR X (compareOp op) r) (h1 : OpS cm X.K X.N.length r g) (ho' : OpR X (compareOp op') r') (h2 : OpS cm X.K X.N.length r' g')
    (ha : VE cm X W a ta fa) (hb : VE cm X W b tb fb) (he : VE cm X W e te fe) (hm : lastMarks [op, op'] [b, e] = false := by with_unfolding_all rfl) : VT cm X W (.Compare a [op, op'] [b, e] pos) (tTest (tChain r r' ta tb te)) (eTest (eChain g g' fa fb fe)) :=
  ⟨pt_chain ho ho' ha.pe hb.pe he.pe hm, sem_test (sem_chain h1 h2 ha.sem hb.sem he.sem)⟩

/-! ### a name's own list changed -/
theorem Rep.mut {ρ : List S} {σ : St} {i : Nat} {a : Addr} {d d' : D} {o : HO} (r : Rep cm K n c H ρ σ) (hs : ρ[i]? = some (.own d)) (ha : σ[i]? = some (some (.ref a))) (hc : c a = i + 1) (h : Cont cm K c (upd H a o) a d') :
    Rep cm K n c (upd H a o) (ρ.set i (.own d')) σ := by
  have hi : i < n := by rw [← r.len]; exact (List.getElem?_eq_some_iff.mp hs).1
  refine ⟨by rw [List.length_set]; exact r.len, r.lenσ, fun j s q => ?_⟩
  by_cases hj : i = j
  · subst hj
    rw [List.getElem?_set_self (by rw [r.len]; exact hi)] at q
    cases q
    exact ⟨_, ha, a, rfl, hc, h⟩
  · rw [List.getElem?_set_ne hj] at q
    obtain ⟨v, h1, h2⟩ := r.at_ j s q
    refine ⟨v, h1, h2.keep (gz_write (by omega)) (fun b o h => ?_) fun b o e h => ⟨rfl, by rw [upd_ne (fun q => by rw [q] at e; omega)]; exact h⟩⟩
    obtain ⟨z1, z2⟩ := Gb.to h
    exact Gb.of z1 (by rw [upd_ne (fun e => by rw [e] at z1; omega)]; exact z2)
theorem Stp.mut {c' : Col} {H' : Hp} {a : Addr} {o u : HO} (s : Stp n c c' H H') (ha : H a = some u) (h1 : c a ≠ 0) (h2 : c a ≤ n) : Stp n c c' H (upd H' a o) := fun b v h => by
  by_cases e : b = a
  · subst e
    exact ⟨⟨o, upd_same⟩, fun q => absurd q h1, fun q => absurd q (by omega)⟩
  · rw [upd_ne e]; exact s b v h
theorem Stp.mutN {c' : Col} {H' : Hp} {a : Addr} {o : HO} (s : Stp n c c' H H') (h1 : c' a ≠ 0) (h2 : c' a ≤ n) : Stp n c c' H (upd H' a o) := fun b v h => by
  obtain ⟨k1, k2, k3⟩ := s b v h
  by_cases e : b = a
  · subst e
    exact ⟨⟨o, upd_same⟩, fun q => absurd (k2 q).1 h1, fun q => absurd (k3 q).1 (by omega)⟩
  · rw [upd_ne e]; exact ⟨k1, k2, k3⟩
theorem Kq.own {ρ₀ ρ : List S} {i : Nat} {d : D} (k : Kq ρ₀ ρ) : Kq ρ₀ (ρ.set i (.own d)) := fun j e h => k j e ((Kp.set1 (σ := ([] : St)) (s := S.own d) (fun _ z => S.noConfusion z)) j e h).1
/-- the list at a name of its own -/
def ownL : S → Option (List D) | .own (.lst xs) => some xs | _ => none
theorem ownL_ok {s : S} {xs : List D} (h : ownL s = some xs) : s = .own (.lst xs) := by
  cases s with
  | own d => cases d with
    | lst ys => cases h; rfl
    | _ => cases h
  | _ => cases h
def getOwn (i : Nat) : M (List D) := fun ρ => match ownL (at_ ρ i) with | some xs => .ok xs ρ | none => .bad
def setOwn (i : Nat) (xs : List D) : M Unit := fun ρ => .ok () (ρ.set i (.own (.lst xs)))
theorem getOwn_ok {ρ : List S} {σ : St} {i : Nat} (r : Rep cm K n c H ρ σ) : (getOwn i ρ = .bad) ∨ ∃ xs a vs, getOwn i ρ = .ok xs ρ ∧ i < n ∧ ρ[i]? = some (.own (.lst xs)) ∧ σ[i]? = some (some (.ref a)) ∧ c a = i + 1 ∧ H a = some (.lst vs) ∧ DenL cm K (Gz c H) xs vs := by
  unfold getOwn
  cases q : ownL (at_ ρ i) with
  | none => exact .inl rfl
  | some xs =>
    have e := ownL_ok q
    have hs := at_some e (fun z => S.noConfusion z)
    obtain ⟨v, hv, a, e1, e2, vs, e3, e4⟩ := r.at_ i _ hs
    subst e1
    exact .inr ⟨xs, a, vs, rfl, by rw [← r.len]; exact (List.getElem?_eq_some_iff.mp hs).1, hs, hv, e2, e3, e4⟩
/-- the name's own list, read and perhaps changed, as the last deed of an expression -/
theorem own_end {ρ₀ ρ : List S} {σ : St} {c₀ : Col} {H₀ : Hp} {i : Nat} {a : Addr} {xs ys : List D} {vs us : List V} {h : Hd} {v : V} {Q : VK} (s0 : Stq n ρ₀ ρ c₀ c H₀ H) (r : Rep cm K n c H ρ σ) (hs : ρ[i]? = some (.own (.lst xs))) (ha : σ[i]? = some (some (.ref a))) (hc : c a = i + 1) (hi : i < n)
    (hH : H a = some (.lst vs)) (dl : DenL cm K (Gz c H) ys us) (hv : ∀ c H, (∀ b o, Gz c H b = some o → True) → True) (q : QR cm K n W (HdOk cm K n) Q ρ₀ c₀ H₀ σ (.ok h (ρ.set i (.own (.lst ys))))) (hd : HdOk cm K n H₀ c (upd H a (.lst us)) σ h v) : Q v (upd H a (.lst us)) := by
  refine q c _ v ⟨s0.st.mutN (by omega) (by omega), s0.kq.own⟩ ?_ hd
  exact r.mut hs ha hc ⟨us, upd_same, DenL.mono (gz_write (by omega)) _ _ dl⟩
def eAppend (i : Nat) (f : M Hd) : M Hd := getOwn i >>= fun _ => f >>= fun h => fz h >>= fun d => getOwn i >>= fun xs => guardM (decide (xs.length < SLine)) (setOwn i (xs ++ [d]) >>= fun _ => pure (.val .non))
theorem ve_append (i : Nat) {x : Str} {e : Expr} {te : TE} {f : M Hd} {p apos pos : Pos} (h : VE cm X W e te f) (hN : X.N[i]? = some x := by rfl) (hv : Vis X.env.scope x := by first | exact Or.inl rfl | exact Or.inr (Or.inl rfl) | exact Or.inr (Or.inr rfl)) (hd : (x == ("__debug__" : Str)) = false := by decide)
    (hcd : (x == ("__classdict__" : Str)) = false := by decide)
    (hpe : PE X (.Call (.Attribute (.Name x p) "append" apos) [e] [] pos) (tBM X.K "list" rAppend (tVar i) (tCons te tNil))) : VE cm X W (.Call (.Attribute (.Name x p) "append" apos) [e] [] pos) (tBM X.K "list" rAppend (tVar i) (tCons te tNil)) (eAppend i f) := ⟨hpe, by
  intro ρ c σ H Q r q
  unfold eAppend at q
  rw [M.bind_run] at q
  rcases getOwn_ok (i := i) r with e | ⟨xs, a, vs, e, hi, hs, ha, hc, hH, dl⟩
  · rw [e] at q; exact q.elim
  rw [e] at q
  refine ⟨_, ha, .inl ⟨rfl, vs, SqL.of hH⟩, ?_⟩
  refine h.sem ρ c σ H _ r ?_
  dsimp only at q
  rw [M.bind_run] at q
  cases ef : f ρ with
  | exc k ρ' => rw [ef] at q; exact q
  | bad => rw [ef] at q; exact q
  | ok hh ρ1 =>
    rw [ef] at q
    intro c1 H1 y s1 r1 hy
    dsimp only at q
    rw [M.bind_run] at q
    rcases fz_cases hh ρ1 with ⟨d, ρ2, ez⟩ | ez
    case inr => rw [ez] at q; exact q.elim
    rw [ez] at q
    dsimp only at q
    obtain ⟨c2, s2, r2, dd, g2⟩ := fz_ok s1 r1 hy ez
    rw [M.bind_run] at q
    rcases getOwn_ok (i := i) r2 with e2 | ⟨xs2, a2, vs2, e2, hi2, hs2, ha2, hc2, hH2, dl2⟩
    · rw [e2] at q; exact q.elim
    rw [e2] at q
    dsimp only at q
    rw [ha] at ha2
    cases ha2
    have hl := dl2.length
    by_cases hz : xs2.length < SLine
    case neg => simp only [guardM, decide_eq_false hz, Bool.false_eq_true, if_false] at q; exact q.elim
    simp only [guardM, decide_eq_true hz, if_true] at q
    refine ⟨a, vs2, y, rfl, rfl, hH2, Nat.lt_of_lt_of_le (by omega) sline, ?_⟩
    exact own_end (h := .val .non) (v := .non) s2 r2 hs2 ha hc2 hi hH2 (dl2.append (es := [d]) (us := [y]) ⟨y, [], rfl, dd, rfl⟩) (fun _ _ _ => trivial) q rfl⟩
/-- xs.pop() -/
def ePop (i : Nat) : M Hd := getOwn i >>= fun xs => M.lift xs.getLast? >>= fun d => setOwn i xs.dropLast >>= fun _ => pure (.val d)
theorem DenL.last {G : Hp} {xs : List D} {vs : List V} (h : DenL cm K G xs vs) : DenL cm K G xs.dropLast vs.dropLast := by
  rw [List.dropLast_eq_take, List.dropLast_eq_take, h.length]; exact h.take _
theorem ve_pop (i : Nat) {x : Str} {p apos pos : Pos} (hpe : PE X (.Call (.Attribute (.Name x p) "pop" apos) [] [] pos) (tBM0 X.K "list" rPop (tVar i))) : VE cm X W (.Call (.Attribute (.Name x p) "pop" apos) [] [] pos) (tBM0 X.K "list" rPop (tVar i)) (ePop i) := ⟨hpe, by
  intro ρ c σ H Q r q
  unfold ePop at q
  rw [M.bind_run] at q
  rcases getOwn_ok (i := i) r with e | ⟨xs, a, vs, e, hi, hs, ha, hc, hH, dl⟩
  · rw [e] at q; exact q.elim
  rw [e] at q
  refine ⟨_, ha, .inl ⟨rfl, vs, SqL.of hH⟩, ?_⟩
  dsimp only at q
  rw [M.bind_run, lift_run] at q
  have hl := dl.length
  cases ez : xs.getLast? with
  | none => rw [ez] at q; exact q.elim
  | some d =>
    rw [ez] at q
    rw [List.getLast?_eq_getElem?] at ez
    obtain ⟨v, hv, dv⟩ := dl.get ez
    refine ⟨a, vs, v, rfl, rfl, hH, by rw [← hl]; exact hv, ?_⟩
    exact own_end (h := .val d) (v := v) Stq.refl r hs ha hc hi hH dl.last (fun _ _ _ => trivial) q (Den.mono (gz_write (by omega)) _ _ dv)⟩
/-- xs.extend(ys) -/
def lst? : D → Option (List D) | .lst xs => some xs | _ => none
def eExtend (i : Nat) (f : M Hd) : M Hd := getOwn i >>= fun _ => f >>= fun h => rd h >>= fun d => M.lift (lst? d) >>= fun ys => getOwn i >>= fun xs => guardM (decide (xs.length + ys.length ≤ SLine)) (setOwn i (xs ++ ys) >>= fun _ => pure (.val .non))
theorem ve_extend (i : Nat) {x : Str} {e : Expr} {te : TE} {f : M Hd} {p apos pos : Pos} (h : VE cm X W e te f) (hpe : PE X (.Call (.Attribute (.Name x p) "extend" apos) [e] [] pos) (tBM X.K "list" rExtend (tVar i) (tCons te tNil))) :
    VE cm X W (.Call (.Attribute (.Name x p) "extend" apos) [e] [] pos) (tBM X.K "list" rExtend (tVar i) (tCons te tNil)) (eExtend i f) := ⟨hpe, by
  intro ρ c σ H Q r q
  unfold eExtend at q
  rw [M.bind_run] at q
  rcases getOwn_ok (i := i) r with e | ⟨xs, a, vs, e, hi, hs, ha, hc, hH, dl⟩
  · rw [e] at q; exact q.elim
  rw [e] at q
  refine ⟨_, ha, .inl ⟨rfl, vs, SqL.of hH⟩, ?_⟩
  refine h.sem ρ c σ H _ r ?_
  dsimp only at q
  rw [M.bind_run] at q
  cases ef : f ρ with
  | exc k ρ' => rw [ef] at q; exact q
  | bad => rw [ef] at q; exact q
  | ok hh ρ1 =>
    rw [ef] at q
    intro c1 H1 y s1 r1 hy
    dsimp only at q
    obtain ⟨d, ed, q⟩ := rd_bind (P := QR cm X.K X.N.length W (HdOk cm X.K X.N.length) Q ρ c H σ) QR.nobad q
    have dr := (rd_ok r1 hy ed).2
    rw [M.bind_run, lift_run] at q
    cases d with
    | lst ys =>
      obtain ⟨b, us, e3, hB, dl3⟩ := dr
      have q : QR cm X.K X.N.length W (HdOk cm X.K X.N.length) Q ρ c H σ ((getOwn i >>= fun xs => guardM (decide (xs.length + ys.length ≤ SLine)) (setOwn i (xs ++ ys) >>= fun _ => pure (.val .non))) ρ1) := q
      rw [M.bind_run] at q
      rcases getOwn_ok (i := i) r1 with e2 | ⟨xs2, a2, vs2, e2, hi2, hs2, ha2, hc2, hH2, dl2⟩
      · rw [e2] at q; exact q.elim
      rw [e2] at q
      dsimp only at q
      rw [ha] at ha2
      cases ha2
      have hl := dl2.length
      have hl3 := dl3.length
      by_cases hz : xs2.length + ys.length ≤ SLine
      case neg => simp only [guardM, decide_eq_false hz, Bool.false_eq_true, if_false] at q; exact q.elim
      simp only [guardM, decide_eq_true hz, if_true] at q
      refine ⟨a, b, vs2, us, rfl, by rw [e3], hH2, hB, sline_str (by omega), ?_⟩
      exact own_end (h := .val .non) (v := .non) s1 r1 hs2 ha hc2 hi hH2 (dl2.append dl3) (fun _ _ _ => trivial) q rfl
    | _ => exact q.elim⟩
/-- xs[i] = e -/
def sSetIx (i : Nat) (fj fe : M Hd) : M Fl := fe >>= fun h => fz h >>= fun d => getOwn i >>= fun _ => fj >>= fun hj => rd hj >>= fun dj => M.lift (int? dj) >>= fun k => getOwn i >>= fun xs => M.lift (ixN xs.length k) >>= fun m => setOwn i (xs.set m d) >>= fun _ => pure .nx
theorem vs_setIx (i : Nat) {x : Str} {e ej : Expr} {te tj : TE} {f fj : M Hd} {p p2 pos : Pos} (he : VE cm X W e te f) (hj : VE cm X W ej tj fj) (hpe : PS X (.Assign [.Subscript (.Name x p) ej p2] e pos) (tAsg te (gSub (tVar i) tj rSetL))) :
    VS cm X W (.Assign [.Subscript (.Name x p) ej p2] e pos) (tAsg te (gSub (tVar i) tj rSetL)) (sSetIx i fj f) := ⟨hpe, by
  intro ρ c σ H Dn r q
  unfold sSetIx at q
  refine sem_in he.sem r q fun a ρ1 c1 H1 y s1 r1 hy q1 => ?_
  rw [M.bind_run] at q1
  rcases fz_cases a ρ1 with ⟨d, ρ2, ez⟩ | ez
  case inr => rw [ez] at q1; exact q1.elim
  rw [ez] at q1
  dsimp only at q1
  obtain ⟨c2, s2, r2, dd, g2⟩ := fz_ok s1 r1 hy ez
  rw [M.bind_run] at q1
  rcases getOwn_ok (i := i) r2 with e0 | ⟨xs0, ad, vs0, e0, hi0, hs0, had, hc0, hH0, dl0⟩
  · rw [e0] at q1; exact q1.elim
  rw [e0] at q1
  dsimp only at q1
  -- the name is read ahead of the index
  have main : tj σ H1 fun z H2 => rSetL (.ref ad) z y H2 fun H3 => Dn.nx σ H3 := by
    refine hj.sem ρ2 c2 σ H1 _ r2 ?_
    rw [M.bind_run] at q1
    cases ef : fj ρ2 with
    | bad => rw [ef] at q1; exact q1.elim
    | exc k ρ' => rw [ef] at q1; exact fun c' H' s' r' => q1 c' σ H' (s2.trans s').st (s2.trans s').kp r'
    | ok hh ρ3 =>
      rw [ef] at q1
      intro c3 H3 z s3 r3 hz
      dsimp only at q1
      obtain ⟨dj, ed, q1⟩ := rd_bind (P := QS cm X.K X.N.length W Dn ρ σ c H) (fun h => h) q1
      have dr := (rd_ok r3 hz ed).2
      rw [M.bind_run, lift_run] at q1
      cases dj with
      | int k =>
        have q1 : QS cm X.K X.N.length W Dn ρ σ c H ((getOwn i >>= fun xs => M.lift (ixN xs.length k) >>= fun m => setOwn i (xs.set m d) >>= fun _ => pure .nx) ρ3) := q1
        rw [M.bind_run] at q1
        rcases getOwn_ok (i := i) r3 with e2 | ⟨xs2, a2, vs2, e2, hi2, hs2, ha2, hc2, hH2, dl2⟩
        · rw [e2] at q1; exact q1.elim
        rw [e2] at q1
        dsimp only at q1
        rw [had] at ha2
        cases ha2
        rw [M.bind_run, lift_run] at q1
        have hl := dl2.length
        cases em : ixN xs2.length k with
        | none => rw [em] at q1; exact q1.elim
        | some m =>
          rw [em] at q1
          have q1 : QN cm X.K X.N.length Dn.nx ρ σ c H (ρ3.set i (.own (.lst (xs2.set m d)))) := q1
          refine ⟨ad, vs2, k, m, rfl, dr, hH2, by rw [← hl]; exact em, ?_⟩
          have s03 := s2.trans s3
          refine q1 c3 σ _ (s03.st.mutN (by omega) (by omega)) ?_ ?_
          · exact (Stq.mk (s03.st.mutN (by omega) (by omega)) s03.kq.own : Stq X.N.length ρ _ c c3 H (upd H3 ad (.lst (vs2.set m y)))).kp
          · exact r3.mut hs2 had hc2 ⟨vs2.set m y, upd_same, DenL.mono (gz_write (by omega)) _ _ (dl2.set m (Den.mono s3.st.gz _ _ dd))⟩
      | _ => exact q1.elim
  exact ⟨_, had, main⟩⟩
end
end Vi

/-! ## ViPar -/
set_option Elab.async false
set_option linter.all false
set_option maxRecDepth 100000
set_option maxHeartbeats 400000
namespace Vi
open PySem L2

/-! ### a, b = x, y -/
def isNew : Hd → Bool | .new _ => true | _ => false
def notSlot : Hd → Bool | .slot _ => false | _ => true
/-- settled values, no two new things in one place -/
def HpOk (cm : Nat → Addr) (K : PySem.W.Frag) (n : Nat) (H₀ : Hp) (c : Col) (H : Hp) (σ : St) : List Hd → List V → Prop
  | [], vs => vs = []
  | h :: hs, vs => ∃ v r, vs = v :: r ∧ HdOk cm K n H₀ c H σ h v ∧ notSlot h = true ∧ (isNew h = true → ∀ (j : Nat) (g : Hd) (u : V), hs[j]? = some g → isNew g = true → r[j]? = some u → v ≠ u) ∧ HpOk cm K n H₀ c H σ hs r
structure VP (cm : Nat → Addr) (X : Cx) (W : WX) (es : List Expr) (ta : TA) (f : M (List Hd)) : Prop where
  pe : PA X es ta
  sem : Sem cm X.K X.N.length W (HpOk cm X.K X.N.length) ta f
/-- a list, a dict of a name's own stands still when it is handed on -/
def stl : Hd → M Hd
  | .val d => pure (.val d)
  | .new d => pure (.new d)
  | .slot i => fz (.slot i) >>= fun d => pure (.val d)
def pCons (a : M Hd) (r : M (List Hd)) : M (List Hd) := a >>= fun x => stl x >>= fun h => r >>= fun hs => pure (h :: hs)
def puts : List Nat → List Hd → M Unit
  | [], [] => pure ()
  | i :: is, h :: hs => put i h >>= fun _ => puts is hs
  | _, _ => M.bad
def sPar (is : List Nat) (f : M (List Hd)) : M Fl := f >>= fun hs => puts is hs >>= fun _ => pure .nx

section
variable {cm : Nat → Addr} {X : Cx} {W : WX} {K : PySem.W.Frag} {n : Nat} {c : Col} {H : Hp}
theorem HpOk.stp {c c' : Col} {H H' H₀ : Hp} {σ : St} (s : Stp n c c' H H') : ∀ {hs : List Hd} {vs : List V}, HpOk cm K n H₀ c H σ hs vs → HpOk cm K n H₀ c' H' σ hs vs
  | [], _, h => h
  | _ :: _, _, ⟨v, r, e, h1, h2, h3, h4⟩ => ⟨v, r, e, h1.stp s, h2, h3, HpOk.stp s h4⟩
theorem HpOk.base {c₀ c₁ c : Col} {H₀ H₁ H : Hp} {σ : St} (s : Stp n c₀ c₁ H₀ H₁) : ∀ {hs : List Hd} {vs : List V}, HpOk cm K n H₁ c H σ hs vs → HpOk cm K n H₀ c H σ hs vs
  | [], _, h => h
  | _ :: _, _, ⟨v, r, e, h1, h2, h3, h4⟩ => ⟨v, r, e, hd_stab.2 _ _ _ _ _ _ _ _ _ s h1, h2, h3, HpOk.base s h4⟩
theorem HpOk.new_none {H₀ : Hp} {σ : St} : ∀ {hs : List Hd} {vs : List V}, HpOk cm K n H₀ c H σ hs vs → ∀ (j : Nat) (g : Hd) (u : V), hs[j]? = some g → isNew g = true → vs[j]? = some u → ∃ a, u = .ref a ∧ H₀ a = none
  | [], _, h => fun j g u e => by simp at e
  | h :: hs, _, ⟨v, r, e, h1, h2, h3, h4⟩ => fun j g u e1 e2 e3 => by
    subst e
    cases j with
    | zero =>
      have e1 : h = g := by simpa using e1
      have e3 : v = u := by simpa using e3
      subst e1 e3
      cases h with
      | new d => obtain ⟨a, q1, q2, _⟩ := h1; exact ⟨a, q1, q2⟩
      | _ => cases e2
    | succ j => exact HpOk.new_none h4 j g u (by simpa using e1) e2 (by simpa using e3)
theorem stl_ok {ρ₀ ρ ρ' : List S} {σ : St} {c₀ : Col} {H₀ : Hp} {h h' : Hd} {v : V} (s : Stq n ρ₀ ρ c₀ c H₀ H) (r : Rep cm K n c H ρ σ) (x : HdOk cm K n H₀ c H σ h v) (e : stl h ρ = .ok h' ρ') :
    ∃ c', Stq n ρ₀ ρ' c₀ c' H₀ H ∧ Rep cm K n c' H ρ' σ ∧ HdOk cm K n H₀ c' H σ h' v ∧ notSlot h' = true := by
  cases h with
  | val d => cases e; exact ⟨c, s, r, x, rfl⟩
  | new d => cases e; exact ⟨c, s, r, x, rfl⟩
  | slot i =>
    have e : (fz (.slot i) >>= fun d => pure (Hd.val d)) ρ = .ok h' ρ' := e
    rw [M.bind_run] at e
    rcases fz_cases (.slot i) ρ with ⟨d, ρ2, ez⟩ | ez
    · rw [ez] at e
      cases e
      obtain ⟨c', s', r', d', g⟩ := fz_ok s r x ez
      exact ⟨c', s', r', d', rfl⟩
    · rw [ez] at e; cases e
theorem stl_cases (h : Hd) (ρ : List S) : (∃ h' ρ', stl h ρ = .ok h' ρ') ∨ stl h ρ = .bad := by
  cases h with
  | val d => exact .inl ⟨_, _, rfl⟩
  | new d => exact .inl ⟨_, _, rfl⟩
  | slot i =>
    show (∃ h' ρ', (fz (.slot i) >>= fun d => pure (Hd.val d)) ρ = .ok h' ρ') ∨ (fz (.slot i) >>= fun d => pure (Hd.val d)) ρ = .bad
    rw [M.bind_run]
    rcases fz_cases (.slot i) ρ with ⟨d, ρ2, ez⟩ | ez
    · rw [ez]; exact .inl ⟨_, _, rfl⟩
    · rw [ez]; exact .inr rfl
theorem vp_nil : VP cm X W [] tNil eNil := ⟨pa_nil, sem_pure (fun _ _ _ q => q) fun _ _ _ => rfl⟩
theorem vp_cons {e : Expr} {es : List Expr} {te : TE} {t : TA} {f : M Hd} {g : M (List Hd)} (h : VE cm X W e te f) (hr : VP cm X W es t g) (hs : starEach (e :: es) X.env = (false, eval e X.env) :: starEach es X.env := by rfl) :
    VP cm X W (e :: es) (tCons te t) (pCons f g) := ⟨pa_cons h.pe hr.pe hs, by
  refine Sem.bind (u := fun x σ H1 Q => t σ H1 fun xs H2 => Q (x :: xs) H2) h.sem ?_
  intro ρ₀ c₀ H₀ a x ρ c σ H Q s0 r0 hx q
  dsimp only at q
  rw [M.bind_run] at q
  rcases stl_cases a ρ with ⟨h', ρ1, es⟩ | es
  case inr => rw [es] at q; exact q.elim
  rw [es] at q
  dsimp only at q
  obtain ⟨c1, s1, r1, hx1, hn⟩ := stl_ok s0 r0 hx es
  refine hr.sem ρ1 c1 σ H _ r1 ?_
  rw [M.bind_run] at q
  cases e : g ρ1 with
  | exc k ρ' => rw [e] at q; exact fun c' H' s' r' => q c' H' (s1.trans s') r'
  | bad => rw [e] at q; exact q
  | ok b ρ' =>
    rw [e] at q
    intro c2 H2 y s2 r2 hy
    refine q c2 H2 _ (s1.trans s2) r2 ⟨x, y, rfl, hx1.stp s2.st, hn, fun hnew j gg u e1 e2 e3 => ?_, hy.base s1.st⟩
    obtain ⟨b', q1, q2⟩ := hy.new_none j gg u e1 e2 e3
    cases h' with
    | new d =>
      obtain ⟨a', q3, _, _, q4⟩ := hx1
      obtain ⟨o, q5⟩ := q4.some_
      intro z
      rw [q3, q1] at z
      cases z
      rw [q2] at q5; cases q5
    | _ => cases hnew⟩
def setsO : List Nat → List V → St → St
  | i :: is, v :: vs, σ => setsO is vs (σ.set i (some v))
  | _, _, σ => σ
theorem puts_in : ∀ {is : List Nat} {hs : List Hd} {vs : List V} {ρ₀ ρ : List S} {σ₀ σ : St} {c₀ c : Col} {H₀ H : Hp} {Dn : Ends}, (∀ i ∈ is, i < n) → Stp n c₀ c H₀ H → Kp ρ₀ ρ σ₀ σ → Rep cm K n c H ρ σ → HpOk cm K n H₀ c H σ hs vs →
    QS cm K n W Dn ρ₀ σ₀ c₀ H₀ ((puts is hs >>= fun _ => (pure .nx : M Fl)) ρ) → is.length = vs.length ∧ Dn.nx (setsO is vs σ) H
  | [], [], vs, ρ₀, ρ, σ₀, σ, c₀, c, H₀, H, Dn, hi, s, k, r, h, q => by
    cases (show vs = [] from h)
    exact ⟨rfl, q c σ H s k r⟩
  | [], g :: gs, vs, ρ₀, ρ, σ₀, σ, c₀, c, H₀, H, Dn, hi, s, k, r, h, q => q.elim
  | i :: is, [], vs, ρ₀, ρ, σ₀, σ, c₀, c, H₀, H, Dn, hi, s, k, r, h, q => q.elim
  | i :: is, g :: gs, vs, ρ₀, ρ, σ₀, σ, c₀, c, H₀, H, Dn, hi, s, k, r, ⟨v, t, e, h1, h2, h3, h4⟩, q => by
    subst e
    have q : QS cm K n W Dn ρ₀ σ₀ c₀ H₀ (((put i g >>= fun _ => puts is gs) >>= fun _ => (pure .nx : M Fl)) ρ) := q
    rw [M.bind_run, M.bind_run] at q
    obtain ⟨ρ1, c1, ep, s1, r1, k1, keep⟩ : ∃ ρ1 c1, put i g ρ = .ok () ρ1 ∧ Stp n c₀ c1 H₀ H ∧ Rep cm K n c1 H ρ1 (σ.set i (some v)) ∧ Kp ρ ρ1 σ (σ.set i (some v)) ∧ HpOk cm K n H₀ c1 H (σ.set i (some v)) gs t := by
      have key : ∀ (c1 : Col), (∀ b o, Gz c H b = some o → Gz c1 H b = some o) → ∀ {hs : List Hd} {vs : List V}, (∀ (j : Nat) (g : Hd) (u : V), hs[j]? = some g → isNew g = true → vs[j]? = some u → ∀ b, u = .ref b → c1 b = c b) → HpOk cm K n H₀ c H σ hs vs → HpOk cm K n H₀ c1 H (σ.set i (some v)) hs vs := by
        intro c1 gz hs
        induction hs with
        | nil => exact fun _ h => h
        | cons a as ih =>
          rintro vs hc ⟨v, r, e, h1, h2, h3, h4⟩
          subst e
          refine ⟨v, r, rfl, ?_, h2, h3, ih (fun j g u e1 e2 e3 => hc (j + 1) g u (by simpa using e1) e2 (by simpa using e3)) h4⟩
          cases a with
          | slot j => cases h2
          | val d => exact Den.mono gz _ _ h1
          | new d =>
            obtain ⟨b, e1, e2, e3, e4⟩ := h1
            exact ⟨b, e1, e2, by rw [hc 0 (.new d) v rfl rfl rfl b e1]; exact e3, e4.keep gz fun o q => q⟩
      cases g with
      | slot j => cases h2
      | val d =>
        obtain ⟨c1, s1, r1, k1⟩ := put_ok (h := .val d) (ρ' := ρ.set i (.fr d)) s r h1 (hi i List.mem_cons_self) rfl
        exact ⟨_, c, rfl, s, r.store ⟨v, rfl, h1⟩, k1, key c (fun _ _ h => h) (fun _ _ _ _ _ _ _ _ => rfl) h4⟩
      | new d =>
        obtain ⟨_, _, _, k1⟩ := put_ok (h := .new d) (ρ' := ρ.set i (.own d)) s r h1 (hi i List.mem_cons_self) rfl
        obtain ⟨a, e, g0, g1, g2⟩ := h1
        have gz : ∀ b o, Gz c H b = some o → Gz (cset c a (i + 1)) H b = some o := gz_recol (by omega)
        subst e
        refine ⟨_, cset c a (i + 1), rfl, s.recol g0, (r.recol (by omega) (by omega)).store ⟨a, rfl, cset_same, g2.keep gz fun o q => q⟩, k1, key _ gz (fun j g u e1 e2 e3 b eb => ?_) h4⟩
        exact cset_ne fun z => h3 rfl j g u e1 e2 e3 (by rw [eb, z])
    rw [ep] at q
    have q2 : QS cm K n W Dn ρ₀ σ₀ c₀ H₀ ((puts is gs >>= fun _ => (pure .nx : M Fl)) ρ1) := q
    obtain ⟨l, q3⟩ := puts_in (fun j hj => hi j (List.mem_cons_of_mem _ hj)) s1 (k.trans k1) r1 keep q2
    exact ⟨by rw [List.length_cons, List.length_cons, l], q3⟩

theorem sem_par2 {i j : Nat} {ta : TA} {f : M (List Hd)} (hi : i < n) (hj : j < n) (h : Sem cm K n W (HpOk cm K n) ta f) : SemS cm K n W (tPar i j ta) (sPar [i, j] f) := fun ρ c σ H Dn r q =>
  sem_in h r q fun a ρ' c' H' x s r' hx q' => by
    obtain ⟨l, q3⟩ := puts_in (is := [i, j]) (fun k hk => by simp only [List.mem_cons, List.not_mem_nil, or_false] at hk; omega) s.st s.kp r' hx q'
    match x, l with
    | [v, w], _ => exact ⟨v, w, rfl, q3⟩
theorem sem_par3 {i j k : Nat} {ta : TA} {f : M (List Hd)} (hi : i < n) (hj : j < n) (hk : k < n) (h : Sem cm K n W (HpOk cm K n) ta f) : SemS cm K n W (tPar3 i j k ta) (sPar [i, j, k] f) := fun ρ c σ H Dn r q =>
  sem_in h r q fun a ρ' c' H' x s r' hx q' => by
    obtain ⟨l, q3⟩ := puts_in (is := [i, j, k]) (fun m hm => by simp only [List.mem_cons, List.not_mem_nil, or_false] at hm; omega) s.st s.kp r' hx q'
    match x, l with
    | [u, v, w], _ => exact ⟨u, v, w, rfl, q3⟩
theorem vs_par2 (i j : Nat) {x y : Str} {a b : Expr} {ta : TA} {f : M (List Hd)} {px py pt pos : Pos} {kt k2 pt2} (hc : X.calm = true) (hN : X.N.Nodup) (ha : VP cm X W [a, b] ta f) (hi : X.N[i]? = some x := by rfl) (hj : X.N[j]? = some y := by rfl) (hij : i ≠ j := by decide)
    (hx : X.env.scope.names.lookup x = some .local := by rfl) (hy : X.env.scope.names.lookup y = some .local := by rfl)
    (hw : swappedStores [.Tuple [.Name x px, .Name y py] kt pt] (.Tuple [a, b] k2 pt2) X.env = pure (some [x, y]) := by rfl)
    (hs : swapsWithSole [.Tuple [.Name x px, .Name y py] kt pt] (.Tuple [a, b] k2 pt2) pos.line X.env = pure false := by rfl) :
    VS cm X W (.Assign [.Tuple [.Name x px, .Name y py] kt pt] (.Tuple [a, b] k2 pt2) pos) (tPar i j ta) (sPar [i, j] f) :=
  ⟨ps_par hc hN hi hj hij hx hy ha.pe hw hs, sem_par2 (List.getElem?_eq_some_iff.mp hi).1 (List.getElem?_eq_some_iff.mp hj).1 ha.sem⟩
theorem vs_par3 (i j l : Nat) {x y z : Str} {a b e : Expr} {ta : TA} {f : M (List Hd)} {px py pz pt pos : Pos} {kt k2 pt2} (hc : X.calm = true) (hN : X.N.Nodup) (ha : VP cm X W [a, b, e] ta f) (hi : X.N[i]? = some x := by rfl) (hj : X.N[j]? = some y := by rfl) (hl : X.N[l]? = some z := by rfl)
    (hij : i ≠ j := by decide) (hil : i ≠ l := by decide) (hjl : j ≠ l := by decide)
    (hx : X.env.scope.names.lookup x = some .local := by rfl) (hy : X.env.scope.names.lookup y = some .local := by rfl) (hz : X.env.scope.names.lookup z = some .local := by rfl)
    (hw : swappedStores [.Tuple [.Name x px, .Name y py, .Name z pz] kt pt] (.Tuple [a, b, e] k2 pt2) X.env = pure (some [x, y, z]) := by rfl)
    (hs : swapsWithSole [.Tuple [.Name x px, .Name y py, .Name z pz] kt pt] (.Tuple [a, b, e] k2 pt2) pos.line X.env = pure false := by rfl) :
    VS cm X W (.Assign [.Tuple [.Name x px, .Name y py, .Name z pz] kt pt] (.Tuple [a, b, e] k2 pt2) pos) (tPar3 i j l ta) (sPar [i, j, l] f) :=
  ⟨ps_par3 hc hN hi hj hl hij hil hjl hx hy hz ha.pe hw hs, sem_par3 (List.getElem?_eq_some_iff.mp hi).1 (List.getElem?_eq_some_iff.mp hj).1 (List.getElem?_eq_some_iff.mp hl).1 ha.sem⟩
/-! several names from a tuple that is written beside -/
structure VNs (X : Cx) (is : List Nat) (es : List Expr) (g : TGs) : Prop where
  pe : PGs X es g
  lt : ∀ i ∈ is, i < X.N.length
  eq : ∀ vs σ H Q, is.length = vs.length → Q (setsO is vs σ) H → g vs σ H Q
theorem vns_nil : VNs X [] [] gNil := ⟨pgs_nil, (fun _ h => nomatch h), fun vs σ H Q l q => by
  cases vs with
  | nil => exact ⟨rfl, q⟩
  | cons _ _ => cases l⟩
theorem vns_cons (i : Nat) {is : List Nat} {x : Str} {es : List Expr} {u : TGs} {pos : Pos} (hN : X.N.Nodup) (h : VNs X is es u) (hi : X.N[i]? = some x := by rfl) (hx : Loc X.env.scope x := by first | exact Or.inl rfl | exact Or.inr rfl) (hf : X.fn x = true ∨ X.env.scope.names.lookup x = some .local := by first | exact .inl rfl | exact .inr rfl | assumption)
    (hs : (assignEach (.Name x pos :: es) X.env).map (·.2) = assign (.Name x pos) X.env :: (assignEach es X.env).map (·.2) := by rfl) : VNs X (i :: is) (.Name x pos :: es) (gCons (gName i) u) :=
  ⟨pgs_cons (pg_name hN hi hx hf) h.pe hs, fun j hj => (List.mem_cons.mp hj).elim (fun e => by rw [e]; exact (List.getElem?_eq_some_iff.mp hi).1) (h.lt j), fun vs σ H Q l q => by
    cases vs with
    | nil => cases l
    | cons v vs => exact ⟨v, vs, rfl, h.eq vs _ H Q (by simpa using l) q⟩⟩
theorem vs_asgT {is : List Nat} {ts es : List Expr} {g : TGs} {ta : TA} {f : M (List Hd)} {m : Nat} {kt k2 : Nat} {pt pt2 pos : Pos} (hc : X.calm = true) (hg : VNs X is ts g) (ha : VP cm X W es ta f)
    (hlen : (assignEach ts X.env).length = m := by rfl) (hst : (assignEach ts X.env).findIdx? (·.1) = none := by rfl) (hm : is.length = m := by rfl) (hml : (decide (m ≤ 100)) = true := by rfl)
    (hs : swapsWithSole [.Tuple ts kt pt] (.Tuple es k2 pt2) pos.line X.env = pure false := by rfl) (hw : swappedStores [.Tuple ts kt pt] (.Tuple es k2 pt2) X.env = pure none := by rfl)
    (h1 : (assignEach [.Tuple ts kt pt] X.env).map (·.2) = [assign (.Tuple ts kt pt) X.env] := by rfl) :
    VS cm X W (.Assign [.Tuple ts kt pt] (.Tuple es k2 pt2) pos) (tAsg (tTup ta) (gTup X.K m g)) (sPar is f) := ⟨ps_asg (pe_tup ha.pe) (pg_tup hc hg.pe hlen hst) hs hw h1, fun ρ c σ H Dn r q =>
  sem_in (t := ta) (Q := fun xs H1 => xs.length ≤ sizeLine ∧ ∀ p, H1 p = none → gTup X.K m g (.ref p) σ (upd H1 p (.tup xs)) Dn.nx) ha.sem r q fun a ρ' c' H' x s r' hx q' => by
    -- the tuple that is made on the way
    have two : ∀ p, H' p = none → is.length = x.length ∧ Dn.nx (setsO is x σ) (upd H' p (.tup x)) := fun p hp => by
      have ex : Ext c' (cset c' p (X.N.length + 1)) H' (upd H' p (.tup x)) := Ext.alloc hp
      exact puts_in hg.lt (s.st.trans ex.stp) s.kp (r'.ext ex) (hx.stp ex.stp) q'
    have l : is.length = x.length := by
      have one : ∀ {is : List Nat} {hs : List Hd} {vs : List V} {ρ2 : List S}, HpOk cm X.K X.N.length H c' H' σ hs vs → QS cm X.K X.N.length W Dn ρ σ c H ((puts is hs >>= fun _ => (pure .nx : M Fl)) ρ2) → is.length = vs.length := by
        intro is
        induction is with
        | nil =>
          intro hs vs ρ2 h q
          cases hs with
          | nil => cases (show vs = [] from h); rfl
          | cons _ _ => exact q.elim
        | cons i is ih =>
          intro hs vs ρ2 h q
          cases hs with
          | nil => exact q.elim
          | cons g gs =>
            obtain ⟨v, t, e, _, _, _, h4⟩ := h
            subst e
            have q : QS cm X.K X.N.length W Dn ρ σ c H (((put i g >>= fun _ => puts is gs) >>= fun _ => (pure .nx : M Fl)) ρ2) := q
            rw [M.bind_run, M.bind_run] at q
            rcases put_cases i g ρ2 with ⟨ρ1, ep⟩ | ep
            · rw [ep] at q
              rw [List.length_cons, List.length_cons, ih h4 q]
            · rw [ep] at q; exact q.elim
      exact one hx q'
    have hml' : m ≤ 100 := by simpa using hml
    refine ⟨Nat.le_trans (by omega) (by decide : 100 ≤ sizeLine), fun p hp => ⟨p, x, rfl, SqT.of upd_same, by omega, ?_⟩⟩
    exact hg.eq x σ _ _ l (two p hp).2⟩
/-- a tuple's items from an expression -/
def sUnp (tg : D → M Unit) (f : M Hd) : M Fl := f >>= fun h => fz h >>= fun d => (tg d).nox >>= fun _ => pure .nx
theorem vs_unp {tg e : Expr} {te : TE} {g : TG} {is : List Nat} {f : M Hd} {ft : D → M Unit} {pos : Pos} (he : VE cm X W e te f) (hg : VG cm X is tg g ft) (hs : swapsWithSole [tg] e pos.line X.env = pure false := by rfl) (hw : swappedStores [tg] e X.env = pure none := by rfl)
    (h1 : (assignEach [tg] X.env).map (·.2) = [assign tg X.env] := by rfl) : VS cm X W (.Assign [tg] e pos) (tAsg te g) (sUnp ft f) := ⟨ps_asg he.pe hg.pe hs hw h1, fun ρ c σ H Dn r q =>
  sem_in he.sem r q fun a ρ1 c1 H1 x s1 r1 hx q1 => by
    rw [M.bind_run] at q1
    rcases fz_cases a ρ1 with ⟨d, ρ2, ez⟩ | ez
    case inr => rw [ez] at q1; exact q1.elim
    rw [ez] at q1
    dsimp only at q1
    obtain ⟨c2, s2, r2, dd, g2⟩ := fz_ok s1 r1 hx ez
    refine hg.sem d x ρ2 c2 σ H1 _ r2 dd ?_
    rw [M.bind_run] at q1
    cases eg : ft d ρ2 with
    | bad => simp only [M.nox, eg] at q1; exact q1.elim
    | exc k ρ3 => simp only [M.nox, eg] at q1; exact q1.elim
    | ok _ ρ3 =>
      simp only [M.nox, eg] at q1
      exact fun c' σ' H' s k _ r' => (show QN cm X.K X.N.length Dn.nx ρ σ c H ρ3 from q1) c' σ' H' (s2.st.trans s) (s2.kp.trans k) r'⟩
end
end Vi

/-! ## ViMore -/
set_option Elab.async false
set_option linter.all false
set_option maxRecDepth 100000
set_option maxHeartbeats 400000
namespace Vi
open PySem L2
/-! the rules again, with the written part named by a letter of its own: within a comprehension no trace speaks of its frame -/
theorem pass0At {X : Cx} : ∀ σ, PassesAt (L2.CX X.prog X.w) X σ (WE W0 σ) := fun σ pins H s e s' => passL pins σ H s e s'
theorem o_units {k : Nat} {A : Around} (h : Room k A) : A.units + 64 < cLine := by have := h.un; omega
section
variable {cm : Nat → Addr} {X : Cx} {W : WX} {n : Nat} (K : PySem.W.Frag)
theorem wcmp {op : CmpOp} {r : R2} {g : D → D → Option Hd} {a b : Expr} {ta tb : TE} {fa fb : M Hd} {pos : Pos} (hs : OpS cm K X.N.length r g) (ho : OpR X (compareOp op) r) (hm : behindInMarks op b = false) (ha : VE cm X W a ta fa) (hb : VE cm X W b tb fb) (hK : X.K = K := by rfl) :
    VE cm X W (.Compare a [op] [b] pos) (tOp r ta tb) (eOp g fa fb) := ve_cmp ho (by rw [hK]; exact hs) hm ha hb
theorem wcmpT {op : CmpOp} {r : R2} {g : D → D → Option Hd} {a b : Expr} {ta tb : TE} {fa fb : M Hd} {pos : Pos} (hs : OpS cm K X.N.length r g) (ho : OpR X (compareOp op) r) (hm : behindInMarks op b = false) (ha : VE cm X W a ta fa) (hb : VE cm X W b tb fb) (hK : X.K = K := by rfl) :
    VT cm X W (.Compare a [op] [b] pos) (tTest (tOp r ta tb)) (eTest (eOp g fa fb)) := vt_cmp ho (by rw [hK]; exact hs) hm ha hb
theorem wop {op : Operator} {r : R2} {g : D → D → Option Hd} {a b : Expr} {ta tb : TE} {fa fb : M Hd} {pos : Pos} (hs : OpS cm K X.N.length r g) (ho : OpR X (binaryOp op) r) (ha : VE cm X W a ta fa) (hb : VE cm X W b tb fb) (hK : X.K = K := by rfl) :
    VE cm X W (.BinOp a op b pos) (tOp r ta tb) (eOp g fa fb) := ve_op ho (by rw [hK]; exact hs) ha hb
theorem wchain {op op' : CmpOp} {r r' : R2} {g g' : D → D → Option Hd} {a b e : Expr} {ta tb te : TE} {fa fb fe : M Hd} {pos : Pos} (h1 : OpS cm K X.N.length r g) (h2 : OpS cm K X.N.length r' g') (ho : OpR X (compareOp op) r) (ho' : OpR X (compareOp op') r')
    (ha : VE cm X W a ta fa) (hb : VE cm X W b tb fb) (he : VE cm X W e te fe) (hK : X.K = K := by rfl) (hm : lastMarks [op, op'] [b, e] = false := by with_unfolding_all rfl) : VE cm X W (.Compare a [op, op'] [b, e] pos) (tChain r r' ta tb te) (eChain g g' fa fb fe) :=
  ve_chain ho (by rw [hK]; exact h1) ho' (by rw [hK]; exact h2) ha hb he hm
theorem wchainT {op op' : CmpOp} {r r' : R2} {g g' : D → D → Option Hd} {a b e : Expr} {ta tb te : TE} {fa fb fe : M Hd} {pos : Pos} (h1 : OpS cm K X.N.length r g) (h2 : OpS cm K X.N.length r' g') (ho : OpR X (compareOp op) r) (ho' : OpR X (compareOp op') r')
    (ha : VE cm X W a ta fa) (hb : VE cm X W b tb fb) (he : VE cm X W e te fe) (hK : X.K = K := by rfl) (hm : lastMarks [op, op'] [b, e] = false := by with_unfolding_all rfl) : VT cm X W (.Compare a [op, op'] [b, e] pos) (tTest (tChain r r' ta tb te)) (eTest (eChain g g' fa fb fe)) :=
  vt_chain ho (by rw [hK]; exact h1) ho' (by rw [hK]; exact h2) ha hb he hm
theorem wix (hu : X.A.units + 64 < cLine) {a b : Expr} {ta tb : TE} {fa fb : M Hd} {pos : Pos} (ha : VE cm X W a ta fa) (hb : VE cm X W b tb fb) (hK : X.K = K := by rfl) (hs : PlainIx b := by exact fun _ _ => rfl) : VE cm X W (.Subscript a b pos) (tOp (rIxA K) ta tb) (eOp aIx fa fb) := by
  subst hK; exact ve_ix ha hb hu hs
theorem wslice {e : Expr} {lo hi : Option Expr} {te : TE} {tl th : TO} {f : M Hd} {fl fh : M (Option Int)} {p2 pos : Pos} (h : VE cm X W e te f) (hl : VO cm X W lo tl fl) (hh : VO cm X W hi th fh) (hK : X.K = K := by rfl) :
    VE cm X W (.Subscript e (.Slice lo hi none p2) pos) (tSl (rSl K) te tl th) (eSl f fl fh) := by
  subst hK; exact ve_slice h hl hh
theorem wany {tg l : Expr} {tl : TE} {f : M Hd} (h : VE cm X W l tl f) (hK : X.K = K := by rfl) : VI cm X W tg l (iAny K tl) (itAny f) := by
  subst hK; exact vi_any h
theorem wcb {id : String} {x : Str} {r : List V → Hp → VK → Prop} {g : List D → Option Hd} {e : Expr} {es : List Expr} {t : TA} {f : M (List Hd)} {p pos : Pos} (hs : CallS cm K X.N.length r g) (hc : CallR X (.builtin id) r) (hm : X.mg x = none) (ha : VA cm X W (e :: es) t f) (hK : X.K = K := by rfl)
    (hg : Gl X x := by rfl) (hv : bootBuiltins x = some (.builtin id) := by decide +kernel) (hn : x ≠ "__name__" := by decide) (hdb : (x == ("__debug__" : Str)) = false := by decide)
    (he : starEach (e :: es) X.env = (false, eval e X.env) :: starEach es X.env := by rfl) (hpl : (backTo pos (starEach es X.env)).any (·.1) = false := by rfl) : VE cm X W (.Call (.Name x p) (e :: es) [] pos) (tCB r t) (eCB g f) :=
  ve_callB hc (by rw [hK]; exact hs) hm ha hg hv hn hdb he hpl
theorem wct {T : String} {x : Str} {r : List V → Hp → VK → Prop} {g : List D → Option Hd} {e : Expr} {es : List Expr} {t : TA} {f : M (List Hd)} {p pos : Pos} (hs : CallS cm K X.N.length r g) (hc : CallR X (.type T) r) (hm : X.mg x = none) (ha : VA cm X W (e :: es) t f) (hK : X.K = K := by rfl)
    (hg : Gl X x := by rfl) (hv : bootBuiltins x = some (.type T) := by decide +kernel) (hn : x ≠ "__name__" := by decide) (hdb : (x == ("__debug__" : Str)) = false := by decide)
    (he : starEach (e :: es) X.env = (false, eval e X.env) :: starEach es X.env := by rfl) (hpl : (backTo pos (starEach es X.env)).any (·.1) = false := by rfl) : VE cm X W (.Call (.Name x p) (e :: es) [] pos) (tCB r t) (eCB g f) :=
  ve_callTy hc (by rw [hK]; exact hs) hm ha hg hv hn hdb he hpl
theorem wcall {P : Program} {w : World} {mg : Str → Option Value} {base : Heap} {j m : Nat} {x : Str} {φ : List D → Out} {e : Expr} {es : List Expr} {t : TA} {f : M (List Hd)} {p pos : Pos} (F : Fn P w K mg base cm j x m φ) (hr : Room j X.A) (hx : ∀ σ, PassesAt (L2.CX X.prog X.w) X σ (WE W σ)) (ha : VA cm X W (e :: es) t f)
    (hP : X.prog = P := by rfl) (hw : X.w = w := by rfl) (hK : X.K = K := by rfl) (hmg : X.mg = mg := by rfl) (hb : X.base = base := by rfl)
    (hg : Gl X x := by rfl) (hdb : (x == ("__debug__" : Str)) = false := by decide) (he : starEach (e :: es) X.env = (false, eval e X.env) :: starEach es X.env := by rfl) (hpl : (backTo pos (starEach es X.env)).any (·.1) = false := by rfl) :
    VE cm X W (.Call (.Name x p) (e :: es) [] pos) (tCallS (spV cm K m φ) (WE W) t) (eCall m φ f) := by
  subst hP hw hK hmg hb
  exact ve_call F hr hx ha hg hdb he hpl
theorem worT {a b : Expr} {rest : List Expr} {ta tb : TE} {fa fb : M Hd} {pos : Pos} (ha : VE cm X W a ta fa) (hb : VE cm X W (.BoolOp .Or (b :: rest) pos) tb fb) (hK : X.K = K := by rfl) : VE cm X W (.BoolOp .Or (a :: b :: rest) pos) (tOrT K ta tb) (eOrT fa fb) := by
  subst hK; exact ve_orT ha hb
theorem wandT {a b : Expr} {rest : List Expr} {ta tb : TE} {fa fb : M Hd} {pos : Pos} (ha : VE cm X W a ta fa) (hb : VE cm X W (.BoolOp .And (b :: rest) pos) tb fb) (hK : X.K = K := by rfl) : VE cm X W (.BoolOp .And (a :: b :: rest) pos) (tAndT K ta tb) (eAndT fa fb) := by
  subst hK; exact ve_andT ha hb
theorem wnotT {a : Expr} {ta : TE} {fa : M Hd} {pos : Pos} (ha : VE cm X W a ta fa) (hK : X.K = K := by rfl) : VE cm X W (.UnaryOp .Not a pos) (tNotT K ta) (eNotT fa) := by
  subst hK; exact ve_notT ha
end
section
variable {cm : Nat → Addr} {X : Cx} {W : WX} {n : Nat}
theorem wapp (i : Nat) {x : Str} {e : Expr} {te : TE} {f : M Hd} {p apos pos : Pos} (h : VE cm X W e te f) (hN : X.N[i]? = some x := by rfl) (hv : Vis X.env.scope x := by first | exact Or.inl rfl | exact Or.inr (Or.inl rfl) | exact Or.inr (Or.inr rfl)) (hd : (x == ("__debug__" : Str)) = false := by decide)
    (hcd : (x == ("__classdict__" : Str)) = false := by decide) (h0 : attributeBase (.Name x p) "append" X.env (eval (.Name x p) X.env) = eval (.Name x p) X.env := by rfl)
    (h1 : ((((backTo pos (starEach [e] X.env)).all (!·.1)) && ((backToKw pos (keywordEach [] X.env)).all (·.1.isSome))) && decide (([e].length + ([] : List Keyword).length + if ([] : List Keyword).isEmpty = true then 0 else 1) < 30)) = true := by rfl)
    (h2 : (apos.endLine == pos.line) = true := by rfl) (h3 : starEach [e] X.env = (false, eval e X.env) :: starEach [] X.env := by rfl) :
    VE cm X W (.Call (.Attribute (.Name x p) "append" apos) [e] [] pos) (tBM X.K "list" rAppend (tVar i) (tCons te tNil)) (eAppend i f) :=
  ve_append i h hN hv hd hcd (pe_bm PySem.F.plainAttrs_list PySem.F.slot_list_append PySem.F.type_list_append mt_append (pe_var hN hv hd hcd) (pa_cons h.pe pa_nil h3) h0 h1 h2 h3 rfl)
theorem wext (i : Nat) {x : Str} {e : Expr} {te : TE} {f : M Hd} {p apos pos : Pos} (h : VE cm X W e te f) (hN : X.N[i]? = some x := by rfl) (hv : Vis X.env.scope x := by first | exact Or.inl rfl | exact Or.inr (Or.inl rfl) | exact Or.inr (Or.inr rfl)) (hd : (x == ("__debug__" : Str)) = false := by decide)
    (hcd : (x == ("__classdict__" : Str)) = false := by decide) (h0 : attributeBase (.Name x p) "extend" X.env (eval (.Name x p) X.env) = eval (.Name x p) X.env := by rfl)
    (h1 : ((((backTo pos (starEach [e] X.env)).all (!·.1)) && ((backToKw pos (keywordEach [] X.env)).all (·.1.isSome))) && decide (([e].length + ([] : List Keyword).length + if ([] : List Keyword).isEmpty = true then 0 else 1) < 30)) = true := by rfl)
    (h2 : (apos.endLine == pos.line) = true := by rfl) (h3 : starEach [e] X.env = (false, eval e X.env) :: starEach [] X.env := by rfl) :
    VE cm X W (.Call (.Attribute (.Name x p) "extend" apos) [e] [] pos) (tBM X.K "list" rExtend (tVar i) (tCons te tNil)) (eExtend i f) :=
  ve_extend i h (pe_bm PySem.F.plainAttrs_list PySem.F.slot_list_extend PySem.F.type_list_extend mt_extend (pe_var hN hv hd hcd) (pa_cons h.pe pa_nil h3) h0 h1 h2 h3 rfl)
theorem wpop (i : Nat) {x : Str} {p apos pos : Pos} (hN : X.N[i]? = some x := by rfl) (hv : Vis X.env.scope x := by first | exact Or.inl rfl | exact Or.inr (Or.inl rfl) | exact Or.inr (Or.inr rfl)) (hd : (x == ("__debug__" : Str)) = false := by decide)
    (hcd : (x == ("__classdict__" : Str)) = false := by decide) (h0 : attributeBase (.Name x p) "pop" X.env (eval (.Name x p) X.env) = eval (.Name x p) X.env := by rfl)
    (h2 : (apos.endLine == pos.line) = true := by rfl) :
    VE cm X W (.Call (.Attribute (.Name x p) "pop" apos) [] [] pos) (tBM0 X.K "list" rPop (tVar i)) (ePop i) :=
  ve_pop i (pe_bm0 PySem.F.plainAttrs_list PySem.F.slot_list_pop PySem.F.type_list_pop mt_pop (pe_var hN hv hd hcd) h0 h2)
theorem wsetix (i : Nat) {x : Str} {e ej : Expr} {te tj : TE} {f fj : M Hd} {p p2 pos : Pos} (he : VE cm X W e te f) (hj : VE cm X W ej tj fj) (hN : X.N[i]? = some x := by rfl) (hv : Vis X.env.scope x := by first | exact Or.inl rfl | exact Or.inr (Or.inl rfl) | exact Or.inr (Or.inr rfl)) (hd : (x == ("__debug__" : Str)) = false := by decide)
    (hcd : (x == ("__classdict__" : Str)) = false := by decide)
    (h1 : swapsWithSole [.Subscript (.Name x p) ej p2] e pos.line X.env = pure false := by rfl) (h2 : swappedStores [.Subscript (.Name x p) ej p2] e X.env = pure none := by rfl)
    (h3 : (assignEach [.Subscript (.Name x p) ej p2] X.env).map (·.2) = [assign (.Subscript (.Name x p) ej p2) X.env] := by rfl)
    (h4 : ∀ v, assign (.Subscript (.Name x p) ej p2) X.env v = (do
      let ov ← holding [v] (eval (.Name x p) X.env)
      let iv ← holding [v, ov] (eval ej X.env)
      standAt p2
      holding [v, ov, iv] (setItem ov iv v)
      release [v, ov, iv] []) := by intro _; rfl) :
    VS cm X W (.Assign [.Subscript (.Name x p) ej p2] e pos) (tAsg te (gSub (tVar i) tj rSetL)) (sSetIx i fj f) :=
  vs_setIx i he hj (ps_asg he.pe (pg_sub (pe_var hN hv hd hcd) hj.pe set_list h4) h1 h2 h3)
/-! #### return alone -/
/-! insertion -/
def insL {α : Type} (le : α → α → Bool) (x : α) : List α → List α
  | [] => [x]
  | y :: r => if le x y = true then x :: y :: r else y :: insL le x r
def isortL {α : Type} (le : α → α → Bool) : List α → List α
  | [] => []
  | x :: r => insL le x (isortL le r)
theorem insL_perm {α : Type} (le : α → α → Bool) (x : α) : ∀ l : List α, (insL le x l).Perm (x :: l)
  | [] => List.Perm.refl _
  | y :: r => by
    unfold insL
    split
    · exact List.Perm.refl _
    · exact ((insL_perm le x r).cons y).trans (List.Perm.swap x y r)
theorem isortL_perm {α : Type} (le : α → α → Bool) : ∀ l : List α, (isortL le l).Perm l
  | [] => List.Perm.refl _
  | x :: r => (insL_perm le x _).trans ((isortL_perm le r).cons x)
theorem insL_pw {α : Type} {le : α → α → Bool} (tot : ∀ a b, le a b = false → le b a = true) (tr : ∀ a b c, le a b = true → le b c = true → le a c = true) (x : α) : ∀ l : List α, l.Pairwise (fun a b => le a b = true) → (insL le x l).Pairwise fun a b => le a b = true
  | [], _ => List.pairwise_singleton _ _
  | y :: r, h => by
    have h1 := (List.pairwise_cons.mp h).1
    have h2 := (List.pairwise_cons.mp h).2
    unfold insL
    split
    · rename_i q
      refine List.pairwise_cons.mpr ⟨fun z hz => ?_, h⟩
      rcases List.mem_cons.mp hz with e | e
      · rw [e]; exact q
      · exact tr _ _ _ q (h1 z e)
    · rename_i q
      refine List.pairwise_cons.mpr ⟨fun z hz => ?_, insL_pw tot tr x r h2⟩
      rcases List.mem_cons.mp ((insL_perm le x r).mem_iff.mp hz) with e | e
      · rw [e]; exact tot _ _ (by simpa using q)
      · exact h1 z e
theorem isortL_pw {α : Type} {le : α → α → Bool} (tot : ∀ a b, le a b = false → le b a = true) (tr : ∀ a b c, le a b = true → le b c = true → le a c = true) : ∀ l : List α, (isortL le l).Pairwise fun a b => le a b = true
  | [] => List.Pairwise.nil
  | x :: r => insL_pw tot tr x _ (isortL_pw tot tr r)
def leI (a b : Int) : Bool := decide (a ≤ b)
def leT (a b : List Nat) : Bool := !decide (b < a)
theorem leI_tot (a b : Int) (h : leI a b = false) : leI b a = true := by unfold leI at *; simp at *; omega
theorem leI_tr (a b c : Int) (h : leI a b = true) (h2 : leI b c = true) : leI a c = true := by unfold leI at *; simp at *; omega
def sortI (ns : List Int) : List Int := isortL leI ns
def dedup {α : Type} [DecidableEq α] : List α → List α
  | [] => []
  | x :: r => if x ∈ r then dedup r else x :: dedup r
def sortS (xs : List (List Nat)) : List (List Nat) := isortL leT xs
def sortSetD : D → Option Hd
  | .lst ds => match ints? ds with
    | some ns => if ns.length < 4000 ∧ (dedup ns).length < 64 then some (.new (.lst ((sortI (dedup ns)).map .int))) else none
    | none => match strs? ds with
      | some xs => if xs.length < 4000 ∧ (dedup xs).length < 64 then some (.new (.lst ((sortS (dedup xs)).map .str))) else none
      | none => none
  | _ => none
end
end Vi

/-! ## ViSet -/
set_option Elab.async false
set_option linter.all false
set_option maxRecDepth 100000
set_option maxHeartbeats 3200000
namespace Vi
open PySem L2 PySem.Spec PyProof.Rows
/-! ### sets of ints and texts that are made of a list or a text and sorted at once -/
def gk : Value → Key
  | .int i _ => .inl i
  | .str x _ => .inr x
  | _ => .inl 0
theorem gk_of {k : Key} {v : Value} (h : keyIs k v = true) : gk v = k := by
  rcases keyIs_shape h with ⟨i, t, e1, e2⟩ | ⟨x, t, e1, e2⟩ <;> (subst e1 e2; rfl)
theorem key_sc {k : Key} {v : Value} (h : keyIs k v = true) : v.scannable = true := by
  rcases keyIs_shape h with ⟨i, t, e1, e2⟩ | ⟨x, t, e1, e2⟩ <;> (subst e1 e2; rfl)
/-- a row of the set's table -/
def Ent (w : World) (e : Int × Value) : Prop := keyIs (gk e.2) e.2 = true ∧ e.1 = keyH w (gk e.2)
abbrev gks (es : Array (Int × Value)) : List Key := es.toList.map fun e => gk e.2
/-- the set at a holds the keys of L -/
structure Tab (w : World) (L : List Key) (o : Obj) (es : Array (Int × Value)) (ep : Nat) (t : SetTable) : Prop where
  ex : o.ExactSet
  dt : o.data = .set es ep t
  en : ∀ e ∈ es.toList, Ent w e
  nd : (gks es).Nodup
  mem : ∀ k, k ∈ L ↔ k ∈ gks es
  few : es.size ≤ L.length
  fit : t.fits es.size = true
  ris : Ris t.place.toList
  led : w.params.followText "set-order" = true ∨ t.led = true
def SetG (w : World) (h : Heap) (a : Addr) (L : List Key) : Prop := ∃ o es ep t, h.get? a = some o ∧ Tab w L o es ep t
section
variable {P : Program} {w : World} {A : Around} {E : Value → Shared → Prop} {s : Shared} {a : Addr} {L : List Key}
theorem SetG.at_ {h h' : Heap} (R : SetG w h a L) (k : ∀ o, h.get? a = some o → h'.get? a = some o) : SetG w h' a L := by
  obtain ⟨o, es, ep, t, ho, T⟩ := R
  exact ⟨o, es, ep, t, k o ho, T⟩
theorem ent_elems {es : Array (Int × Value)} (g : ∀ e ∈ es.toList, Ent w e) : ElemsOf (mixKind P w) es.toList := fun e he =>
  ⟨⟨gk e.2, (g e he).1, (g e he).2⟩, key_sc (g e he).1⟩
theorem tab_found {o : Obj} {es : Array (Int × Value)} {ep : Nat} {t : SetTable} {k : Key} (T : Tab w L o es ep t) (hk : k ∈ L) : Tab w (L ++ [k]) o es ep t :=
  { T with mem := fun j => by
             rw [List.mem_append, List.mem_singleton, ← T.mem j]
             exact ⟨fun h => h.elim id fun e => e ▸ hk, .inl⟩
           few := by rw [List.length_append]; exact Nat.le_trans T.few (Nat.le_add_right _ _) }
/-- the table with one row more, in whatever order -/
theorem tab_more {o o' : Obj} {es es1 : Array (Int × Value)} {ep ep' : Nat} {t t1 : SetTable} {k : Key} {v : Value} (T : Tab w L o es ep t) (hk : k ∉ L) (hv : keyIs k v = true) (pm : es1.toList.Perm ((keyH w k, v) :: es.toList))
    (hx : o'.ExactSet) (hd : o'.data = .set es1 ep' t1) (hf : t1.fits es1.size = true) (hr : Ris t1.place.toList) (hl : t1.led = t.led) : Tab w (L ++ [k]) o' es1 ep' t1 := by
  have pk : (gks es1).Perm (k :: gks es) := by
    have q := pm.map fun e => gk e.2
    rw [List.map_cons] at q
    rw [gk_of hv] at q
    exact q
  refine ⟨hx, hd, fun e he => ?_, ?_, fun j => ?_, ?_, hf, hr, T.led.imp id fun z => by rw [hl]; exact z⟩
  · rcases List.mem_cons.mp (pm.mem_iff.mp he) with z | z
    · subst z
      exact ⟨by show keyIs (gk v) v = true; rw [gk_of hv]; exact hv, by show keyH w k = keyH w (gk v); rw [gk_of hv]⟩
    · exact T.en e z
  · exact pk.nodup_iff.mpr (List.nodup_cons.mpr ⟨fun z => hk ((T.mem k).mpr z), T.nd⟩)
  · rw [pk.mem_iff, List.mem_cons, List.mem_append, List.mem_singleton, T.mem j]
    exact Or.comm
  · have q := pm.length_eq
    rw [List.length_cons, Array.length_toList, Array.length_toList] at q
    rw [List.length_append, q]
    exact Nat.succ_le_succ T.few
theorem tab_relay {o o' : Obj} {es es2 : Array (Int × Value)} {ep ep' : Nat} {t t2 : SetTable} (T : Tab w L o es ep t) (pm : es2.toList.Perm es.toList)
    (hx : o'.ExactSet) (hd : o'.data = .set es2 ep' t2) (hf : t2.fits es2.size = true) (hr : Ris t2.place.toList) (hl : t2.led = t.led) : Tab w L o' es2 ep' t2 := by
  have pk : (gks es2).Perm (gks es) := pm.map fun e => gk e.2
  refine ⟨hx, hd, fun e he => T.en e (pm.mem_iff.mp he), pk.nodup_iff.mpr T.nd, fun j => (T.mem j).trans pk.mem_iff.symm, ?_, hf, hr, T.led.imp id fun z => by rw [hl]; exact z⟩
  have q := pm.length_eq
  rw [Array.length_toList, Array.length_toList] at q
  rw [q]; exact T.few
/-- what follows the search, where the key is new -/
theorem tail_ok {g : Bool → PySem.Sem Unit} (hg : ∀ (b : Bool) (s₁ : Shared) (Q' : Unit → Shared → Prop), Q' () s₁ → wpAny (model P w) A (g b) Q' E s₁) {o : Obj} {es es1 : Array (Int × Value)} {ep : Nat} {t t1 : SetTable} {L' : List Key} {old : Bool} {R : Option Bool → Shared → Prop}
    (ho : s.heap.get? a = some o) (hd : o.data = .set es ep t) (T : Tab w L' { o with data := .set es1 (ep + 1) t1 } es1 (ep + 1) t1) (hb : es1.size < scanBound)
    (hR : ∀ h', Heap.SameBut a s.heap h' → SetG w h' a L' → R (some true) { s with heap := h' }) :
    wpAny (model P w) A (do
      storeSet a es1 t1
      if (!old && t1.tooFull) = true then do
          g (relayAll t1 es1 (SetTable.grown es1.size)).2.2
          storeSet a (relayAll t1 es1 (SetTable.grown es1.size)).1 (relayAll t1 es1 (SetTable.grown es1.size)).2.1
          pure (some true)
        else pure (some true)) R E s := by
  have ho1 := store_at (es' := es1) (t' := t1) ho hd
  have same1 := Heap.SameBut.update s.heap a (Obj.putSet es1 t1)
  refine wpAny_bind (wpAny_storeSet_of ho hd ?_ (fits_of_scanBound hb))
  by_cases full : (!old && t1.tooFull) = true
  case neg => rw [if_neg full]; exact wpAny_pure (hR _ same1 ⟨_, es1, _, t1, ho1, T⟩)
  rw [if_pos full]
  have pm := relayAll_perm t1 es1 (SetTable.grown es1.size)
  have f3 := relayAll_fits t1 es1 (SetTable.grown es1.size)
  have r3 := relayAll_ris t1 es1 (SetTable.grown es1.size)
  have l3 := relayAll_led t1 es1 (SetTable.grown es1.size)
  generalize relayAll t1 es1 (SetTable.grown es1.size) = Z at pm f3 r3 l3 ⊢
  obtain ⟨es2, t2, gave⟩ := Z
  dsimp only at pm f3 r3 l3 ⊢
  have size2 : es2.size = es1.size := by have q := pm.length_eq; rw [Array.length_toList, Array.length_toList] at q; exact q
  refine wpAny_bind (hg _ _ _ (wpAny_bind (wpAny_storeSet_of ho1 rfl ?_ (fits_of_scanBound (by rw [size2]; exact hb)))))
  have ho2 := store_at (es' := es2) (t' := t2) ho1 rfl
  exact wpAny_pure (hR _ (same1.trans (Heap.SameBut.update _ a _)) ⟨_, es2, _, t2, ho2, tab_relay T pm T.ex rfl f3 r3 l3⟩)
theorem setG_add {k : Key} {v : Value} {Q : Bool → Shared → Prop} (hv : keyIs k v = true) (R : SetG w s.heap a L) (room : L.length + 1 < scanBound) (hQ : ∀ h' b, Heap.SameBut a s.heap h' → SetG w h' a (L ++ [k]) → Q b { s with heap := h' }) :
    wpAny (model P w) A (setAddHashed a v (keyH w k)) Q E s := by
  obtain ⟨o, es, ep, t, ho, T⟩ := R
  have hb : es.size < scanBound := Nat.lt_of_le_of_lt T.few (Nat.lt_of_succ_lt room)
  have els : ElemsOf (mixKind P w) es.toList := ent_elems T.en
  unfold setAddHashed setAddHashedIn
  refine wpAny_holding (wpAny_bind (wpAny_setState_of ho T.dt T.fit ?_))
  dsimp only
  rw [byScan_of (knd := mixKind P w) (key_sc hv) hb els]
  simp only [↓reduceIte]
  unfold setAddByScan
  refine wpAny_bind (wpAny_bind (wpAny_rule (wpAny_bind (wpAny_setScan_of (knd := mixKind P w) (k := k) hv ho T.dt T.fit els ?_))))
  cases at_k : es.toList.findIdx? (fun e => (mixKind P w).is k e.2) with
  | some j =>
    obtain ⟨hj, pj, _⟩ := List.findIdx?_eq_some_iff_getElem.mp at_k
    have inL : k ∈ L := (T.mem k).mpr (List.mem_map.mpr ⟨_, List.getElem_mem hj, gk_of pj⟩)
    dsimp only
    exact wpAny_pure (wpAny_pure (hQ s.heap _ (Heap.SameBut.refl a s.heap) ⟨o, es, ep, t, ho, tab_found T inL⟩))
  | none =>
    have notL : k ∉ L := fun z => by
      obtain ⟨e, he, q⟩ := List.mem_map.mp ((T.mem k).mp z)
      have c := List.findIdx?_eq_none_iff.mp at_k e he
      have c : keyIs k e.2 = false := c
      rw [← q, (T.en e he).1] at c
      cases c
    dsimp only
    have rl : ∀ (b : Bool) {s₁ : Shared} {Q' : Unit → Shared → Prop}, Q' () s₁ → wpAny (model P w) A (match b with | true => rule "set.scan.the-table-gave-way" | false => pure ()) Q' E s₁ :=
      fun b s₁ Q' q => match b with
        | false => wpAny_pure q
        | true => wpAny_rule q
    have pm := layNew_perm t es (keyH w k) v
    have f1 := layNew_fits t es (keyH w k) v
    have r1 := layNew_ris t es (keyH w k) v T.ris
    have l1 := layNew_led t es (keyH w k) v
    have hh : (mixKind P w).hash k = keyH w k := rfl
    generalize layNew t es (keyH w k) v = Z at pm f1 r1 l1 ⊢
    obtain ⟨es1, t1, old, gave⟩ := Z
    dsimp only at pm f1 r1 l1 ⊢
    rw [Array.toList_push] at pm
    have pc := pm.trans (List.perm_append_singleton _ _)
    have size1 : es1.size = es.size + 1 := by have q := pc.length_eq; rw [List.length_cons, Array.length_toList, Array.length_toList] at q; exact q
    have hb1 : es1.size < scanBound := by rw [size1]; exact Nat.lt_of_le_of_lt (Nat.succ_le_succ T.few) room
    have T1 : ∀ t2 : SetTable, t2.fits es1.size = true → Ris t2.place.toList → t2.led = t.led → Tab w (L ++ [k]) { o with data := .set es1 (ep + 1) t2 } es1 (ep + 1) t2 := fun t2 q1 q2 q3 => tab_more T notL hv pc T.ex rfl q1 q2 q3
    refine wpAny_bind (rl _ ?_)
    split
    · refine wpAny_bind ?_
      rw [hashByValue_scannable 8 (key_sc hv)]
      refine wpAny_pure (tail_ok ?_ ho T.dt (T1 _ ?_ ?_ ?_) hb1 ?_)
      · exact fun b s₁ Q' q => rl b q
      · first | (split <;> first | exact f1 | exact SetTable.fits_plain_off f1) | exact f1
      · first | (split <;> exact r1) | exact r1
      · first | (split <;> exact l1) | exact l1
      · intro h' sb r; dsimp only; exact wpAny_pure (hQ h' _ sb r)
    · refine wpAny_bind (wpAny_pure ?_)
      simp only [↓reduceIte]
      refine tail_ok ?_ ho T.dt (T1 _ f1 r1 l1) hb1 ?_
      · exact fun b s₁ Q' q => rl b q
      · intro h' sb r; dsimp only; exact wpAny_pure (hQ h' _ sb r)
end
end Vi

/-! ## ViSet2 -/
set_option Elab.async false
set_option linter.all false
set_option maxRecDepth 100000
set_option maxHeartbeats 3200000
namespace Vi
open PySem L2 PySem.Spec PyProof.Rows
section
variable {P : Program} {w : World} {A : Around} {E : Value → Shared → Prop} {s : Shared}
theorem set_upd {I : Addr} {fp wr : List Addr} {G : Array GenState → Array GenState → Prop} {n : Nat} {Pv : Nat → Value → Prop} {St : Nat → Shared → Prop} {R : Result → Shared → Prop} (W : WalksS P w A.in1 I fp wr G n Pv St) (S : Addr) (hSf : S ∉ fp) (ks : List Key)
    (hn : n = ks.length) (hb : ks.length + 1 < scanBound) (hval : ∀ (i : Nat) (v : Value), Pv i v → ∃ k, ks[i]? = some k ∧ keyIs k v = true) : ∀ (m i : Nat) (s : Shared), n - i = m → i ≤ n → St i s → SetG w s.heap S (ks.take i) → (∀ s', Moved (S :: wr) G s s' → SetG w s'.heap S ks → R (.ok (.ret .none)) s') →
      codeAny (model P w) A (.builtin "set.update.loop" ⟨[.ref S, .ref I], []⟩) R s
  | 0, i, s, hm, hi, st, hS, hR => by
    have hi : i = n := by omega
    subst hi
    refine codeAny_builtin PyProof.Rows.F.entry_set_update_loop ?_
    rw [Around.under_plainId PyProof.Rows.F.plain_set_update_loop _]
    show wpAny _ A.in1 (pyNext (.ref I) >>= _) _ _ s
    refine wpAny_bind (W.done s _ _ st fun s' mv => ?_)
    have all : ks.take i = ks := List.take_of_length_le (by omega)
    rw [all] at hS
    exact wpAny_pure (hR s' (mv.mono fun b hb => List.mem_cons_of_mem _ hb) (hS.at_ fun o e => mv.heap S o (fun h => hSf (W.sub _ h)) e))
  | m + 1, i, s, hm, hi, st, hS, hR => by
    have lt : i < n := by omega
    refine codeAny_builtin PyProof.Rows.F.entry_set_update_loop ?_
    rw [Around.under_plainId PyProof.Rows.F.plain_set_update_loop _]
    show wpAny _ A.in1 (pyNext (.ref I) >>= _) _ _ s
    refine wpAny_bind (W.item i s _ _ lt st fun v s1 hP st1 mv => ?_)
    obtain ⟨k, hk, kv⟩ := hval i v hP
    have hS1 : SetG w s1.heap S (ks.take i) := hS.at_ fun o e => mv.heap S o (fun h => hSf (W.sub _ h)) e
    show wpAny _ A.in1 (holding [v] (setAdd S v) >>= _) _ _ s1
    refine wpAny_bind (wpAny_holding ?_)
    unfold setAdd
    refine wpAny_holding (wpAny_bind ((mixKind P w).pyHash (k := k) kv ?_))
    refine setG_add (s := { s1 with toks := s1.toks + 1 }) kv hS1 (by rw [List.length_take]; omega) fun h' b sb hS2 => ?_
    have next : ks.take i ++ [k] = ks.take (i + 1) := by rw [List.take_add_one, hk]; rfl
    rw [next] at hS2
    refine wpAny_pure ⟨plainId_quiet PyProof.Rows.F.plain_set_update_loop _, set_upd W S hSf ks hn hb hval m (i + 1) _ (by omega) lt (W.frame _ s1 _ _ st1 (Nat.le_succ _) fun c hc o e => ?_) hS2 fun s2 mv2 hS3 => ?_⟩
    · have : c ≠ S := fun h => hSf (h ▸ hc)
      rw [sb.2 c this]; exact e
    · refine hR s2 (Moved.trans W.gtrans ((mv.mono fun b hb => List.mem_cons_of_mem _ hb).then_heap (Nat.le_succ _) fun c o hc e => ?_) mv2) hS3
      have : c ≠ S := fun h => hc (h ▸ List.mem_cons_self)
      rw [sb.2 c this]; exact e
theorem setG_new {h : Heap} {a : Addr} (ho : h.get? a = some { cls := .type "set", dict := none, data := .set #[] 0 (.fresh 0 0 (!w.params.followText "set-order")) }) : SetG w h a [] :=
  ⟨_, #[], 0, _, ho, ⟨rfl, rfl, rfl⟩, rfl, fun e he => (nomatch (show e ∈ [] from he)), List.nodup_nil, fun k => Iff.rfl, Nat.le_refl _, rfl, List.Pairwise.nil, by
    show _ ∨ (!w.params.followText "set-order") = true
    cases w.params.followText "set-order"
    · exact .inr rfl
    · exact .inl rfl⟩
abbrev newSet (w : World) : Obj := { cls := .type "set", dict := none, data := .set #[] 0 (.fresh 0 0 (!w.params.followText "set-order")) }
theorem call_setL {l : Addr} {items : Array Value} (ks : List Key) {Q : Value → Shared → Prop} (hh : A.handled = none) (hl : s.heap.IsList l items) (hlen : items.size = ks.length) (hit : ∀ (i : Nat) (v : Value), items[i]? = some v → ∃ k, ks[i]? = some k ∧ keyIs k v = true) (hb : ks.length + 1 < scanBound)
    (h : ∀ (h' : Heap) (tk : Nat), SetG w h' s.heap.objs.size ks → (∀ b o, s.heap.get? b = some o → h'.get? b = some o) → Q (.ref s.heap.objs.size) { s with heap := h', toks := tk }) :
    wpAny (model P w) A (call (.type "set") [.ref l]) Q E s := by
  obtain ⟨c, tl, hmro⟩ := PySem.F.called_set.mro
  have hmade := PySem.F.called_set.made
  have hsub := PySem.F.called_set.sub
  refine wpAny_call (codeAny_of_tree ?_)
  show wpAny _ _ (callAny (.type "set") _) _ _ _
  refine wpAny_pure ⟨Code.quiet_builtin _ (by decide +kernel), codeAny_builtin PySem.F.entry_type_call ?_⟩
  rw [Around.under_plain (weight_type_call_type "set" [.ref l] []) rfl]
  have k1 := PySem.F.called_set.notType
  have k2 := PySem.F.called_set.canCreate
  have k3 := PySem.F.typeCall_set_1 (.ref l)
  repeat (any_goals (first | assumption | wp_step))
  refine codeAny_mono (code_set_led1 (.ref l) (E := E) (Q₁ := fun x s₁ => x = .ref s.heap.objs.size ∧ s₁ = { s with heap := s.heap.push (newSet w) }) ⟨rfl, rfl⟩) fun r s₁ hr => ?_
  match r, hr with
  | .error e, hr => exact hr
  | .ok (.ret x), hr =>
    obtain ⟨ex, es⟩ := hr
    subst ex es
    have at_S : (s.heap.push (newSet w)).get? s.heap.objs.size = some (newSet w) := Heap.get?_push_size _ rfl
    have ty_S : Shared.TypeIs { s with heap := s.heap.push (newSet w) } (.ref s.heap.objs.size) "set" := ⟨_, at_S, rfl⟩
    have i1 := PySem.F.called_set.init.lookup
    have i2 := PySem.F.called_set.init.bind (.ref s.heap.objs.size)
    repeat (any_goals (first | assumption | wp_step))
    refine codeAny_mono (codeAny_call_builtin (R := wants (fun r s₂ => r = .none ∧ ∃ h' tk, s₂ = { s with heap := h', toks := tk } ∧ SetG w h' s.heap.objs.size ks ∧ (∀ b o, s.heap.get? b = some o → h'.get? b = some o)) E) PySem.F.called_set.init.plain PySem.F.entry_set_init (check_set_init_1 ty_S ?_)) fun r₂ s₂ hr₂ => ?_
    · obtain ⟨ol, hol, hcl, nl, hdl⟩ := hl
      obtain ⟨oc, od, odt, osl⟩ := ol
      dsimp only at hcl hdl
      subst hcl hdl
      have at_l : (s.heap.push (newSet w)).get? l = some { cls := .type "list", dict := od, data := .seq items nl, slots := osl } := Heap.get?_push_of_some _ hol
      have n1 := PySem.F.sub_list_set
      have n2 := PySem.F.sub_list_frozenset
      have n3 : (Value.type "list" == Value.type "dict") = false := by decide
      have isl : (s.heap.push (newSet w)).IsList l items := ⟨_, at_l, rfl, nl, rfl⟩
      unfold Builtin.«set.__init__» noKeywords Builtin.Frozenset.updateFrom
      generalize hPI : pyIter = PI
      wp_walk
      subst hPI
      refine wpAny_pyIter_list isl (wpAny_bind (wpAny_runValue ?_))
      have l_lt : l < s.heap.objs.size := Heap.lt_size hol
      have none3 : A.in1.in1.in1.handled = none := by simp [hh]
      have z1 : (s.heap.push (newSet w)).objs.size = s.heap.objs.size + 1 := Heap.size_push ..
      have apart : l ≠ (s.heap.push (newSet w)).objs.size := by rw [z1]; exact Nat.ne_of_lt (Nat.lt_succ_of_lt l_lt)
      have outside : s.heap.objs.size ∉ [(s.heap.push (newSet w)).objs.size, l] := by
        rw [z1]
        intro z
        rcases List.mem_cons.mp z with z | z
        · exact absurd z (Nat.ne_of_lt (Nat.lt_succ_self _))
        · exact absurd (List.mem_singleton.mp z).symm (Nat.ne_of_lt l_lt)
      refine set_upd ((Walks.list none3 _ l apart items).toS) s.heap.objs.size outside ks hlen hb hit (items.size - 0) 0 _ rfl (Nat.zero_le _) ⟨⟨_, Heap.get?_push_size _ rfl, rfl, rfl⟩, isl.push _⟩ ?_ ?_
      · exact setG_new (Heap.get?_push_of_some _ at_S)
      · intro s' mv hS
        obtain ⟨h', g2, d2, tk2, os2⟩ := s'
        have e1 : g2 = s.gens := mv.gens
        have e2 : d2 = s.drawn := mv.drawn
        have e3 : os2 = s.os := mv.os
        subst e1 e2 e3
        refine wpAny_pure ?_
        show wpAny _ _ (ret Value.none) _ _ _
        refine wpAny_pure ⟨rfl, h', tk2, rfl, hS, fun b o e => ?_⟩
        have b_lt : b < s.heap.objs.size := Heap.lt_size e
        refine mv.heap b o (fun z => ?_) (Heap.get?_push_of_some _ (Heap.get?_push_of_some _ e))
        rcases List.mem_cons.mp z with z | z
        · exact absurd z (Nat.ne_of_lt b_lt)
        · have z := List.mem_singleton.mp z
          rw [z1] at z
          exact absurd z (Nat.ne_of_lt (Nat.lt_succ_of_lt b_lt))
    · match r₂, hr₂ with
      | .error e, hr₂ => exact hr₂
      | .ok (.ret x), hr₂ =>
        obtain ⟨ex, h', tk, es, hS, hk⟩ := hr₂
        subst ex es
        repeat (any_goals (first | assumption | wp_step))
        exact h _ _ hS hk
end
end Vi

/-! ## ViSet3 -/
set_option Elab.async false
set_option linter.all false
set_option maxRecDepth 100000
set_option maxHeartbeats 3200000
namespace Vi
open PySem L2 PySem.Spec PyProof.Rows
section
variable {P : Program} {w : World} {A : Around} {E : Value → Shared → Prop} {s : Shared} {a : Addr} {L : List Key}
/-- fewer than 64 unlike ones -/
def Few {α : Type} (L : List α) : Prop := ∀ l : List α, l.Nodup → (∀ k, k ∈ l ↔ k ∈ L) → l.length < 64
def strIn : Value → Str
  | .str x _ => x
  | _ => Str.empty
theorem strs_in : ∀ vs : List Value, (∀ v ∈ vs, ∃ x t, v = Value.str x t) → StrsAre vs (vs.map strIn)
  | [], _ => .nil
  | v :: vs, h => by
    obtain ⟨x, t, e⟩ := h v List.mem_cons_self
    subst e
    exact .cons x t (strs_in vs fun u hu => h u (List.mem_cons_of_mem _ hu))
theorem sortG_int {ns : List Int} {Q : Value → Shared → Prop} (R : SetG w s.heap a (ns.map Sum.inl)) (hh : A.handled = none) (few : Few ns) (many : ns.length < scanBound)
    (hQ : ∀ s' p (out : Array Value) (c : Nat) (ys : List Int), (∀ b o, s.heap.get? b = some o → s'.heap.get? b = some o) → s'.gens = s.gens → s'.os = s.os → s.heap.objs.size ≤ p → s'.heap.get? p = some (seqObj "list" out c) → IntsAre out.toList ys → ys.Pairwise (· < ·) → (∀ k, k ∈ ys ↔ k ∈ ns) → Q (.ref p) s') :
    wpAny (model P w) A (call (.builtin "sorted") [.ref a]) Q E s := by
  obtain ⟨o, es, ep, t, ho, T⟩ := R
  have size_lt : es.size < scanBound := Nat.lt_of_le_of_lt T.few (by rw [List.length_map]; exact many)
  refine Calls.call_function_entry kind_sorted plain_sorted entry_sorted (args_sorted1 _) ?_
  unfold Builtin.«sorted»
  refine wpAny_bind (m := checkCount "sorted" 1 1 _) (wpAny_pure (wpAny_bind (collect_set (A := A.in1) hh ⟨o, ho, T.ex.1, T.dt⟩ T.fit size_lt T.ris T.led fun s1 vs keep1 size1 gens1 os1 pm => ?_)))
  have allI : ∀ v ∈ vs, ∃ k t, v = Value.int k t := fun v hv => by
    obtain ⟨e, he, q⟩ := List.mem_map.mp (pm.mem_iff.mp hv)
    have inL : gk e.2 ∈ ns.map Sum.inl := (T.mem _).mpr (List.mem_map.mpr ⟨e, he, rfl⟩)
    obtain ⟨i, _, ei⟩ := List.mem_map.mp inL
    have := (T.en e he).1
    rw [← ei, q] at this
    rcases keyIs_shape this with ⟨j, tk, _, e2⟩ | ⟨x, tk, e1, _⟩
    · exact ⟨j, tk, e2⟩
    · cases e1
  have isI := ints_of vs allI
  have keyEq : (vs.map Builtin.Re.reRawOf).map Sum.inl = vs.map gk := by
    rw [List.map_map]
    refine List.map_congr_left fun v hv => ?_
    obtain ⟨k, tk, e⟩ := allI v hv
    subst e; rfl
  have pk : ((vs.map Builtin.Re.reRawOf).map Sum.inl).Perm (gks es) := by
    rw [keyEq]
    have q := pm.map gk
    rw [List.map_map] at q
    exact q
  have nodup : (vs.map Builtin.Re.reRawOf).Nodup := List.Pairwise.of_map Sum.inl (fun _ _ h e => h (congrArg _ e)) (pk.nodup_iff.mpr T.nd)
  have mem : ∀ k, k ∈ vs.map Builtin.Re.reRawOf ↔ k ∈ ns := fun k => by
    have q := (pk.mem_iff (a := Sum.inl k)).trans (T.mem (Sum.inl k)).symm
    constructor
    · intro h
      obtain ⟨j, hj, e⟩ := List.mem_map.mp (q.mp (List.mem_map.mpr ⟨k, h, rfl⟩))
      cases e; exact hj
    · intro h
      obtain ⟨j, hj, e⟩ := List.mem_map.mp (q.mpr (List.mem_map.mpr ⟨k, h, rfl⟩))
      cases e; exact hj
  have len : vs.length < 64 := by have := few _ nodup mem; rw [List.length_map] at this; exact this
  refine wpAny_bind (wpAny_newList ?_ (by rw [sizeLine_eq]; omega))
  have at_l : (s1.heap.push (seqObj "list" vs.toArray 0)).get? s1.heap.objs.size = some (seqObj "list" vs.toArray 0) := Heap.get?_push_size _ rfl
  refine wpAny_bind (wpAny_holding (wpAny_call_entry slot_list_sort ⟨_, at_l, rfl⟩ entry_list_sort (list_sort_tree at_l isI len fun out ys a1 a2 a3 => ⟨_, rfl, ?_⟩) (args_list_sort _)))
  obtain ⟨c, at_out⟩ := sortedHeap_at (vs := vs) (out := out) at_l
  refine wpAny_pure ⟨_, rfl, hQ _ s1.heap.objs.size out c ys (fun b u e => ?_) gens1 os1 size1 at_out a1 (lt_of_le_nodup ys a3 (a2.nodup_iff.mpr nodup)) fun k => a2.mem_iff.trans (mem k)⟩
  have old := keep1 b u e
  have lt := Heap.lt_size old
  show (sortedHeap (s1.heap.push (seqObj "list" vs.toArray 0)) s1.heap.objs.size vs out).get? b = some u
  rw [sortedHeap_old (Nat.ne_of_lt lt) (by rw [size_push']; exact Nat.lt_succ_of_lt lt)]
  exact Heap.get?_push_of_some _ old
theorem sortG_str {xs : List Str} {Q : Value → Shared → Prop} (R : SetG w s.heap a (xs.map Sum.inr)) (hh : A.handled = none) (few : Few xs) (many : xs.length < scanBound)
    (hQ : ∀ s' p (out : Array Value) (c : Nat) (ys : List Str), (∀ b o, s.heap.get? b = some o → s'.heap.get? b = some o) → s'.gens = s.gens → s'.os = s.os → s.heap.objs.size ≤ p → s'.heap.get? p = some (seqObj "list" out c) → StrsAre out.toList ys → ys.Nodup → sortedS ys = true → (∀ k, k ∈ ys ↔ k ∈ xs) → Q (.ref p) s') :
    wpAny (model P w) A (call (.builtin "sorted") [.ref a]) Q E s := by
  obtain ⟨o, es, ep, t, ho, T⟩ := R
  have size_lt : es.size < scanBound := Nat.lt_of_le_of_lt T.few (by rw [List.length_map]; exact many)
  refine Calls.call_function_entry kind_sorted plain_sorted entry_sorted (args_sorted1 _) ?_
  unfold Builtin.«sorted»
  refine wpAny_bind (m := checkCount "sorted" 1 1 _) (wpAny_pure (wpAny_bind (collect_set (A := A.in1) hh ⟨o, ho, T.ex.1, T.dt⟩ T.fit size_lt T.ris T.led fun s1 vs keep1 size1 gens1 os1 pm => ?_)))
  have allS : ∀ v ∈ vs, ∃ x t, v = Value.str x t := fun v hv => by
    obtain ⟨e, he, q⟩ := List.mem_map.mp (pm.mem_iff.mp hv)
    have inL : gk e.2 ∈ xs.map Sum.inr := (T.mem _).mpr (List.mem_map.mpr ⟨e, he, rfl⟩)
    obtain ⟨i, _, ei⟩ := List.mem_map.mp inL
    have := (T.en e he).1
    rw [← ei, q] at this
    rcases keyIs_shape this with ⟨j, tk, e1, _⟩ | ⟨x, tk, _, e2⟩
    · cases e1
    · exact ⟨x, tk, e2⟩
  have isS := strs_in vs allS
  have keyEq : (vs.map strIn).map Sum.inr = vs.map gk := by
    rw [List.map_map]
    refine List.map_congr_left fun v hv => ?_
    obtain ⟨k, tk, e⟩ := allS v hv
    subst e; rfl
  have pk : ((vs.map strIn).map Sum.inr).Perm (gks es) := by
    rw [keyEq]
    have q := pm.map gk
    rw [List.map_map] at q
    exact q
  have nodup : (vs.map strIn).Nodup := List.Pairwise.of_map Sum.inr (fun _ _ h e => h (congrArg _ e)) (pk.nodup_iff.mpr T.nd)
  have mem : ∀ k, k ∈ vs.map strIn ↔ k ∈ xs := fun k => by
    have q := (pk.mem_iff (a := Sum.inr k)).trans (T.mem (Sum.inr k)).symm
    constructor
    · intro h
      obtain ⟨j, hj, e⟩ := List.mem_map.mp (q.mp (List.mem_map.mpr ⟨k, h, rfl⟩))
      cases e; exact hj
    · intro h
      obtain ⟨j, hj, e⟩ := List.mem_map.mp (q.mpr (List.mem_map.mpr ⟨k, h, rfl⟩))
      cases e; exact hj
  have len : vs.length < 64 := by have := few _ nodup mem; rw [List.length_map] at this; exact this
  refine wpAny_bind (wpAny_newList ?_ (by rw [sizeLine_eq]; omega))
  have at_l : (s1.heap.push (seqObj "list" vs.toArray 0)).get? s1.heap.objs.size = some (seqObj "list" vs.toArray 0) := Heap.get?_push_size _ rfl
  refine wpAny_bind (wpAny_holding (wpAny_call_entry slot_list_sort ⟨_, at_l, rfl⟩ entry_list_sort (list_sort_treeK strKind_oneLt at_l isS.keysOf (fun v₁ v₂ rest e => keyKind_strs (by rw [← e]; exact isS)) len fun st' hp hs => ⟨_, rfl, ?_⟩) (args_list_sort _)))
  obtain ⟨ys, a1, a2, a3⟩ := sorted_out_str isS hp hs
  obtain ⟨c, at_out⟩ := sortedHeap_at (vs := vs) (out := (arrOf st').map (·.2)) at_l
  refine wpAny_pure ⟨_, rfl, hQ _ s1.heap.objs.size _ c ys (fun b u e => ?_) gens1 os1 size1 at_out a1 (a2.nodup_iff.mpr nodup) a3 fun k => a2.mem_iff.trans (mem k)⟩
  have old := keep1 b u e
  have lt := Heap.lt_size old
  show (sortedHeap (s1.heap.push (seqObj "list" vs.toArray 0)) s1.heap.objs.size vs ((arrOf st').map (·.2))).get? b = some u
  rw [sortedHeap_old (Nat.ne_of_lt lt) (by rw [size_push']; exact Nat.lt_succ_of_lt lt)]
  exact Heap.get?_push_of_some _ old
end
end Vi

/-! ## ViSet4 -/
set_option Elab.async false
set_option linter.all false
set_option maxRecDepth 100000
set_option maxHeartbeats 3200000
namespace Vi
open PySem L2
/-- sorted(set(a list of ints or of texts)) -/
def tSortSet (K : PySem.W.Frag) (ta : TE) : TE := fun σ H Q => ta σ H fun x H1 =>
  (∃ (l : Addr) (ns : List Int), x = .ref l ∧ SqL K H1 l (ns.map V.int) ∧ ns.length < 4000 ∧ Few ns ∧ ∀ (p : Addr) (ys : List Int), ys.Pairwise (· < ·) → (∀ k : Int, k ∈ ys ↔ k ∈ ns) → H1 p = none → Q (.ref p) (upd H1 p (.lst (ys.map V.int)))) ∨
  ∃ (l : Addr) (xs : List Str), x = .ref l ∧ SqL K H1 l (xs.map V.str) ∧ xs.length < 4000 ∧ Few xs ∧ ∀ (p : Addr) (ys : List Str), ys.Nodup → PyProof.Rows.sortedS ys = true → (∀ k : Str, k ∈ ys ↔ k ∈ xs) → H1 p = none → Q (.ref p) (upd H1 p (.lst (ys.map V.str)))
theorem vals_int_at : ∀ {ns : List Int} {us : List Value}, Vals (ns.map V.int) us → ∀ (i : Nat) (v : Value), us[i]? = some v → ∃ k : Key, (ns.map Sum.inl)[i]? = some k ∧ keyIs k v = true
  | [], us, h, i, v, e => by cases h; simp at e
  | n :: ns, us, h, i, v, e => by
    cases h with
    | cons r t =>
      obtain ⟨tk, er⟩ := r
      cases i with
      | zero =>
        have e : some _ = some v := e
        cases e; subst er
        exact ⟨.inl n, rfl, keyIs_int n tk⟩
      | succ i => exact vals_int_at t i v e
theorem vals_str_at : ∀ {ns : List Str} {us : List Value}, Vals (ns.map V.str) us → ∀ (i : Nat) (v : Value), us[i]? = some v → ∃ k : Key, (ns.map Sum.inr)[i]? = some k ∧ keyIs k v = true
  | [], us, h, i, v, e => by cases h; simp at e
  | n :: ns, us, h, i, v, e => by
    cases h with
    | cons r t =>
      obtain ⟨tk, er⟩ := r
      cases i with
      | zero =>
        have e : some _ = some v := e
        cases e; subst er
        exact ⟨.inr n, rfl, keyIs_str n tk⟩
      | succ i => exact vals_str_at t i v e
section
variable {X : Cx}
/-- the sorted list is laid: the invariant behind it -/
theorem laid_sorted {pins : List (Addr × Obj)} {σ : L2.St} {H : Hp} {s s' : Shared} {p : Addr} {vs : List V} {out : Array Value} {c : Nat} {Q : VK} (I : Inv X pins σ H s) (keep : ∀ b o, s.heap.get? b = some o → s'.heap.get? b = some o) (g : s'.gens = s.gens) (os : s'.os = s.os)
    (hp : s.heap.objs.size ≤ p) (hget : s'.heap.get? p = some (PyProof.Rows.seqObj "list" out c)) (hv : Vals vs out.toList) (hlen : vs.length ≤ sizeLine) (q : H p = none → Q (.ref p) (upd H p (.lst vs))) : EP X pins σ Q (.ref p) s' := by
  have free : H p = none := I.hok.fresh hp
  have J : Inv X pins σ (upd H p (.lst vs)) { s with heap := s'.heap, gens := s'.gens, drawn := s'.drawn, toks := s'.toks } :=
    I.call (ch := []) (Un.laid keep hp free) (I.hok.laid keep hp ⟨hlen, out.toList, c, hv, hget⟩) (by rw [g]; exact I.bare) (fun _ z => (nomatch z))
  have e : s' = { s with heap := s'.heap, gens := s'.gens, drawn := s'.drawn, toks := s'.toks } := by
    cases s'; cases s; cases os; rfl
  rw [e]
  exact ⟨.ref p, _, J, rfl, q free⟩
theorem pe_sortSet {e : Expr} {ta : TE} {p p2 q pos : Pos} (hc : X.calm = true) (hg : Gl X "sorted") (hm : X.mg "sorted" = none) (hg2 : Gl X "set") (hm2 : X.mg "set" = none) (ha : PE X e ta)
    (na : starEach [e] X.env = (false, eval e X.env) :: starEach [] X.env := by rfl) : PE X (.Call (.Name "sorted" p) [.Call (.Name "set" p2) [e] [] q] [] pos) (tSortSet X.K ta) := by
  constructor
  intro pins s σ H Q I h
  refine PyProof.Rows.Call_ (ld_blt I hg hm PyProof.Rows.boot_sorted ?_)
  refine PyProof.Rows.callWith_builtin1 (PyProof.Rows.args_cons (PyProof.Rows.Call_ (ld_blt I hg2 hm2 PyProof.Rows.boot_set ?_)) rfl) rfl rfl
  refine PyProof.Rows.callWith_type1 (PyProof.Rows.args_cons (thn (ha.run pins s σ H _ I h) fun v s1 ⟨x, H1, I1, r1, q1⟩ => PyProof.Rows.args_nil ?_) na) na rfl
  have hd := I1.ok.hd hc
  rcases q1 with ⟨l, ns, ex, hs, many, few, q1⟩ | ⟨l, ns, ex, hs, many, few, q1⟩
  · subst ex
    cases r1
    obtain ⟨its, rv, il, _⟩ := I1.list hs
    have hl : its.length = ns.length := by have := rv.length; rw [List.length_map] at this; exact this.symm
    refine call_setL (ns.map Sum.inl) hd il.isList (by rw [List.size_toArray, List.length_map]; exact hl) (fun i v e => vals_int_at rv i v (by simpa using e)) (by rw [List.length_map]; unfold scanBound; omega) fun h' tk hS keep => ?_
    have I2 : Inv X pins σ H1 { s1 with heap := h', toks := tk } := I1.kept keep
    refine PyProof.Rows.args_nil (sortG_int (s := { s1 with heap := h', toks := tk }) hS hd few (by unfold scanBound; omega) fun s' p out c ys k2 g2 o2 p2 at2 i2 lt2 m2 => ?_)
    have fl : ys.length < 64 := few ys (lt2.imp fun h => by omega) m2
    exact laid_sorted I2 k2 g2 o2 p2 at2 (vals_of_ints i2) (by rw [List.length_map, sizeLine_eq]; omega) (q1 p ys lt2 m2)
  · subst ex
    cases r1
    obtain ⟨its, rv, il, _⟩ := I1.list hs
    have hl : its.length = ns.length := by have := rv.length; rw [List.length_map] at this; exact this.symm
    refine call_setL (ns.map Sum.inr) hd il.isList (by rw [List.size_toArray, List.length_map]; exact hl) (fun i v e => vals_str_at rv i v (by simpa using e)) (by rw [List.length_map]; unfold scanBound; omega) fun h' tk hS keep => ?_
    have I2 : Inv X pins σ H1 { s1 with heap := h', toks := tk } := I1.kept keep
    refine PyProof.Rows.args_nil (sortG_str (s := { s1 with heap := h', toks := tk }) hS hd few (by unfold scanBound; omega) fun s' p out c ys k2 g2 o2 p2 at2 i2 nd2 lt2 m2 => ?_)
    have fl : ys.length < 64 := few ys nd2 m2
    exact laid_sorted I2 k2 g2 o2 p2 at2 (vals_of_strs i2) (by rw [List.length_map, sizeLine_eq]; omega) (q1 p ys nd2 lt2 m2)
end
end Vi

/-! ## ViSet5 -/
set_option Elab.async false
set_option linter.all false
set_option maxRecDepth 100000
set_option maxHeartbeats 3200000
namespace Vi
open PySem L2
theorem mem_dedup {α : Type} [DecidableEq α] {a : α} : ∀ {l : List α}, a ∈ dedup l ↔ a ∈ l
  | [] => Iff.rfl
  | x :: l => by
    unfold dedup
    by_cases h : x ∈ l
    · rw [if_pos h, mem_dedup, List.mem_cons]
      exact ⟨.inr, fun q => q.elim (fun e => e ▸ h) id⟩
    · rw [if_neg h, List.mem_cons, List.mem_cons, mem_dedup]
theorem dedup_nd {α : Type} [DecidableEq α] : ∀ l : List α, (dedup l).Nodup
  | [] => List.nodup_nil
  | x :: l => by
    unfold dedup
    by_cases h : x ∈ l
    · rw [if_pos h]; exact dedup_nd l
    · rw [if_neg h]; exact List.nodup_cons.mpr ⟨fun q => h (mem_dedup.mp q), dedup_nd l⟩
theorem few_of {α : Type} [DecidableEq α] {l : List α} (h : (dedup l).length < 64) : Few l := fun l' nd m => by
  have := ((List.perm_ext_iff_of_nodup nd (dedup_nd l)).mpr fun a => (m a).trans mem_dedup.symm).length_eq
  omega
theorem sortI_eq {ns ys : List Int} (h : ys.Pairwise (· < ·)) (m : ∀ k, k ∈ ys ↔ k ∈ ns) : ys = sortI (dedup ns) := by
  have p1 : ys.Perm (dedup ns) := (List.perm_ext_iff_of_nodup (h.imp fun h => by omega) (dedup_nd ns)).mpr fun a => (m a).trans mem_dedup.symm
  have p2 : ys.Perm (sortI (dedup ns)) := p1.trans (isortL_perm leI _).symm
  have s2 : (sortI (dedup ns)).Pairwise (· ≤ ·) := (isortL_pw leI_tot leI_tr _).imp fun h => by unfold leI at h; simpa using h
  exact List.Perm.eq_of_pairwise (le := (· ≤ ·)) (fun a b _ _ h1 h2 => by omega) (h.imp fun h => Int.le_of_lt h) s2 p2
abbrev LeS (a b : List Nat) : Prop := ¬ b < a
theorem leS_trans {a b c : List Nat} (h1 : LeS a b) (h2 : LeS b c) : LeS a c := List.le_trans (α := Nat) h1 h2
theorem leS_total (a b : List Nat) : LeS a b ∨ LeS b a := List.le_total a b
theorem leS_anti {a b : List Nat} (h1 : LeS a b) (h2 : LeS b a) : a = b := List.le_antisymm h1 h2
theorem leT_iff {a b : List Nat} : leT a b = true ↔ LeS a b := by unfold leT; simp
theorem leT_tot (a b : List Nat) (h : leT a b = false) : leT b a = true := by
  rcases leS_total a b with q | q
  · rw [leT_iff.mpr q] at h; cases h
  · exact leT_iff.mpr q
theorem leT_tr (a b c : List Nat) (h : leT a b = true) (h2 : leT b c = true) : leT a c = true := leT_iff.mpr (leS_trans (leT_iff.mp h) (leT_iff.mp h2))
theorem rising_pw : ∀ (p : Str) (ss : List Str), PyProof.Rows.risingS p ss = true → (∀ x ∈ ss, LeS p.cps.toList x.cps.toList) ∧ ss.Pairwise fun x y => LeS x.cps.toList y.cps.toList
  | p, [], _ => ⟨fun _ h => (nomatch h), List.Pairwise.nil⟩
  | p, x :: r, h => by
    unfold PyProof.Rows.risingS at h
    rw [Bool.and_eq_true] at h
    obtain ⟨h1, h2⟩ := rising_pw x r h.2
    have h0 : LeS p.cps.toList x.cps.toList := by
      have := h.1
      rw [PyProof.Rows.ltCps_eq] at this
      simpa using this
    refine ⟨fun y hy => ?_, List.pairwise_cons.mpr ⟨h1, h2⟩⟩
    rcases List.mem_cons.mp hy with e | e
    · rw [e]; exact h0
    · exact leS_trans h0 (h1 y e)
theorem sorted_pw : ∀ ss : List Str, PyProof.Rows.sortedS ss = true → ss.Pairwise fun x y => LeS x.cps.toList y.cps.toList
  | [], _ => List.Pairwise.nil
  | x :: r, h => List.pairwise_cons.mpr (rising_pw x r h)
theorem toS_in (s : Str) : toS s.cps.toList = s := by
  obtain ⟨a⟩ := s
  show (⟨a.toList.toArray⟩ : Str) = ⟨a⟩
  rw [Array.toArray_toList]
theorem in_toS (s : List Nat) : (toS s).cps.toList = s := rfl
theorem sortS_eq {xs : List (List Nat)} {ys : List Str} (nd : ys.Nodup) (h : PyProof.Rows.sortedS ys = true) (m : ∀ k, k ∈ ys ↔ k ∈ xs.map toS) : ys = (sortS (dedup xs)).map toS := by
  have e : ys = (ys.map fun s => s.cps.toList).map toS := by
    rw [List.map_map]
    have : (toS ∘ fun s : Str => s.cps.toList) = id := funext fun s => toS_in s
    rw [this, List.map_id]
  have nd2 : (ys.map fun s => s.cps.toList).Nodup := by
    rw [e] at nd
    exact List.Pairwise.of_map toS (fun _ _ h q => h (congrArg _ q)) nd
  have m2 : ∀ k, k ∈ ys.map (fun s => s.cps.toList) ↔ k ∈ xs := fun k => by
    rw [List.mem_map]
    constructor
    · rintro ⟨s, hs, q⟩
      obtain ⟨t, ht, q2⟩ := List.mem_map.mp ((m s).mp hs)
      rw [← q, ← q2, in_toS]; exact ht
    · intro hk
      exact ⟨toS k, (m _).mpr (List.mem_map.mpr ⟨k, hk, rfl⟩), in_toS k⟩
  have p1 := (List.perm_ext_iff_of_nodup nd2 (dedup_nd xs)).mpr fun a => (m2 a).trans mem_dedup.symm
  have p2 := p1.trans (isortL_perm leT (dedup xs)).symm
  have s1 : (ys.map fun s => s.cps.toList).Pairwise LeS := List.pairwise_map.mpr (sorted_pw ys h)
  have s2 : (sortS (dedup xs)).Pairwise LeS := (isortL_pw leT_tot leT_tr _).imp fun h => leT_iff.mp h
  have key := List.Perm.eq_of_pairwise (le := LeS) (fun a b _ _ h1 h2 => leS_anti h1 h2) s1 s2 p2
  rw [e]
  exact congrArg _ key
section
variable {cm : Nat → Addr} {X : Cx} {W : WX} {K : PySem.W.Frag} {n : Nat}
def rSortSet (K : PySem.W.Frag) : V → Hp → VK → Prop := fun x H1 Q =>
  (∃ (l : Addr) (ns : List Int), x = .ref l ∧ SqL K H1 l (ns.map V.int) ∧ ns.length < 4000 ∧ Few ns ∧ ∀ (p : Addr) (ys : List Int), ys.Pairwise (· < ·) → (∀ k : Int, k ∈ ys ↔ k ∈ ns) → H1 p = none → Q (.ref p) (upd H1 p (.lst (ys.map V.int)))) ∨
  ∃ (l : Addr) (xs : List Str), x = .ref l ∧ SqL K H1 l (xs.map V.str) ∧ xs.length < 4000 ∧ Few xs ∧ ∀ (p : Addr) (ys : List Str), ys.Nodup → PyProof.Rows.sortedS ys = true → (∀ k : Str, k ∈ ys ↔ k ∈ xs) → H1 p = none → Q (.ref p) (upd H1 p (.lst (ys.map V.str)))
theorem denl_strs {G : Hp} : ∀ xs : List (List Nat), DenL cm K G (xs.map D.str) ((xs.map toS).map V.str)
  | [] => rfl
  | i :: ns => ⟨V.str (toS i), _, rfl, rfl, denl_strs ns⟩
theorem s_sortSet : UnS cm K n (rSortSet K) sortSetD := fun c H d x h Q hd hg k => by
  unfold sortSetD at hg
  split at hg
  · rename_i ds
    obtain ⟨a, vs, e, h1, h2⟩ := hd
    subst e
    split at hg
    · rename_i ns e1
      by_cases hz : ns.length < 4000 ∧ (dedup ns).length < 64
      case neg => rw [if_neg hz] at hg; cases hg
      rw [if_pos hz] at hg
      cases hg
      have ev := ints_v h2 e1
      subst ev
      refine .inl ⟨a, ns, rfl, SqL.of h1, hz.1, few_of hz.2, fun p ys hs hm hp => ?_⟩
      have q := sortI_eq hs hm
      subst q
      exact k _ _ _ (Ext.alloc hp) (hdv_new_lst hp (denl_ints _))
    · split at hg
      · rename_i xs e1
        by_cases hz : xs.length < 4000 ∧ (dedup xs).length < 64
        case neg => rw [if_neg hz] at hg; cases hg
        rw [if_pos hz] at hg
        cases hg
        have ev := strs_v h2 e1
        subst ev
        have few : Few (xs.map toS) := fun l' nd m => by
          have f := few_of hz.2
          have nd2 : (l'.map fun s : Str => s.cps.toList).Nodup := by
            have e : l' = (l'.map fun s : Str => s.cps.toList).map toS := by
              rw [List.map_map]
              have : (toS ∘ fun s : Str => s.cps.toList) = id := funext fun s => toS_in s
              rw [this, List.map_id]
            rw [e] at nd
            exact List.Pairwise.of_map toS (fun _ _ h q => h (congrArg _ q)) nd
          have := f _ nd2 fun s => by
            rw [List.mem_map]
            constructor
            · rintro ⟨t, ht, q⟩
              obtain ⟨u, hu, q2⟩ := List.mem_map.mp ((m t).mp ht)
              rw [← q, ← q2, in_toS]; exact hu
            · intro hs
              exact ⟨toS s, (m _).mpr (List.mem_map.mpr ⟨s, hs, rfl⟩), in_toS s⟩
          rw [List.length_map] at this
          exact this
        refine .inr ⟨a, xs.map toS, rfl, SqL.of h1, by rw [List.length_map]; exact hz.1, few, fun p ys nd hs hm hp => ?_⟩
        have q := sortS_eq nd hs hm
        subst q
        exact k _ _ _ (Ext.alloc hp) (hdv_new_lst hp (denl_strs _))
      · cases hg
  · cases hg
theorem ve_sortSet {e : Expr} {te : TE} {f : M Hd} {p p2 pos pos2 : Pos} (hc : X.calm = true) (hm : X.mg "sorted" = none) (hm2 : X.mg "set" = none) (h : VE cm X W e te f) (hK : X.K = K := by rfl) (hg : Gl X "sorted" := by rfl) (hg2 : Gl X "set" := by rfl)
    (na : starEach [e] X.env = (false, eval e X.env) :: starEach [] X.env := by rfl) : VE cm X W (.Call (.Name "sorted" p) [.Call (.Name "set" p2) [e] [] pos2] [] pos) (tUn (rSortSet K) te) (eUn sortSetD f) := by
  subst hK
  exact ⟨pe_sortSet hc hg hm hg2 hm2 h.pe na, sem_un s_sortSet h.sem⟩
end
end Vi

/-! ## ViTry -/
set_option Elab.async false
set_option linter.all false
set_option maxRecDepth 100000
set_option maxHeartbeats 400000
namespace Vi
open PySem L2
/-! ### x += e, x -= e (ints) -/
def int1 : S → Option Int | .fr (.int a) => some a | _ => none
def sAug (i : Nat) (g : Int → Int → Int) (f : M Hd) : M Fl := fun ρ => match int1 (at_ ρ i) with
  | some a => (f >>= fun h => rd h >>= fun d => M.lift (int? d) >>= fun b => put i (.val (.int (g a b))) >>= fun _ => (pure .nx : M Fl)) ρ
  | none => .bad
section
variable {cm : Nat → Addr} {X : Cx} {W : WX} {K : PySem.W.Frag} {n : Nat}
theorem int1_ok {s : S} {a : Int} (h : int1 s = some a) : s = .fr (.int a) := by
  cases s with
  | fr d => cases d with
    | int b => cases h; rfl
    | _ => cases h
  | _ => cases h
theorem sem_aug {i : Nat} {g : Int → Int → Int} {te : TE} {f : M Hd} (hi : i < n) (h : Sem cm K n W (HdOk cm K n) te f) : SemS cm K n W (tAug i te (ipI g)) (sAug i g f) := fun ρ c σ H Dn r q => by
  unfold sAug at q
  cases e : int1 (at_ ρ i) with
  | none => rw [e] at q; exact q.elim
  | some a =>
    rw [e] at q
    obtain ⟨v, h1, u, e1, e2⟩ := r.at_ i _ (at_some (int1_ok e) (fun z => (nomatch z)))
    subst e1
    have e2 : u = .int a := e2
    subst e2
    refine ⟨_, h1, sem_in h r q fun x ρ1 c1 H1 y s1 r1 hx q1 => ?_⟩
    rw [M.bind_run] at q1
    rcases rd_cases x ρ1 with ⟨d, er⟩ | er
    case inr => rw [er] at q1; exact q1.elim
    rw [er] at q1
    have dr := (rd_ok r1 hx er).2
    cases d with
    | int b =>
      have ey : y = .int b := den_int dr
      subst ey
      have q2 : QS cm K n W Dn ρ σ c H ((put i (.val (.int (g a b))) >>= fun _ => (pure .nx : M Fl)) ρ1) := q1
      exact ⟨a, b, rfl, rfl, put_in s1 r1 (show HdOk cm K n H c1 H1 σ (.val (.int (g a b))) (.int (g a b)) from rfl) hi q2 fun ρ2 c2 s2 k2 r2 q3 => q3 c2 _ H1 s2 k2 r2⟩
    | _ => exact q1.elim
theorem vs_aug (i : Nat) {x : Str} {op : Operator} {g : Int → Int → Int} {e : Expr} {te : TE} {f : M Hd} {pos pos' : Pos} (hN : X.N.Nodup) (ho : PIp X op (ipI g)) (he : VE cm X W e te f) (hi : X.N[i]? = some x := by rfl) (hx : Loc X.env.scope x := by first | exact Or.inl rfl | exact Or.inr rfl)
    (hf : X.fn x = true ∨ X.env.scope.names.lookup x = some .local := by first | exact .inl rfl | exact .inr rfl | assumption) : VS cm X W (.AugAssign (.Name x pos') op e pos) (tAug i te (ipI g)) (sAug i g f) :=
  ⟨ps_aug hN hi hx he.pe ho hf, sem_aug (List.getElem?_eq_some_iff.mp hi).1 he.sem⟩
end
end Vi

/-! ## ViTry2 -/
set_option Elab.async false
set_option linter.all false
set_option maxRecDepth 100000
set_option maxHeartbeats 400000
namespace Vi
open PySem L2
/-! ### try: .. except C as error: .. (the suite asks of what class the error is). In the suite class 0 is the error itself. -/
mutual
def noE : D → Bool
  | .cls 0 => false
  | .obj 0 _ _ => false
  | .lst xs => noEs xs
  | .tup xs => noEs xs
  | .dic _ xs => noEs xs
  | .obj (_ + 1) _ xs => noEs xs
  | _ => true
def noEs : List D → Bool
  | [] => true
  | d :: ds => noE d && noEs ds
end
def noES : S → Bool
  | .un => true
  | .fr d => noE d
  | .own d => noE d
  | .bor d => noE d
def cmE (cm : Nat → Addr) (a : Addr) : Nat → Addr := fun k => match k with | 0 => a | k + 1 => cm (k + 1)
section
variable {cm cm' : Nat → Addr} {K : PySem.W.Frag} {n : Nat} {c : Col} {H G : Hp}
mutual
theorem den_cm (h : ∀ k, cm (k + 1) = cm' (k + 1)) : ∀ (d : D) (v : V), noE d = true → Den cm K G d v → Den cm' K G d v
  | .non, v, _, q => q
  | .bl b, v, _, q => q
  | .int i, v, _, q => q
  | .str s, v, _, q => q
  | .lst xs, v, e, ⟨a, vs, h1, h2, h3⟩ => ⟨a, vs, h1, h2, denl_cm h xs vs (by unfold noE at e; exact e) h3⟩
  | .tup xs, v, e, ⟨a, vs, h1, h2, h3⟩ => ⟨a, vs, h1, h2, denl_cm h xs vs (by unfold noE at e; exact e) h3⟩
  | .dic ks xs, v, e, ⟨a, vs, h1, h2, h3, h4⟩ => ⟨a, vs, h1, h2, h3, denl_cm h xs vs (by unfold noE at e; exact e) h4⟩
  | .obj 0 ns xs, v, e, q => by unfold noE at e; cases e
  | .obj (k + 1) ns xs, v, e, ⟨a, dx, vs, h1, h2, h3, h4⟩ => ⟨a, dx, vs, h1, by rw [← h k]; exact h2, h3, denl_cm h xs vs (by unfold noE at e; exact e) h4⟩
  | .ty n, v, _, q => q
  | .cls 0, v, e, q => by unfold noE at e; cases e
  | .cls (k + 1), v, _, q => by
    have q : v = .ref (cm (k + 1)) := q
    rw [h k] at q
    exact q
  | .scr ns, v, _, q => q
theorem denl_cm (h : ∀ k, cm (k + 1) = cm' (k + 1)) : ∀ (ds : List D) (vs : List V), noEs ds = true → DenL cm K G ds vs → DenL cm' K G ds vs
  | [], vs, _, q => q
  | d :: ds, vs, e, ⟨v, r, h1, h2, h3⟩ => by
    unfold noEs at e
    rw [Bool.and_eq_true] at e
    exact ⟨v, r, h1, den_cm h d v e.1 h2, denl_cm h ds r e.2 h3⟩
end
theorem denx_cm {Gt Gi : Hp} (h : ∀ k, cm (k + 1) = cm' (k + 1)) (d : D) (v : V) (e : noE d = true) (q : DenX cm K Gt Gi d v) : DenX cm' K Gt Gi d v := by
  cases d with
  | lst xs => obtain ⟨a, vs, h1, h2, h3⟩ := q; exact ⟨a, vs, h1, h2, denl_cm h xs vs (by unfold noE at e; exact e) h3⟩
  | dic ks xs => obtain ⟨a, vs, h1, h2, h3, h4⟩ := q; exact ⟨a, vs, h1, h2, h3, denl_cm h xs vs (by unfold noE at e; exact e) h4⟩
  | non => exact den_cm h _ _ e q
  | bl b => exact den_cm h _ _ e q
  | int b => exact den_cm h _ _ e q
  | str b => exact den_cm h _ _ e q
  | tup b => exact den_cm h _ _ e q
  | obj b _ _ => exact den_cm h _ _ e q
  | ty b => exact den_cm h _ _ e q
  | cls b => exact den_cm h _ _ e q
  | scr b => exact den_cm h _ _ e q
theorem reps_cm (h : ∀ k, cm (k + 1) = cm' (k + 1)) {i : Nat} {v : Option V} {s : S} (e : noES s = true) (q : RepS cm K n c H i v s) : RepS cm' K n c H i v s := by
  cases s with
  | un => exact q
  | fr d => obtain ⟨u, h1, h2⟩ := q; exact ⟨u, h1, den_cm h d u e h2⟩
  | bor d => obtain ⟨u, h1, h2⟩ := q; exact ⟨u, h1, denx_cm h d u e h2⟩
  | own d =>
    obtain ⟨a, h1, h2, h3⟩ := q
    refine ⟨a, h1, h2, ?_⟩
    cases d with
    | lst xs => obtain ⟨vs, k1, k2⟩ := h3; exact ⟨vs, k1, denl_cm h xs vs (by unfold noES noE at e; exact e) k2⟩
    | dic ks xs => obtain ⟨vs, k1, k2, k3⟩ := h3; exact ⟨vs, k1, k2, denl_cm h xs vs (by unfold noES noE at e; exact e) k3⟩
    | _ => exact h3.elim
theorem rep_cm (h : ∀ k, cm (k + 1) = cm' (k + 1)) {ρ : List S} {σ : St} (e : ρ.all noES = true) (r : Rep cm K n c H ρ σ) : Rep cm' K n c H ρ σ :=
  ⟨r.len, r.lenσ, fun i s hs => by
    obtain ⟨v, h1, h2⟩ := r.at_ i s hs
    exact ⟨v, h1, reps_cm h (List.all_eq_true.mp e s (List.mem_of_getElem? hs)) h2⟩⟩
theorem rep_un {ρ : List S} {σ : St} (i : Nat) (r : Rep cm K n c H ρ σ) : Rep cm K n c H (ρ.set i .un) (σ.set i none) :=
  ⟨by rw [List.length_set]; exact r.len, by rw [List.length_set]; exact r.lenσ, fun j s hs => by
    by_cases e : i = j
    · subst e
      have hi : i < ρ.length := by
        rcases Nat.lt_or_ge i ρ.length with h | h
        · exact h
        · rw [List.getElem?_eq_none (by rw [List.length_set]; exact h)] at hs; cases hs
      rw [List.getElem?_set_self hi] at hs
      cases hs
      exact ⟨none, List.getElem?_set_self (by rw [r.lenσ, ← r.len]; exact hi), trivial⟩
    · rw [List.getElem?_set_ne e] at hs
      obtain ⟨v, h1, h2⟩ := r.at_ j s hs
      exact ⟨v, by rw [List.getElem?_set_ne e]; exact h1, h2⟩⟩
theorem cmE_eq (cm : Nat → Addr) (a : Addr) (k : Nat) : cm (k + 1) = cmE cm a (k + 1) := rfl
end
/-- of what class an error is, from the written part -/
theorem kit_cls {K : PySem.W.Frag} {S C : Addr} {b : Bool} (h1 : PySem.W.isClsIn K C = true) (h2 : PySem.W.typeIn K (.ref C) = some (.type "type")) (h3 : PySem.W.subIn K (.ref S) (.ref C) = some b) : PySem.W.kitCls K (.ref S) (.ref C) = some b := by
  have e : ((PySem.W.clsIn K C).isSome && PySem.W.typeIn K (.ref C) == some (.type "type")) = true := by
    have h1 : (PySem.W.clsIn K C).isSome = true := h1
    rw [h1, h2]; rfl
  show (if ((PySem.W.clsIn K C).isSome && PySem.W.typeIn K (.ref C) == some (.type "type")) = true then PySem.W.subIn K (.ref S) (.ref C) else none) = some b
  rw [if_pos e]; exact h3
theorem kit_one {K : PySem.W.Frag} {S C : Addr} {b : Bool} (h0 : PySem.W.subIn K (.ref S) (.ref S) = some true) (h1 : PySem.W.isClsIn K C = true) (h2 : PySem.W.typeIn K (.ref C) = some (.type "type")) (h3 : PySem.W.subIn K (.ref S) (.ref C) = some b) : PySem.W.kitOne K (.ref S) (.ref C) = some b := by
  unfold PySem.W.kitOne
  by_cases e : (Value.ref S == Value.ref C) = true
  · rw [if_pos e]
    have e2 : Value.ref S = Value.ref C := by simpa using e
    rw [← e2, h0] at h3
    exact h3
  · rw [if_neg e]; exact kit_cls h1 h2 h3
theorem kit_ty1 {K : PySem.W.Frag} {S : Addr} {T : String} {b : Bool} (hT : PySem.W.kitMeta T = true) (h3 : PySem.W.subIn K (.ref S) (.type T) = some b) : PySem.W.kitOne K (.ref S) (.type T) = some b := by
  unfold PySem.W.kitOne
  rw [if_neg (by simp)]
  show (if PySem.W.kitMeta T = true then PySem.W.subIn K (.ref S) (.type T) else none) = some b
  rw [if_pos hT]; exact h3
theorem exm_one {K : PySem.W.Frag} {S C : Addr} {b : Bool} (h0 : PySem.W.subIn K (.ref C) (.type "BaseException") = some true) (h1 : PySem.W.isClsIn K C = true) (h2 : PySem.W.typeIn K (.ref C) = some (.type "type")) (h3 : PySem.W.subIn K (.ref S) (.ref C) = some b) : PySem.W.exmOne K (.ref S) (.ref C) = some b := by
  have e : (PySem.W.subIn K (.ref C) (.type "BaseException") == some true) = true := by rw [h0]; rfl
  show (if (PySem.W.subIn K (.ref C) (.type "BaseException") == some true) = true then PySem.W.kitCls K (.ref S) (.ref C) else none) = some b
  rw [if_pos e]; exact kit_cls h1 h2 h3
def endTry (i : Nat) : R Fl → R Fl
  | .ok .nx ρ => if (ρ.set i .un).all noES = true then .ok .nx (ρ.set i .un) else .bad
  | _ => .bad
/-- hd: which classes are caught (none: not known) -/
def sTry (i : Nat) (hd : Nat → Option Bool) (body : M Fl) (suite : Nat → M Fl) : M Fl := fun ρ => match body ρ with
  | .exc k ρ1 => match hd k with
    | some true => if ρ1.all noES = true then endTry i (suite k (ρ1.set i (.fr (.cls 0)))) else .bad
    | some false => .exc k ρ1
    | none => .bad
  | r => r
section
variable {cm : Nat → Addr} {X : Cx}
/-- the suite's trace, whatever the error's class is -/
def tsE (cm : Nat → Addr) (hd : Nat → Option Bool) (ts : Nat → Addr → TS) : Addr → Value → Option Addr → TS := fun a cls d D σ H => ∃ k, cls = .ref (cm k) ∧ d = none ∧ hd k = some true ∧ ts k a D σ H
theorem sem_try {K : PySem.W.Frag} {n : Nat} {i c : Nat} {hd : Nat → Option Bool} {tb : WX → TS} {ts : Nat → Addr → TS} {Wout : WX} {fb : M Fl} {fs : Nat → M Fl} (lt : i < n) (hx : ∀ k b, hd k = some b → PySem.W.exmOne K (.ref (cm k)) (.ref (cm c)) = some b)
    (hb : ∀ W, SemS cm K n W (tb W) fb) (hsu : ∀ k, hd k = some true → ∀ a, SemS (cmE cm a) K n W0 (ts k a) (fs k)) :
    SemS cm K n Wout (fun D σ H => tb (wAs K (.ref (cm c)) i (tsE cm hd ts) Wout D) D σ H) (sTry i hd fb fs) := fun ρ cl σ H Dn r q => by
  refine hb _ ρ cl σ H Dn r ?_
  unfold sTry at q
  cases e : fb ρ with
  | bad => rw [e] at q; exact q
  | ok f ρ1 => 
    rw [e] at q
    cases f with
    | nx => exact q
    | bk => exact q
    | ct => exact q
    | rt z => exact q
  | exc k ρ1 =>
    rw [e] at q
    dsimp only at q
    intro c1 σ1 H1 s1 k1 r1
    cases ek : hd k with
    | none => rw [ek] at q; exact q.elim
    | some b =>
      refine ⟨b, hx k b ek, fun eb a ha => ?_, fun eb => ?_⟩
      · subst eb
        rw [ek] at q
        dsimp only at q
        by_cases g1 : ρ1.all noES = true
        case neg => rw [if_neg g1] at q; exact q.elim
        rw [if_pos g1] at q
        refine ⟨k, rfl, rfl, ek, ?_⟩
        have r1' := rep_cm (cm := cm) (cm' := cmE cm a) (fun j => rfl) g1 r1
        have r2 : Rep (cmE cm a) K n c1 H1 (ρ1.set i (.fr (.cls 0))) (σ1.set i (some (.ref a))) := r1'.store ⟨.ref a, rfl, rfl⟩
        have k2 : Kp ρ1 (ρ1.set i (.fr (.cls 0))) σ1 (σ1.set i (some (.ref a))) := Kp.set (fun _ z => (nomatch z))
        refine hsu k ek a _ c1 _ H1 _ r2 ?_
        cases e2 : fs k (ρ1.set i (.fr (.cls 0))) with
        | bad => rw [e2] at q; exact q.elim
        | exc j ρ2 => rw [e2] at q; exact q.elim
        | ok f ρ2 =>
          rw [e2] at q
          cases f with
          | bk => exact q.elim
          | ct => exact q.elim
          | rt z => exact q.elim
          | nx =>
            intro c2 σ2 H2 s2 k3 r3
            have q : QS cm K n Wout Dn ρ σ cl H (if (ρ2.set i .un).all noES = true then .ok .nx (ρ2.set i .un) else .bad) := q
            by_cases g2 : (ρ2.set i .un).all noES = true
            case neg => rw [if_neg g2] at q; exact q.elim
            rw [if_pos g2] at q
            have r4 : Rep (cmE cm a) K n c2 H2 (ρ2.set i .un) (σ2.set i none) := rep_un i r3
            have r5 : Rep cm K n c2 H2 (ρ2.set i .un) (σ2.set i none) := rep_cm (cm := cmE cm a) (cm' := cm) (fun j => rfl) g2 r4
            have k4 : Kp ρ2 (ρ2.set i .un) σ2 (σ2.set i none) := Kp.set (fun _ z => (nomatch z))
            exact (show QN cm K n Dn.nx ρ σ cl H (ρ2.set i .un) from q) c2 _ H2 (s1.trans s2) (((k1.trans k2).trans k3).trans k4) r5
      · subst eb
        rw [ek] at q
        exact (show QN cm K n (Wout (.ref (cm k)) none) ρ σ cl H ρ1 from q) c1 σ1 H1 s1 k1 r1
theorem vs_try (i c : Nat) {hd : Nat → Option Bool} {x nm : Str} {body suite : List Stmt} {b₀ : Stmt} {np pos pos' : Pos} {tb : WX → TS} {ts : Nat → Addr → TS} {Wout : WX} {fb : M Fl} {fs : Nat → M Fl} (hN : X.N.Nodup) (tk : Takes X Wout) (hx : ∀ k b, hd k = some b → PySem.W.exmOne X.K (.ref (cm k)) (.ref (cm c)) = some b)
    (hc : Names X x (.ref (cm c))) (hb : ∀ (W : WX) (pn : List (Addr × Obj)) (xe : Value → Shared → Prop), Takes (X.tr pn xe) W → PassesOwn (model X.prog X.w) X.A X.env xe → PSs (X.tr pn xe) body (tb W)) (hbs : ∀ W, SemS cm X.K X.N.length W (tb W) fb)
    (hsu : ∀ k, hd k = some true → ∀ (a : Addr) (oe : Obj) (pn : List (Addr × Obj)), Zc (.ref (cm k)) none oe → (∃ vs, oe.data = .fields vs) → VSs (cmE cm a) (X.suite a ((a, oe) :: pn)) W0 (b₀ :: suite) (ts k a) (fs k))
    (hi : X.N[i]? = some nm := by rfl) (hs : X.stack = X.env :: X.outer := by rfl) (hf : X.env.frame = some X.env.locals := by rfl) (hln : X.env.kindOf nm = some .local := by rfl) :
    VS cm X Wout (.Try body [.ExceptHandler (some (.Name x np)) (some nm) (b₀ :: suite) pos'] [] [] pos) (fun D σ H => tb (wAs X.K (.ref (cm c)) i (tsE cm hd ts) Wout D) D σ H) (sTry i hd fb fs) := by
  refine ⟨ps_try_as hs hf hN hi hln hc tk hb fun a oe cls d pn hz hv => ⟨fun pins s σ H D I ⟨k, e1, e2, e3, h⟩ => ?_⟩, sem_try (List.getElem?_eq_some_iff.mp hi).1 hx hbs fun k e a => ?_⟩
  · subst e1 e2
    exact (hsu k e3 a oe pn hz hv).pe.run pins s σ H D I h
  · exact (hsu k e a { cls := .ref (cm k), dict := none, data := .fields #[], slots := #[] } [] ⟨rfl, rfl⟩ ⟨_, rfl⟩).sem
/-- the body is one call -/
theorem vs_tryCall (i c : Nat) {j m : Nat} {φ : List D → Out} {hd : Nat → Option Bool} {x nm fx : Str} {suite : List Stmt} {b₀ : Stmt} {np pos pos' : Pos} {ts : Nat → Addr → TS} {Wout : WX} {fs : Nat → M Fl} {e : Expr} {es : List Expr} {t : TA} {f : M (List Hd)} {p p1 p2 : Pos} (hN : X.N.Nodup) (tk : Takes X Wout)
    (hx : ∀ k b, hd k = some b → PySem.W.exmOne X.K (.ref (cm k)) (.ref (cm c)) = some b) (hc : Names X x (.ref (cm c))) (F : Fn X.prog X.w X.K X.mg X.base cm j fx m φ) (hr : Room j X.A)
    (ha : ∀ (W : WX) (pn : List (Addr × Obj)) (xe : Value → Shared → Prop), VA cm (X.tr pn xe) W (e :: es) t f)
    (hsu : ∀ k, hd k = some true → ∀ (a : Addr) (oe : Obj) (pn : List (Addr × Obj)), Zc (.ref (cm k)) none oe → (∃ vs, oe.data = .fields vs) → VSs (cmE cm a) (X.suite a ((a, oe) :: pn)) W0 (b₀ :: suite) (ts k a) (fs k))
    (hi : X.N[i]? = some nm := by rfl) (hs : X.stack = X.env :: X.outer := by rfl) (hf : X.env.frame = some X.env.locals := by rfl) (hln : X.env.kindOf nm = some .local := by rfl)
    (hg : Gl X fx := by rfl) (hdb : (fx == ("__debug__" : Str)) = false := by decide) (he : starEach (e :: es) X.env = (false, eval e X.env) :: starEach es X.env := by rfl) (hpl : (backTo p1 (starEach es X.env)).any (·.1) = false := by rfl)
    (hsw : swapsWith (.Call (.Name fx p) (e :: es) [] p1) none p2.line X.env = pure false := by rfl) :
    VS cm X Wout (.Try [.Expr (.Call (.Name fx p) (e :: es) [] p1) p2] [.ExceptHandler (some (.Name x np)) (some nm) (b₀ :: suite) pos'] [] [] pos) (fun D σ H => tDrop (tCallS (spV cm X.K m φ) (WE (wAs X.K (.ref (cm c)) i (tsE cm hd ts) Wout D)) t) D σ H) (sTry i hd (sExpr (eCall m φ f)) fs) :=
  vs_try i c (tb := fun W => tDrop (tCallS (spV cm X.K m φ) (WE W) t)) hN tk hx hc (fun W pn xe t p => (vss_one (vs_expr (ve_call (X := X.tr pn xe) F hr (passAt t) (ha W pn xe) hg hdb he hpl) hsw)).pe) (fun W => sem_expr (sem_call (ha W [] fun _ _ => True).sem)) hsu hi hs hf hln
/-- isinstance(error, C) -/
def isED (sub : Nat → Nat → Option Bool) (tys : Nat → String → Option Bool) (k : Nat) (d e : D) : Option Hd := match d, e with
  | .cls 0, .cls (c + 1) => (sub k (c + 1)).map fun b => .val (.bl b)
  | .cls 0, .ty T => (tys k T).map fun b => .val (.bl b)
  | _, _ => none
theorem s_isE {K : PySem.W.Frag} {n : Nat} {a : Addr} (k : Nat) {sub : Nat → Nat → Option Bool} {tys : Nat → String → Option Bool} (h1 : ∀ c b, sub k c = some b → PySem.W.kitOne K (.ref (cm k)) (.ref (cm c)) = some b) (h2 : ∀ T b, tys k T = some b → PySem.W.kitOne K (.ref (cm k)) (.type T) = some b) :
    CallS (cmE cm a) K n (rIsE K (cm k) a) (f2 (isED sub tys k)) := calls2 fun c H d e v u hh Q hd he hg kk => by
  unfold isED at hg
  split at hg
  · rename_i c'
    cases eb : sub k (c' + 1) with
    | none => rw [eb] at hg; cases hg
    | some b =>
      rw [eb] at hg; cases hg
      have e1 : v = .ref a := hd
      have e2 : u = .ref (cm (c' + 1)) := he
      subst e1 e2
      exact ⟨_, _, b, rfl, fun _ r => r, h1 _ b eb, kk c H _ Ext.refl rfl⟩
  · rename_i T
    cases eb : tys k T with
    | none => rw [eb] at hg; cases hg
    | some b =>
      rw [eb] at hg; cases hg
      have e1 : v = .ref a := hd
      have e2 : u = .ty T := he
      subst e1 e2
      exact ⟨_, _, b, rfl, fun _ r => r, h2 T b eb, kk c H _ Ext.refl rfl⟩
  · cases hg
end
end Vi

/-! ## ViTry3 -/
set_option Elab.async false
set_option linter.all false
set_option maxRecDepth 100000
set_option maxHeartbeats 400000
namespace Vi
open PySem L2
/-! ### the classes of errors, by lists -/
def lkp {α : Type} [BEq α] (ps : List (Nat × α × Bool)) (k : Nat) (c : α) : Option Bool := (ps.find? fun p => p.1 == k && p.2.1 == c).map fun p => p.2.2
theorem lkp_of {α : Type} [BEq α] [LawfulBEq α] {ps : List (Nat × α × Bool)} {P : Nat → α → Bool → Prop} (h : ∀ p ∈ ps, P p.1 p.2.1 p.2.2) {k : Nat} {c : α} {b : Bool} (e : lkp ps k c = some b) : P k c b := by
  unfold lkp at e
  cases q : ps.find? fun p => p.1 == k && p.2.1 == c with
  | none => rw [q] at e; cases e
  | some p =>
    rw [q] at e
    have e : p.2.2 = b := Option.some.inj e
    have h1 := h p (List.mem_of_find?_eq_some q)
    have h2 := List.find?_some q
    rw [Bool.and_eq_true] at h2
    rw [← eq_of_beq h2.1, ← eq_of_beq h2.2, ← e]
    exact h1
def SubP (K : PySem.W.Frag) (cm : Nat → Addr) (p : Nat × Nat × Bool) : Prop :=
  PySem.W.subIn K (.ref (cm p.1)) (.ref (cm p.2.1)) = some p.2.2 ∧ PySem.W.isClsIn K (cm p.2.1) = true ∧ PySem.W.typeIn K (.ref (cm p.2.1)) = some (.type "type") ∧ PySem.W.subIn K (.ref (cm p.1)) (.ref (cm p.1)) = some true
def TyP (K : PySem.W.Frag) (cm : Nat → Addr) (p : Nat × String × Bool) : Prop := PySem.W.kitMeta p.2.1 = true ∧ PySem.W.subIn K (.ref (cm p.1)) (.type p.2.1) = some p.2.2
section
variable {cm : Nat → Addr} {K : PySem.W.Frag}
theorem kit_of {ps : List (Nat × Nat × Bool)} (h : ∀ p ∈ ps, SubP K cm p) (k c : Nat) (b : Bool) (e : lkp ps k c = some b) : PySem.W.kitOne K (.ref (cm k)) (.ref (cm c)) = some b :=
  lkp_of (P := fun k c b => PySem.W.kitOne K (.ref (cm k)) (.ref (cm c)) = some b) (fun p hp => kit_one (h p hp).2.2.2 (h p hp).2.1 (h p hp).2.2.1 (h p hp).1) e
theorem exm_of {ps : List (Nat × Nat × Bool)} {c : Nat} (h0 : PySem.W.subIn K (.ref (cm c)) (.type "BaseException") = some true) (h : ∀ p ∈ ps, SubP K cm p) (k : Nat) (b : Bool) (e : lkp ps k c = some b) : PySem.W.exmOne K (.ref (cm k)) (.ref (cm c)) = some b :=
  lkp_of (P := fun k d b => d = c → PySem.W.exmOne K (.ref (cm k)) (.ref (cm c)) = some b) (fun p hp q => exm_one h0 (by rw [← q]; exact (h p hp).2.1) (by rw [← q]; exact (h p hp).2.2.1) (by rw [← q]; exact (h p hp).1)) e rfl
theorem kty_of {ps : List (Nat × String × Bool)} (h : ∀ p ∈ ps, TyP K cm p) (k : Nat) (c : String) (b : Bool) (e : lkp ps k c = some b) : PySem.W.kitOne K (.ref (cm k)) (.type c) = some b :=
  lkp_of (P := fun k c b => PySem.W.kitOne K (.ref (cm k)) (.type c) = some b) (fun p hp => kit_ty1 (h p hp).1 (h p hp).2) e
def exL (l : List Nat) (k : Nat) : Prop := k ∈ l
theorem excc_mk {D : Addr} (hg : PySem.W.findIn K (.ref D) "__getattribute__" = some (some (.builtin "BaseException.__getattribute__"))) (hk : PySem.W.findIn K (.ref D) "__getattr__" = some none) (hs : PySem.W.subIn K (.ref D) (.type "BaseException") = some true)
  (hd : PySem.W.hasDictIn K D = true) (ha : PySem.W.findIn K (.ref D) "__class__" = some (some (.builtin "object.__class__"))) (hn : PySem.W.specialIn K (.builtin "object.__class__") "__get__" = some (some (.builtin "getset_descriptor.__get__"))) (ht : PySem.W.takesIn K (.builtin "object.__class__") = some true)
  (hm : PySem.W.mroIn K D (.type "object") = some true) : ExcC K D := ⟨hg, hk, hs, hd, ha, hn, ht, hm⟩
/-- all of a list of errors -/
theorem exc_of {ls : List Nat} (h : ∀ k ∈ ls, ExcC K (cm k)) {ps : List (Nat × Nat × Bool)} {c : Nat} (hp : (ps.all fun p => !(p.2.1 == c && p.2.2) || ls.contains p.1) = true) (k : Nat) (e : lkp ps k c = some true) : ExcC K (cm k) := by
  have := lkp_of (P := fun k d b => d = c → b = true → ls.contains k = true) (fun p hq e1 e2 => by
    have z := List.all_eq_true.mp hp p hq
    rw [e1, e2] at z
    simpa using z) e rfl rfl
  exact h k (List.contains_iff_mem.mp this)
end
end Vi

/-! ## ViMoreK -/
set_option Elab.async false
set_option linter.all false
set_option maxRecDepth 100000
set_option maxHeartbeats 400000
namespace Vi
open PySem L2
/-! list methods, the written part by a letter of its own -/
section
variable {cm : Nat → Addr} {X : Cx} {W : WX} {n : Nat} (K : PySem.W.Frag)
theorem wappK (i : Nat) {x : Str} {e : Expr} {te : TE} {f : M Hd} {p apos pos : Pos} (h : VE cm X W e te f) (hK : X.K = K := by rfl) (hN : X.N[i]? = some x := by rfl) (hv : Vis X.env.scope x := by first | exact Or.inl rfl | exact Or.inr (Or.inl rfl) | exact Or.inr (Or.inr rfl)) (hd : (x == ("__debug__" : Str)) = false := by decide)
    (hcd : (x == ("__classdict__" : Str)) = false := by decide) (h0 : attributeBase (.Name x p) "append" X.env (eval (.Name x p) X.env) = eval (.Name x p) X.env := by rfl)
    (h1 : ((((backTo pos (starEach [e] X.env)).all (!·.1)) && ((backToKw pos (keywordEach [] X.env)).all (·.1.isSome))) && decide (([e].length + ([] : List Keyword).length + if ([] : List Keyword).isEmpty = true then 0 else 1) < 30)) = true := by rfl)
    (h2 : (apos.endLine == pos.line) = true := by rfl) (h3 : starEach [e] X.env = (false, eval e X.env) :: starEach [] X.env := by rfl) :
    VE cm X W (.Call (.Attribute (.Name x p) "append" apos) [e] [] pos) (tBM K "list" rAppend (tVar i) (tCons te tNil)) (eAppend i f) := by
  subst hK
  exact ve_append i h hN hv hd hcd (pe_bm PySem.F.plainAttrs_list PySem.F.slot_list_append PySem.F.type_list_append mt_append (pe_var hN hv hd hcd) (pa_cons h.pe pa_nil h3) h0 h1 h2 h3 rfl)
theorem wextK (i : Nat) {x : Str} {e : Expr} {te : TE} {f : M Hd} {p apos pos : Pos} (h : VE cm X W e te f) (hK : X.K = K := by rfl) (hN : X.N[i]? = some x := by rfl) (hv : Vis X.env.scope x := by first | exact Or.inl rfl | exact Or.inr (Or.inl rfl) | exact Or.inr (Or.inr rfl)) (hd : (x == ("__debug__" : Str)) = false := by decide)
    (hcd : (x == ("__classdict__" : Str)) = false := by decide) (h0 : attributeBase (.Name x p) "extend" X.env (eval (.Name x p) X.env) = eval (.Name x p) X.env := by rfl)
    (h1 : ((((backTo pos (starEach [e] X.env)).all (!·.1)) && ((backToKw pos (keywordEach [] X.env)).all (·.1.isSome))) && decide (([e].length + ([] : List Keyword).length + if ([] : List Keyword).isEmpty = true then 0 else 1) < 30)) = true := by rfl)
    (h2 : (apos.endLine == pos.line) = true := by rfl) (h3 : starEach [e] X.env = (false, eval e X.env) :: starEach [] X.env := by rfl) :
    VE cm X W (.Call (.Attribute (.Name x p) "extend" apos) [e] [] pos) (tBM K "list" rExtend (tVar i) (tCons te tNil)) (eExtend i f) := by
  subst hK
  exact ve_extend i h (pe_bm PySem.F.plainAttrs_list PySem.F.slot_list_extend PySem.F.type_list_extend mt_extend (pe_var hN hv hd hcd) (pa_cons h.pe pa_nil h3) h0 h1 h2 h3 rfl)
theorem wpopK (i : Nat) {x : Str} {p apos pos : Pos} (hK : X.K = K := by rfl) (hN : X.N[i]? = some x := by rfl) (hv : Vis X.env.scope x := by first | exact Or.inl rfl | exact Or.inr (Or.inl rfl) | exact Or.inr (Or.inr rfl)) (hd : (x == ("__debug__" : Str)) = false := by decide)
    (hcd : (x == ("__classdict__" : Str)) = false := by decide) (h0 : attributeBase (.Name x p) "pop" X.env (eval (.Name x p) X.env) = eval (.Name x p) X.env := by rfl)
    (h2 : (apos.endLine == pos.line) = true := by rfl) :
    VE cm X W (.Call (.Attribute (.Name x p) "pop" apos) [] [] pos) (tBM0 K "list" rPop (tVar i)) (ePop i) := by
  subst hK
  exact ve_pop i (pe_bm0 PySem.F.plainAttrs_list PySem.F.slot_list_pop PySem.F.type_list_pop mt_pop (pe_var hN hv hd hcd) h0 h2)
theorem vg_tupK {es : List Expr} {k : Nat} {t : TGs} {m : Nat} {g : List D → M Unit} {is : List Nat} {pos : Pos} (hc : X.calm = true) (h : VGs cm X is es t g) (hK : X.K = K := by rfl)
    (hn : (assignEach es X.env).length = m := by rfl) (hst : (assignEach es X.env).findIdx? (·.1) = none := by rfl) : VG cm X is (.Tuple es k pos) (gTup K m t) (gT m g) := by
  subst hK
  exact vg_tup hc h hn hst
end
end Vi

/-! ## ViEnum -/
set_option Elab.async false
set_option linter.all false
set_option maxRecDepth 100000
set_option maxHeartbeats 400000
namespace Vi
open PySem L2
/-! ### enumerate(xs), zip(xs, ys) -/
def enumD : Nat → List D → List D
  | _, [] => []
  | k, x :: r => .tup [.int (k : Int), x] :: enumD (k + 1) r
def zipD : List D → List D → List D
  | x :: xs, y :: ys => .tup [x, y] :: zipD xs ys
  | _, _ => []
def lstOf : D → Option (List D) | .lst xs => some xs | _ => none
def itEnum (f : M Hd) : M (List D × Option Nat) := f >>= fun h => rd h >>= fun d => fun ρ => match lstOf d with
  | some xs => .ok (enumD 0 xs, lentOf h ρ) ρ
  | none => .bad
/-- the second is not a list of a name's own -/
def zipEnd (h k : Hd) (d e : D) : M (List D × Option Nat) := fun ρ => match lstOf d, lstOf e, lentOf k ρ with
  | some xs, some ys, none => .ok (zipD xs ys, lentOf h ρ) ρ
  | _, _, _ => .bad
def itZip (f g : M Hd) : M (List D × Option Nat) := f >>= fun h => g >>= fun k => rd h >>= fun d => rd k >>= fun e => zipEnd h k d e
theorem enum_get : ∀ {xs : List D} {k i : Nat} {d : D}, (enumD k xs)[i]? = some d → ∃ x, xs[i]? = some x ∧ d = .tup [.int ((k + i : Nat) : Int), x]
  | [], k, i, d, h => by simp [enumD] at h
  | x :: r, k, 0, d, h => by
    have h : some (D.tup [.int (k : Int), x]) = some d := h
    cases h; exact ⟨x, rfl, rfl⟩
  | x :: r, k, i + 1, d, h => by
    have h : (enumD (k + 1) r)[i]? = some d := h
    obtain ⟨y, h1, h2⟩ := enum_get h
    refine ⟨y, h1, ?_⟩
    rw [h2]
    have : k + 1 + i = k + (i + 1) := by omega
    rw [this]
theorem enum_len : ∀ {xs : List D} {k : Nat}, (enumD k xs).length = xs.length
  | [], _ => rfl
  | x :: r, k => by show (enumD (k + 1) r).length + 1 = r.length + 1; rw [enum_len]
theorem zip_get : ∀ {xs ys : List D} {i : Nat} {d : D}, (zipD xs ys)[i]? = some d → ∃ x y, xs[i]? = some x ∧ ys[i]? = some y ∧ d = .tup [x, y]
  | [], ys, i, d, h => by simp [zipD] at h
  | x :: xs, [], i, d, h => by simp [zipD] at h
  | x :: xs, y :: ys, 0, d, h => by
    have h : some (D.tup [x, y]) = some d := h
    cases h; exact ⟨x, y, rfl, rfl, rfl⟩
  | x :: xs, y :: ys, i + 1, d, h => zip_get (xs := xs) (ys := ys) h
theorem zip_len : ∀ {xs ys : List D}, xs.length ≤ (zipD xs ys).length ∨ ys.length ≤ (zipD xs ys).length
  | [], ys => .inl (Nat.zero_le _)
  | x :: xs, [] => .inr (Nat.zero_le _)
  | x :: xs, y :: ys => by
    rcases zip_len (xs := xs) (ys := ys) with h | h
    · exact .inl (Nat.succ_le_succ h)
    · exact .inr (Nat.succ_le_succ h)
section
variable {cm : Nat → Addr} {X : Cx} {W : WX} {K : PySem.W.Frag} {n : Nat} {c c' : Col} {H H' : Hp}
/-- where a list that is walked stands, and that it stands still meanwhile -/
theorem lst_src {H₀ : Hp} {ρ : List S} {σ : St} {h : Hd} {x : V} {xs : List D} (r : Rep cm K n c H ρ σ) (hx : HdOk cm K n H₀ c H σ h x) (e : rd h ρ = .ok (.lst xs) ρ) :
    ∃ a vs, x = .ref a ∧ H a = some (.lst vs) ∧ DenL cm K (Gz c H) xs vs ∧ (lentOf h ρ = none → c a = 0 ∨ n < c a) ∧
      ∀ (J : It) (ds : List D), (∀ c2, (∀ b o, Gz c H b = some o → Gz c2 H b = some o) → (∀ b, c b = 0 ∨ n < c b → c2 b = 0 ∨ n < c2 b) → (c2 a = 0 ∨ n < c2 a) → Wlk cm K n J ds c2 H) → WlkL cm K n J σ (lentOf h ρ) ds c H := by
  have dr := (rd_ok r hx e).2
  obtain ⟨a, vs, ev, ha, dl⟩ := dr
  refine ⟨a, vs, ev, ha, dl, ?_⟩
  have plain : (c a = 0 ∨ n < c a) → lentOf h ρ = none → (lentOf h ρ = none → c a = 0 ∨ n < c a) ∧ ∀ (J : It) (ds : List D), (∀ c2, (∀ b o, Gz c H b = some o → Gz c2 H b = some o) → (∀ b, c b = 0 ∨ n < c b → c2 b = 0 ∨ n < c2 b) → (c2 a = 0 ∨ n < c2 a) → Wlk cm K n J ds c2 H) → WlkL cm K n J σ (lentOf h ρ) ds c H := fun hc hn => by
    refine ⟨fun _ => hc, fun J ds g => ?_⟩
    rw [hn]
    exact g c (fun _ _ h => h) (fun _ h => h) hc
  cases h with
  | val d' =>
    have e1 : (R.ok d' ρ : R D) = .ok (.lst xs) ρ := e
    cases e1
    obtain ⟨a', vs', e2, h2, h3⟩ := hx
    rw [ev] at e2; cases e2
    exact plain (.inl (Gz.to h2).1) rfl
  | new d' =>
    obtain ⟨a', e2, h0, h1, h2⟩ := hx
    rw [ev] at e2; cases e2
    exact plain (.inr (by omega)) rfl
  | slot i =>
    have hx : σ[i]? = some (some x) := hx
    rw [ev] at hx
    have e1 : (at_ ρ i).rd ρ = .ok (.lst xs) ρ := e
    have el : lentOf (.slot i) ρ = (at_ ρ i).lentOf i := rfl
    cases qq : at_ ρ i with
    | un => rw [qq] at e1; cases e1
    | fr d' =>
      rw [qq] at e1; cases e1
      obtain ⟨_, _, u, e2, e3⟩ := slot_ok r hx qq (fun z => S.noConfusion z)
      cases e2
      obtain ⟨a', vs', e2, h2, h3⟩ := e3
      cases e2
      exact plain (.inl (Gz.to h2).1) (by rw [el, qq]; rfl)
    | bor d' =>
      rw [qq] at e1; cases e1
      obtain ⟨_, _, u, e2, e3⟩ := slot_ok r hx qq (fun z => S.noConfusion z)
      cases e2
      obtain ⟨a', vs', e2, h2, h3⟩ := e3
      cases e2
      exact plain ((Gb.to h2).1.imp id fun z => by omega) (by rw [el, qq]; rfl)
    | own d' =>
      obtain ⟨hi, _, a', e2, e3, e4⟩ := slot_ok r hx qq (fun z => S.noConfusion z)
      cases e2
      refine ⟨fun z => ?_, fun J ds g => ?_⟩
      · rw [el, qq] at z; cases z
      · rw [el, qq]
        show WlkL cm K n J σ (some i) ds c H
        intro b hb
        rw [hx] at hb
        cases hb
        have e3 : c a = i + 1 := e3
        exact g _ (gz_recol (by omega)) (fun b hb => by
          by_cases q : b = a
          · subst q; exact .inr (by rw [cset_same]; omega)
          · rw [cset_ne q]; exact hb) (.inr (by rw [cset_same]; omega))
theorem still {a : Addr} {o : HO} {c1 : Col} {H1 : Hp} (s : Stp n c c1 H H1) (hc : c a = 0 ∨ n < c a) (ha : H a = some o) : H1 a = some o := by
  rcases hc with q | q
  · exact ((s a _ ha).2.1 q).2
  · exact ((s a _ ha).2.2 q).2
theorem wlk_enum {a : Addr} {ds : List D} {vs : List V} (ha : H a = some (.lst vs)) (hd : DenL cm K (Gz c H) ds vs) (hc : c a = 0 ∨ n < c a) : Wlk cm K n (Ite K a) (enumD 0 ds) c H := by
  intro c1 H1 s i
  have h1 := still s hc ha
  have hl := hd.length
  refine ⟨fun e => ⟨vs, SqL.of h1, by rw [enum_len] at e; omega⟩, fun d e => ?_⟩
  obtain ⟨x, hx, ed⟩ := enum_get e
  obtain ⟨v, hv, dv⟩ := hd.get hx
  refine ⟨⟨vs, v, SqL.of h1, hv⟩, fun u H2 hy => ?_⟩
  obtain ⟨T, x', e1, e2, e3, e4⟩ := hy
  have e5 := e4 vs (SqL.of h1)
  rw [hv] at e5
  cases e5
  subst e1 e3 ed
  refine ⟨cset c1 T 0, Ext.alloc e2, den_new_tup e2 ⟨.int ((0 + i : Nat) : Int), [v], ?_, rfl, v, [], rfl, Den.mono s.gz _ _ dv, rfl⟩⟩
  rw [Nat.zero_add]
theorem wlk_zip {a b : Addr} {ds es : List D} {vs us : List V} (ha : H a = some (.lst vs)) (hd : DenL cm K (Gz c H) ds vs) (hc : c a = 0 ∨ n < c a) (hb : H b = some (.lst us)) (he : DenL cm K (Gz c H) es us) (hcb : c b = 0 ∨ n < c b) : Wlk cm K n (Itz K a b) (zipD ds es) c H := by
  intro c1 H1 s i
  have h1 := still s hc ha
  have h2 := still s hcb hb
  have hl := hd.length
  have hl2 := he.length
  refine ⟨fun e => ⟨vs, us, SqL.of h1, SqL.of h2, ?_⟩, fun d e => ?_⟩
  · have := zip_len (xs := ds) (ys := es)
    omega
  obtain ⟨x, y, hx, hy, ed⟩ := zip_get e
  obtain ⟨v, hv, dv⟩ := hd.get hx
  obtain ⟨u, hu, du⟩ := he.get hy
  refine ⟨⟨vs, us, v, u, SqL.of h1, SqL.of h2, hv, hu⟩, fun z H2 hy => ?_⟩
  obtain ⟨T, x', y', e1, e2, e3, e4, e6⟩ := hy
  have e5 := e4 vs (SqL.of h1)
  have e7 := e6 us (SqL.of h2)
  rw [hv] at e5
  rw [hu] at e7
  cases e5; cases e7
  subst e1 e3 ed
  exact ⟨cset c1 T 0, Ext.alloc e2, den_new_tup e2 ⟨v, [u], rfl, Den.mono s.gz _ _ dv, u, [], rfl, Den.mono s.gz _ _ du, rfl⟩⟩
theorem lstOf_ok {d : D} {xs : List D} (h : lstOf d = some xs) : d = .lst xs := by
  cases d with
  | lst ys => cases h; rfl
  | _ => cases h
theorem sem_itEnum {te : TE} {f : M Hd} (h : Sem cm K n W (HdOk cm K n) te f) : SemI cm K n W (iEnum K (tCons te tNil)) (itEnum f) := by
  intro ρ c σ H Rw r q
  refine h ρ c σ H _ r ?_
  unfold itEnum at q
  rw [M.bind_run] at q
  cases e : f ρ with
  | bad => rw [e] at q; exact q.elim
  | exc k ρ1 => rw [e] at q; exact q
  | ok hd ρ1 =>
    rw [e] at q
    intro c1 H1 x s1 r1 hx
    obtain ⟨d, e1, q⟩ := rd_bind (P := QI cm K n W Rw ρ c H σ) (fun h => h) q
    cases el : lstOf d with
    | none => simp only [el] at q; exact q.elim
    | some xs =>
      simp only [el] at q
      have ed := lstOf_ok el
      subst ed
      obtain ⟨a, vs, ev, ha, dl, _, key⟩ := lst_src r1 hx e1
      refine ⟨a, vs, by rw [ev], SqL.of ha, q c1 H1 _ s1 r1 (key _ _ fun c2 g _ hc => wlk_enum ha (DenL.mono g _ _ dl) hc)⟩
theorem vi_enum {e : Expr} {te : TE} {f : M Hd} {p pos tpos : Pos} {elts : List Expr} {kk : Nat} (K : PySem.W.Frag) (hm : X.mg "enumerate" = none) (h : VE cm X W e te f) (hK : X.K = K := by rfl) (hg : Gl X "enumerate" := by rfl) (hs : starEach [e] X.env = [(false, eval e X.env)] := by rfl) :
    VI cm X W (.Tuple elts kk tpos) (.Call (.Name "enumerate" p) [e] [] pos) (iEnum K (tCons te tNil)) (itEnum f) := by
  subst hK
  exact ⟨pi_enum hg hm (pa_cons h.pe pa_nil hs) hs, sem_itEnum h.sem⟩
theorem sem_itZip {te tu : TE} {f g : M Hd} (h : Sem cm K n W (HdOk cm K n) te f) (h2 : Sem cm K n W (HdOk cm K n) tu g) : SemI cm K n W (iZip K (tCons te (tCons tu tNil))) (itZip f g) := by
  intro ρ c σ H Rw r q
  refine h ρ c σ H _ r ?_
  unfold itZip at q
  rw [M.bind_run] at q
  cases e : f ρ with
  | bad => rw [e] at q; exact q.elim
  | exc k ρ1 => rw [e] at q; exact q
  | ok hd ρ1 =>
    rw [e] at q
    intro c1 H1 x s1 r1 hx
    refine h2 ρ1 c1 σ H1 _ r1 ?_
    dsimp only at q
    rw [M.bind_run] at q
    cases e2 : g ρ1 with
    | bad => rw [e2] at q; exact q.elim
    | exc k ρ2 => rw [e2] at q; exact fun c' H' s r' => q c' H' (s1.trans s) r'
    | ok hd2 ρ2 =>
      rw [e2] at q
      intro c2 H2 y s2 r2 hy
      obtain ⟨d, ed, q⟩ := rd_bind (P := QI cm K n W Rw ρ c H σ) (fun h => h) q
      have q5 : QI cm K n W Rw ρ c H σ ((rd hd2 >>= fun e => zipEnd hd hd2 d e) ρ2) := q
      clear q
      rw [M.bind_run] at q5
      rcases rd_cases hd2 ρ2 with ⟨d2, ed2⟩ | ed2
      case inr => rw [ed2] at q5; exact q5.elim
      rw [ed2] at q5
      dsimp only at q5
      unfold zipEnd at q5
      cases el : lstOf d with
      | none => simp only [el] at q5; exact q5.elim
      | some xs =>
        cases el2 : lstOf d2 with
        | none => simp only [el, el2] at q5; exact q5.elim
        | some ys =>
          cases eo : lentOf hd2 ρ2 with
          | some j => simp only [el, el2, eo] at q5; exact q5.elim
          | none =>
            simp only [el, el2, eo] at q5
            have ex := lstOf_ok el
            have ey := lstOf_ok el2
            subst ex ey
            obtain ⟨a, vs, ev, ha, dl, _, key⟩ := lst_src r2 (hx.stp s2.st) ed
            obtain ⟨b, us, eu, hb, dl2, hb2, _⟩ := lst_src r2 hy ed2
            exact ⟨a, b, vs, us, by rw [ev, eu], SqL.of ha, SqL.of hb, q5 c2 H2 _ (s1.trans s2) r2 (key _ _ fun c3 g keep hc => wlk_zip ha (DenL.mono g _ _ dl) hc hb (DenL.mono g _ _ dl2) (keep b (hb2 eo)))⟩
theorem vi_zip {e e2 : Expr} {te tu : TE} {f g : M Hd} {p pos tpos : Pos} {elts : List Expr} {kk : Nat} (K : PySem.W.Frag) (hm : X.mg "zip" = none) (h : VE cm X W e te f) (h2 : VE cm X W e2 tu g) (hK : X.K = K := by rfl) (hg : Gl X "zip" := by rfl)
    (hs : starEach [e, e2] X.env = (false, eval e X.env) :: starEach [e2] X.env := by rfl) (hs2 : starEach [e2] X.env = (false, eval e2 X.env) :: starEach [] X.env := by rfl) (hpl : (backTo pos (starEach [e2] X.env)).any (·.1) = false := by rfl) :
    VI cm X W (.Tuple elts kk tpos) (.Call (.Name "zip" p) [e, e2] [] pos) (iZip K (tCons te (tCons tu tNil))) (itZip f g) := by
  subst hK
  exact ⟨pi_zip hg hm (pa_cons h.pe (pa_cons h2.pe pa_nil hs2) hs) hs hpl, sem_itZip h.sem h2.sem⟩
end
end Vi

/-! ## ViDic -/
set_option Elab.async false
set_option linter.all false
set_option maxRecDepth 100000
set_option maxHeartbeats 400000
namespace Vi
open PySem L2
/-! ### dicts whose keys are texts -/
section
variable {cm : Nat → Addr} {X : Cx} {W : WX} {K : PySem.W.Frag} {n : Nat} {c : Col} {H : Hp}
def eDNew : M Hd := pure (.new (.dic [] []))
theorem ve_dnew {pos : Pos} : VE cm X W (.Dict [] [] pos) tDNewK eDNew := ⟨pe_dnewK, fun ρ c σ H Q r q p hp => by
  have e : Ext c (cset c p (X.N.length + 1)) H (upd H p (.dK [])) := Ext.alloc hp
  exact q _ _ _ (Stp.stq e.stp) (r.ext e) ⟨p, rfl, hp, cset_same, [], upd_same, rfl, rfl⟩⟩
/-- k there: its value, or at the end -/
def kput {α : Type} (ks : List (List Nat)) (xs : List α) (k : List Nat) (v : α) : List (List Nat) × List α :=
  if ks.contains k = true then (ks, List.zipWith (fun k' x => if k' = k then v else x) ks xs) else (ks ++ [k], xs ++ [v])
theorem kys_any (k : List Nat) : ∀ {ks : List (List Nat)} {vs : List V}, ks.length = vs.length → ((kys ks vs).any fun kv => decide (kv.1 = Sum.inr ⟨k.toArray⟩)) = ks.contains k
  | [], [], _ => rfl
  | [], v :: vs, h => by cases h
  | k' :: ks, [], h => by cases h
  | k' :: ks, v :: vs, h => by
    have h : ks.length = vs.length := by simpa using h
    have e : kys (k' :: ks) (v :: vs) = ((Sum.inr ⟨k'.toArray⟩ : Key), v) :: kys ks vs := rfl
    rw [e, List.any_cons, kys_any k h, List.contains_cons]
    congr 1
    by_cases q : k' = k
    · subst q; simp
    · have q1 : (k == k') = false := beq_eq_false_iff_ne.mpr fun e => q e.symm
      rw [q1]
      exact decide_eq_false fun z => q (str_mk.mp (Sum.inr.inj z))
theorem kys_map (k : List Nat) (v : V) : ∀ {ks : List (List Nat)} {vs : List V}, (kys ks vs).map (fun kv => if kv.1 = Sum.inr ⟨k.toArray⟩ then (kv.1, v) else kv) = kys ks (List.zipWith (fun k' x => if k' = k then v else x) ks vs)
  | [], vs => rfl
  | k' :: ks, [] => rfl
  | k' :: ks, u :: vs => by
    have e : kys (k' :: ks) (u :: vs) = ((Sum.inr ⟨k'.toArray⟩ : Key), u) :: kys ks vs := rfl
    rw [e, List.map_cons, kys_map k v, List.zipWith_cons_cons]
    by_cases q : k' = k
    · subst q; rw [if_pos rfl, if_pos rfl]; rfl
    · rw [if_neg q, if_neg fun z => q (str_mk.mp (Sum.inr.inj z))]; rfl
theorem kys_app {ks ks' : List (List Nat)} {vs vs' : List V} (h : ks.length = vs.length) : kys (ks ++ ks') (vs ++ vs') = kys ks vs ++ kys ks' vs' := by
  unfold kys
  rw [List.map_append, List.zip_append (by rw [List.length_map]; exact h)]
theorem kys_put {ks : List (List Nat)} {vs : List V} {k : List Nat} {v : V} (h : ks.length = vs.length) : kys (kput ks vs k v).1 (kput ks vs k v).2 = putK (kys ks vs) (Sum.inr ⟨k.toArray⟩) v := by
  unfold kput putK
  rw [kys_any k h]
  by_cases q : ks.contains k = true
  · rw [if_pos q, if_pos q]; exact (kys_map k v).symm
  · rw [if_neg q, if_neg q]; exact kys_app h
theorem kput_len {α : Type} {ks : List (List Nat)} {vs : List α} {k : List Nat} {v : α} (h : ks.length = vs.length) : (kput ks vs k v).1.length = (kput ks vs k v).2.length := by
  unfold kput
  split
  · simp [h]
  · simp [h]
theorem kput_keys {α β : Type} (ks : List (List Nat)) (xs : List α) (ys : List β) (k : List Nat) (v : α) (u : β) : (kput ks xs k v).1 = (kput ks ys k u).1 := by
  unfold kput; split <;> rfl
theorem zip_den {G : Hp} {d : D} {v : V} (k : List Nat) (hv : Den cm K G d v) : ∀ {ks : List (List Nat)} {xs : List D} {vs : List V}, DenL cm K G xs vs → DenL cm K G (List.zipWith (fun k' x => if k' = k then d else x) ks xs) (List.zipWith (fun k' x => if k' = k then v else x) ks vs)
  | [], xs, vs, h => rfl
  | k' :: ks, [], vs, h => by cases (show vs = [] from h); rfl
  | k' :: ks, x :: xs, vs, ⟨u, r, e, h1, h2⟩ => by
    subst e
    rw [List.zipWith_cons_cons, List.zipWith_cons_cons]
    refine ⟨_, _, rfl, ?_, zip_den k hv h2⟩
    by_cases q : k' = k
    · rw [if_pos q, if_pos q]; exact hv
    · rw [if_neg q, if_neg q]; exact h1
theorem kput_den {G : Hp} {ks : List (List Nat)} {xs : List D} {vs : List V} {k : List Nat} {d : D} {v : V} (h : DenL cm K G xs vs) (hv : Den cm K G d v) : DenL cm K G (kput ks xs k d).2 (kput ks vs k v).2 := by
  unfold kput
  split
  · exact zip_den k hv h
  · exact h.append ⟨v, [], rfl, hv, rfl⟩
/-- dict(pairs) -/
def prs? : List D → Option (List (List Nat × D))
  | [] => some []
  | .tup [.str k, v] :: r => (prs? r).map ((k, v) :: ·)
  | _ => none
def mkDic (ps : List (List Nat × D)) : List (List Nat) × List D := ps.foldl (fun a p => kput a.1 a.2 p.1 p.2) ([], [])
def dictD : D → Option Hd
  | .lst ds => (prs? ds).map fun ps => .new (.dic (mkDic ps).1 (mkDic ps).2)
  | _ => none
theorem prs_v : ∀ {ds : List D} {vs : List V} {ps : List (List Nat × D)}, DenL cm K (Gz c H) ds vs → prs? ds = some ps → ∃ (as : List Addr) (us : List V), vs = as.map V.ref ∧ DenL cm K (Gz c H) (ps.map (·.2)) us ∧ ps.length = us.length ∧
    Paired (fun p (kv : Key × V) => SqT K H p [kV kv.1, kv.2]) as (kys (ps.map (·.1)) us)
  | [], vs, ps, h, e => by
    cases e
    cases (show vs = [] from h)
    exact ⟨[], [], rfl, rfl, rfl, .nil⟩
  | d :: ds, vs, ps, ⟨v, r, e1, h1, h2⟩, e => by
    subst e1
    unfold prs? at e
    split at e
    · rename_i q; cases q
    · rename_i k w r' q
      cases q
      cases e2 : prs? ds with
      | none => rw [e2] at e; cases e
      | some qs =>
        rw [e2] at e
        cases e
        obtain ⟨as, us, q1, q2, q3, q4⟩ := prs_v h2 e2
        obtain ⟨a, ws, ev, ha, hw⟩ := h1
        obtain ⟨u1, r1, e3, k1, k2⟩ := hw
        obtain ⟨u2, r2, e4, k3, k4⟩ := k2
        cases (show r2 = [] from k4)
        subst e4 e3 ev
        cases (show u1 = .str ⟨k.toArray⟩ from k1)
        refine ⟨a :: as, u2 :: us, by rw [q1]; rfl, ⟨u2, us, rfl, k3, q2⟩, by simp [q3], .cons (SqT.of (Gz.to ha).2) q4⟩
    · cases e
theorem mk_v {G : Hp} : ∀ {ps : List (List Nat × D)} {us : List V} {a : List (List Nat) × List D} {b : List V}, DenL cm K G (ps.map (·.2)) us → a.1.length = b.length → DenL cm K G a.2 b →
    ∃ b', mergeK (kys a.1 b) (kys (ps.map (·.1)) us) = kys (ps.foldl (fun a p => kput a.1 a.2 p.1 p.2) a).1 b' ∧ (ps.foldl (fun a p => kput a.1 a.2 p.1 p.2) a).1.length = b'.length ∧ DenL cm K G (ps.foldl (fun a p => kput a.1 a.2 p.1 p.2) a).2 b'
  | [], us, a, b, h, hl, hd => ⟨b, by cases (show us = [] from h); rfl, hl, hd⟩
  | p :: ps, us, a, b, ⟨u, r, e, h1, h2⟩, hl, hd => by
    subst e
    have e1 : kys ((p :: ps).map (·.1)) (u :: r) = ((Sum.inr ⟨p.1.toArray⟩ : Key), u) :: kys (ps.map (·.1)) r := rfl
    have e2 := kys_put (k := p.1) (v := u) hl
    obtain ⟨b', q1, q2, q3⟩ := mk_v (a := kput a.1 a.2 p.1 p.2) (b := (kput a.1 b p.1 u).2) h2 (by rw [← kput_len hl]; congr 1; exact kput_keys _ _ _ _ _ _) (kput_den hd h1)
    refine ⟨b', ?_, q2, q3⟩
    rw [e1]
    show mergeK (putK (kys a.1 b) (Sum.inr ⟨p.1.toArray⟩) u) (kys (ps.map (·.1)) r) = _
    rw [← e2, kput_keys a.1 b a.2 p.1 u p.2]
    exact q1
def rDict (K : PySem.W.Frag) : List V → Hp → VK → Prop := fun xs H Q => ∃ (a : Addr) (ps : List Addr) (kvs : List (Key × V)), xs = [.ref a] ∧ SqL K H a (ps.map V.ref) ∧ Paired (fun p kv => SqT K H p [kV kv.1, kv.2]) ps kvs ∧
    ∀ p, H p = none → Q (.ref p) (upd H p (.dK (mergeK [] kvs)))
theorem s_dict : CallS cm K n (rDict K) (f1 dictD) := calls1 fun c H d v hh Q hd hg k => by
  unfold dictD at hg
  split at hg
  · rename_i ds
    cases e : prs? ds with
    | none => rw [e] at hg; cases hg
    | some ps =>
      rw [e] at hg; cases hg
      obtain ⟨a, vs, ev, h1, h2⟩ := hd
      obtain ⟨as, us, q1, q2, q3, q4⟩ := prs_v h2 e
      obtain ⟨b', m1, m2, m3⟩ := mk_v (a := ([], [])) (b := []) q2 rfl rfl
      refine ⟨a, as, _, by rw [ev], by rw [← q1]; exact SqL.of h1, q4, fun p hp => ?_⟩
      have ex : Ext c (cset c p (n + 1)) H (upd H p (.dK (mergeK [] (kys (ps.map (·.1)) us)))) := Ext.alloc hp
      refine k _ _ _ ex ⟨p, rfl, hp, cset_same, b', ?_, m2, DenL.mono ex.gz _ _ m3⟩
      rw [upd_same]
      exact congrArg (fun z => some (HO.dK z)) m1
  · cases hg
theorem cd_dict (hc : X.calm = true) : CallR X (.type "dict") (rDict X.K) := call_dictP hc
/-- d.get(k, e) -/
def isDic : D → Bool | .dic _ _ => true | _ => false
def getD2 (d k : D) : Option (Option D) := match d, k with | .dic ks xs, .str s => some (kget ks xs s) | _, _ => none
def eGet2 (fd fk fx : M Hd) : M Hd := fd >>= fun hd => rd hd >>= fun d0 => guardM (isDic d0) (fk >>= fun hk => fx >>= fun hx => rd hd >>= fun d => rd hk >>= fun k => M.lift (getD2 d k) >>= fun o => match o with | some v => pure (.val v) | none => pure hx)
theorem isd_of {d : D} {v : V} (hd : DenR cm K c H d v) (h : isDic d = true) : ∃ a, v = .ref a ∧ IsD H a := by
  cases d with
  | dic ks xs => obtain ⟨a, vs, e, h1, h2⟩ := hd; exact ⟨a, e, .inl ⟨_, .inl h1⟩⟩
  | _ => cases h
theorem sem_get2 {td tk tx : TE} {fd fk fx : M Hd} (h1 : Sem cm K n W (HdOk cm K n) td fd) (h2 : Sem cm K n W (HdOk cm K n) tk fk) (h3 : Sem cm K n W (HdOk cm K n) tx fx) : Sem cm K n W (HdOk cm K n) (tDGet2 td tk tx) (eGet2 fd fk fx) := by
  refine Sem.bind (u := fun x σ H1 Q => ∃ a, x = .ref a ∧ IsD H1 a ∧ tk σ H1 fun y H2 => tx σ H2 fun z H3 => ∃ o, DGet H3 a y o ∧ Q (o.getD z) H3) h1 ?_
  intro ρ₀ c₀ H₀ a x ρ c σ H Q s0 r0 hx q
  dsimp only at q
  obtain ⟨d0, e0, q⟩ := rd_bind (P := QR cm K n W (HdOk cm K n) Q ρ₀ c₀ H₀ σ) QR.nobad q
  cases ei : isDic d0 with
  | false => rw [ei] at q; exact q.elim
  | true =>
    rw [ei] at q
    obtain ⟨p, ep, isd⟩ := isd_of (rd_ok r0 hx e0).2 ei
    refine ⟨p, ep, isd, ?_⟩
    subst ep
    have q : QR cm K n W (HdOk cm K n) Q ρ₀ c₀ H₀ σ ((fk >>= fun hk => fx >>= fun hx => rd a >>= fun d => rd hk >>= fun k => M.lift (getD2 d k) >>= fun o => match o with | some v => pure (.val v) | none => pure hx) ρ) := q
    refine h2 ρ c σ H _ r0 ?_
    rw [M.bind_run] at q
    cases e1 : fk ρ with
    | bad => rw [e1] at q; exact q.elim
    | exc j ρ' => rw [e1] at q; exact fun c' H' s' r' => q c' H' (s0.trans s') r'
    | ok hk ρ1 =>
      rw [e1] at q
      intro c1 H1 y s1 r1 hy
      dsimp only at q
      refine h3 ρ1 c1 σ H1 _ r1 ?_
      rw [M.bind_run] at q
      cases e2 : fx ρ1 with
      | bad => rw [e2] at q; exact q.elim
      | exc j ρ' => rw [e2] at q; exact fun c' H' s' r' => q c' H' ((s0.trans s1).trans s') r'
      | ok hz ρ2 =>
        rw [e2] at q
        intro c2 H2 z s2 r2 hz'
        dsimp only at q
        obtain ⟨d, ed, q⟩ := rd_bind (P := QR cm K n W (HdOk cm K n) Q ρ₀ c₀ H₀ σ) QR.nobad q
        obtain ⟨k, ek, q⟩ := rd_bind (P := QR cm K n W (HdOk cm K n) Q ρ₀ c₀ H₀ σ) QR.nobad q
        have p1 := (rd_ok r2 ((hx.stp s1.st).stp s2.st) ed).2
        have p2 := (rd_ok r2 (hy.stp s2.st) ek).2
        rw [M.bind_run, lift_run] at q
        cases d with
        | dic ks xs =>
          cases k with
          | str s =>
            have q : QR cm K n W (HdOk cm K n) Q ρ₀ c₀ H₀ σ ((match kget ks xs s with | some v => (pure (.val v) : M Hd) | none => pure hz) ρ2) := q
            obtain ⟨a', vs, e3, e4, e5, g⟩ := dget_of p1 p2
            cases e3
            have sall := (s0.trans s1).trans s2
            refine ⟨_, g, ?_⟩
            cases eg : kget ks xs s with
            | none =>
              rw [eg] at q
              have en : kget ks vs s = none := by
                have h1 := kget_some (s := s) (ks := ks) (vs := vs) e4
                have h2 := kget_some (s := s) (ks := ks) (vs := xs) (by rw [e4, e5.length])
                rw [eg] at h2
                rw [← h2] at h1
                cases h3 : kget ks vs s with
                | none => rfl
                | some _ => rw [h3] at h1; cases h1
              rw [en]
              exact q c2 H2 z sall r2 (hd_stab.2 _ _ _ _ _ _ _ _ _ (s0.trans s1).st hz')
            | some v =>
              rw [eg] at q
              obtain ⟨u, eu, du⟩ := kget_den e5 eg
              rw [eu]
              exact q c2 H2 u sall r2 du
          | _ => exact q.elim
        | _ => exact q.elim
theorem m2_mk {o : Expr} {m : Str} {apos cpos : Pos} {e f : Expr} (h1 : attributeBase o m X.env (eval o X.env) = eval o X.env := by rfl)
  (h2 : ((backTo cpos (starEach [e, f] X.env)).all (fun x => !x.1) && (backToKw cpos (keywordEach [] X.env)).all (fun x => x.1.isSome)
    && decide (([e, f] : List Expr).length + ([] : List Keyword).length + (if ([] : List Keyword).isEmpty then 0 else 1) < 30)) = true := by rfl)
  (h3 : (apos.endLine == cpos.line) = true := by rfl) (h4 : backTo cpos (starEach [e, f] X.env) = [(false, eval e X.env), (false, eval f X.env)] := by rfl) : M2 X o m apos e f cpos := ⟨h1, h2, h3, h4⟩
theorem ve_get2 {o e f : Expr} {td tk tx : TE} {fd fk fx : M Hd} {apos cpos : Pos} (hu : X.A.units + 64 < cLine) (ho : VE cm X W o td fd) (he : VE cm X W e tk fk) (hf : VE cm X W f tx fx) (m : M2 X o "get" apos e f cpos := by exact m2_mk) :
    VE cm X W (.Call (.Attribute o "get" apos) [e, f] [] cpos) (tDGet2 td tk tx) (eGet2 fd fk fx) := ⟨pe_dget2 (by omega) ho.pe he.pe hf.pe m, sem_get2 ho.sem he.sem hf.sem⟩
end
end Vi

/-! ## ViDic2 -/
set_option Elab.async false
set_option linter.all false
set_option maxRecDepth 100000
set_option maxHeartbeats 400000
namespace Vi
open PySem L2
section
variable {cm : Nat → Addr} {X : Cx} {W : WX} {K : PySem.W.Frag} {n : Nat} {c : Col} {H : Hp}
/-! ### d[k] = v, d a name's own dict -/
def ownK : S → Option (List (List Nat) × List D) | .own (.dic ks xs) => some (ks, xs) | _ => none
theorem ownK_ok {s : S} {p : List (List Nat) × List D} (h : ownK s = some p) : s = .own (.dic p.1 p.2) := by
  cases s with
  | own d => cases d with
    | dic ks xs => cases h; rfl
    | _ => cases h
  | _ => cases h
def getOwnK (i : Nat) : M (List (List Nat) × List D) := fun ρ => match ownK (at_ ρ i) with | some xs => .ok xs ρ | none => .bad
def setOwnK (i : Nat) (p : List (List Nat) × List D) : M Unit := fun ρ => .ok () (ρ.set i (.own (.dic p.1 p.2)))
theorem getOwnK_ok {ρ : List S} {σ : St} {i : Nat} (r : Rep cm K n c H ρ σ) : (getOwnK i ρ = .bad) ∨ ∃ p a vs, getOwnK i ρ = .ok p ρ ∧ i < n ∧ ρ[i]? = some (.own (.dic p.1 p.2)) ∧ σ[i]? = some (some (.ref a)) ∧ c a = i + 1 ∧ H a = some (.dK (kys p.1 vs)) ∧ p.1.length = vs.length ∧ DenL cm K (Gz c H) p.2 vs := by
  unfold getOwnK
  cases q : ownK (at_ ρ i) with
  | none => exact .inl rfl
  | some p =>
    have e := ownK_ok q
    have hs := at_some e (fun z => S.noConfusion z)
    obtain ⟨v, hv, a, e1, e2, vs, e3, e4, e5⟩ := r.at_ i _ hs
    subst e1
    exact .inr ⟨p, a, vs, rfl, by rw [← r.len]; exact (List.getElem?_eq_some_iff.mp hs).1, hs, hv, e2, e3, e4, e5⟩
def str? : D → Option (List Nat) | .str s => some s | _ => none
def sSetK (i : Nat) (fj fe : M Hd) : M Fl := fe >>= fun h => fz h >>= fun d => getOwnK i >>= fun _ => fj >>= fun hj => rd hj >>= fun dj => M.lift (str? dj) >>= fun k => getOwnK i >>= fun p => guardM (decide (p.1.length < SLine)) (setOwnK i (kput p.1 p.2 k d) >>= fun _ => pure .nx)
theorem kys_len {ks : List (List Nat)} {vs : List V} (h : ks.length = vs.length) : (kys ks vs).length = ks.length := by
  unfold kys
  rw [List.length_zip, List.length_map]; omega
theorem sem_setK (i : Nat) {te tj : TE} {f fj : M Hd} (he : Sem cm K n W (HdOk cm K n) te f) (hj : Sem cm K n W (HdOk cm K n) tj fj) : SemS cm K n W (tAsg te (gSub (tVar i) tj rSetD)) (sSetK i fj f) := by
  intro ρ c σ H Dn r q
  unfold sSetK at q
  refine sem_in he r q fun a ρ1 c1 H1 y s1 r1 hy q1 => ?_
  rw [M.bind_run] at q1
  rcases fz_cases a ρ1 with ⟨d, ρ2, ez⟩ | ez
  case inr => rw [ez] at q1; exact q1.elim
  rw [ez] at q1
  dsimp only at q1
  obtain ⟨c2, s2, r2, dd, g2⟩ := fz_ok s1 r1 hy ez
  rw [M.bind_run] at q1
  rcases getOwnK_ok (i := i) r2 with e0 | ⟨xs0, ad, vs0, e0, hi0, hs0, had, hc0, hH0, hl0, dl0⟩
  · rw [e0] at q1; exact q1.elim
  rw [e0] at q1
  dsimp only at q1
  have main : tj σ H1 fun z H2 => rSetD (.ref ad) z y H2 fun H3 => Dn.nx σ H3 := by
    refine hj ρ2 c2 σ H1 _ r2 ?_
    rw [M.bind_run] at q1
    cases ef : fj ρ2 with
    | bad => rw [ef] at q1; exact q1.elim
    | exc k ρ' => rw [ef] at q1; exact fun c' H' s' r' => q1 c' σ H' (s2.trans s').st (s2.trans s').kp r'
    | ok hh ρ3 =>
      rw [ef] at q1
      intro c3 H3 z s3 r3 hz
      dsimp only at q1
      obtain ⟨dj, ed, q1⟩ := rd_bind (P := QS cm K n W Dn ρ σ c H) (fun h => h) q1
      have dr := (rd_ok r3 hz ed).2
      rw [M.bind_run, lift_run] at q1
      cases dj with
      | str k =>
        have q1 : QS cm K n W Dn ρ σ c H ((getOwnK i >>= fun p => guardM (decide (p.1.length < SLine)) (setOwnK i (kput p.1 p.2 k d) >>= fun _ => pure .nx)) ρ3) := q1
        rw [M.bind_run] at q1
        rcases getOwnK_ok (i := i) r3 with e2 | ⟨p, a2, vs2, e2, hi2, hs2, ha2, hc2, hH2, hl2, dl2⟩
        · rw [e2] at q1; exact q1.elim
        rw [e2] at q1
        dsimp only at q1
        rw [had] at ha2
        cases ha2
        by_cases hz : p.1.length < SLine
        case neg => simp only [guardM, decide_eq_false hz, Bool.false_eq_true, if_false] at q1; exact q1.elim
        simp only [guardM, decide_eq_true hz, if_true] at q1
        have q1 : QN cm K n Dn.nx ρ σ c H (ρ3.set i (.own (.dic (kput p.1 p.2 k d).1 (kput p.1 p.2 k d).2))) := q1
        have s03 := s2.trans s3
        have ek := kys_put (k := k) (v := y) hl2
        refine ⟨ad, _, rfl, .inl ⟨_, Sum.inr ⟨k.toArray⟩, hH2, den_str dr, by rw [kys_len hl2]; exact Nat.lt_of_lt_of_le hz sline, rfl⟩, ?_⟩
        rw [← ek]
        refine q1 c3 σ _ (s03.st.mutN (by omega) (by omega)) ?_ ?_
        · exact (Stq.mk (s03.st.mutN (by omega) (by omega)) s03.kq.own : Stq n ρ _ c c3 H (upd H3 ad (.dK (kys (kput p.1 vs2 k y).1 (kput p.1 vs2 k y).2)))).kp
        · refine r3.mut hs2 had hc2 ⟨(kput p.1 vs2 k y).2, ?_, ?_, DenL.mono (gz_write (by omega)) _ _ (kput_den dl2 (Den.mono s3.st.gz _ _ dd))⟩
          · rw [upd_same, kput_keys p.1 p.2 vs2 k d y]
          · rw [kput_keys p.1 p.2 vs2 k d y]; exact kput_len hl2
      | _ => exact q1.elim
  exact ⟨_, had, main⟩
theorem wsetK (K : PySem.W.Frag) (i : Nat) {x : Str} {e ej : Expr} {te tj : TE} {f fj : M Hd} {p p2 pos : Pos} (hu : X.A.units + 64 < cLine) (he : VE cm X W e te f) (hj : VE cm X W ej tj fj) (hK : X.K = K := by rfl) (hN : X.N[i]? = some x := by rfl) (hv : Vis X.env.scope x := by first | exact Or.inl rfl | exact Or.inr (Or.inl rfl) | exact Or.inr (Or.inr rfl)) (hd : (x == ("__debug__" : Str)) = false := by decide)
    (hcd : (x == ("__classdict__" : Str)) = false := by decide)
    (h1 : swapsWithSole [.Subscript (.Name x p) ej p2] e pos.line X.env = pure false := by rfl) (h2 : swappedStores [.Subscript (.Name x p) ej p2] e X.env = pure none := by rfl)
    (h3 : (assignEach [.Subscript (.Name x p) ej p2] X.env).map (·.2) = [assign (.Subscript (.Name x p) ej p2) X.env] := by rfl)
    (h4 : ∀ v, assign (.Subscript (.Name x p) ej p2) X.env v = (do
      let ov ← holding [v] (eval (.Name x p) X.env)
      let iv ← holding [v, ov] (eval ej X.env)
      standAt p2
      holding [v, ov, iv] (setItem ov iv v)
      release [v, ov, iv] []) := by intro _; rfl) :
    VS cm X W (.Assign [.Subscript (.Name x p) ej p2] e pos) (tAsg te (gSub (tVar i) tj rSetD)) (sSetK i fj f) :=
  ⟨ps_asg he.pe (pg_sub (pe_var hN hv hd hcd) hj.pe (set_dict (by omega)) h4) h1 h2 h3, sem_setK i he.sem hj.sem⟩

/-! ### [(x, d[x]) for x in d], d a name's own dict -/
def pairD (k : List Nat) (x : D) : D := .tup [.str k, x]
def pairsD (ks : List (List Nat)) (xs : List D) : List D := List.zipWith pairD ks xs
def ePairs (i : Nat) : M Hd := getOwnK i >>= fun p => guardM (decide (p.1.length < SLine ∧ p.1.Nodup)) (pure (.new (.lst (pairsD p.1 p.2))))
theorem kys_at {ks : List (List Nat)} {vs : List V} {i : Nat} {k : Key} {v : V} (h : (kys ks vs)[i]? = some (k, v)) : ∃ s, ks[i]? = some s ∧ k = Sum.inr ⟨s.toArray⟩ ∧ vs[i]? = some v := by
  unfold kys at h
  have h := List.getElem?_zip_eq_some.mp h
  rw [List.getElem?_map] at h
  cases e : ks[i]? with
  | none => rw [e] at h; exact nomatch h.1
  | some s =>
    rw [e] at h
    exact ⟨s, rfl, (Option.some.inj h.1).symm, h.2⟩
theorem kget_at {α : Type} : ∀ {ks : List (List Nat)} {vs : List α} {i : Nat} {s : List Nat} {v : α}, ks.Nodup → ks[i]? = some s → vs[i]? = some v → kget ks vs s = some v
  | [], vs, i, s, v, _, h, _ => by simp at h
  | k :: ks, [], i, s, v, _, _, h => by simp at h
  | k :: ks, u :: vs, 0, s, v, nd, h1, h2 => by
    have h1 : some k = some s := h1
    have h2 : some u = some v := h2
    cases h1; cases h2
    unfold kget; rw [if_pos rfl]
  | k :: ks, u :: vs, i + 1, s, v, nd, h1, h2 => by
    have h1 : ks[i]? = some s := h1
    have h2 : vs[i]? = some v := h2
    unfold kget
    rw [if_neg (fun e : k = s => (List.nodup_cons.mp nd).1 (by rw [e]; exact List.mem_of_getElem? h1))]
    exact kget_at (List.nodup_cons.mp nd).2 h1 h2
abbrev tPairEl (j i : Nat) : TE := tTup (tCons (tVar j) (tCons (tDGet (tVar i) (tVar j)) tNil))
def tPairs (j i : Nat) : TE := tLockE (tLc (iKeys (tVar i)) (gName j) tYes (tPairEl j i) [j])
theorem frz_read {H1 : Hp} {a : Addr} {o : Obj} {kvs : List (Key × V)} {k : Key} (h : H1 a = some (.frz o (.dK kvs))) : DGet H1 a (kV k) (valV kvs k) := .inl ⟨kvs, k, .inr ⟨o, h⟩, rfl, rfl⟩
theorem pairs_take {ks : List (List Nat)} {xs : List D} {i : Nat} {s : List Nat} {x : D} (h1 : ks[i]? = some s) (h2 : xs[i]? = some x) : (pairsD ks xs).take (i + 1) = (pairsD ks xs).take i ++ [pairD s x] := by
  rw [List.take_add_one]
  congr 1
  unfold pairsD
  rw [List.getElem?_zipWith, h1, h2]; rfl
theorem ifT_ {P Q : Prop} (h : P) : if true = true then P else Q := by rw [if_pos rfl]; exact h
theorem sem_pairs {i j : Nat} (hj : j < n) (hij : i ≠ j) : Sem cm K n W (HdOk cm K n) (tPairs j i) (ePairs i) := by
  intro ρ c σ H Q r q
  unfold ePairs at q
  rw [M.bind_run] at q
  rcases getOwnK_ok (i := i) r with e0 | ⟨p, d, vs, e0, hi, hs, ha, hc, hH, hl, dl⟩
  · rw [e0] at q; exact q.elim
  rw [e0] at q
  dsimp only at q
  by_cases hz : p.1.length < SLine ∧ p.1.Nodup
  case neg => simp only [guardM, decide_eq_false hz, Bool.false_eq_true, if_false] at q; exact q.elim
  simp only [guardM, decide_eq_true hz, if_true] at q
  have nk := kys_len hl
  have hl2 := dl.length
  refine ⟨d, _, hH, trivial, fun od => ?_⟩
  -- the locked heap
  generalize hL : upd H d (.frz od (.dK (kys p.1 vs))) = L
  have hLd : L d = some (.frz od (.dK (kys p.1 vs))) := by rw [← hL]; exact upd_same
  have hLo : ∀ a o, a ≠ d → H a = some o → L a = some o := fun a o ne h => by rw [← hL, upd_ne ne]; exact h
  have hLn : ∀ a, L a = none → H a = none := fun a h => by
    by_cases e : a = d
    · rw [e, hLd] at h; cases h
    · rw [← hL, upd_ne e] at h; exact h
  refine ⟨_, ha, d, od, rfl, .inl ⟨_, hLd, fun D hD => ?_⟩⟩
  have hDd : D ≠ d := fun e => by rw [e, hLd] at hD; cases hD
  have hjσ : j < σ.length := by rw [r.lenσ]; exact hj
  -- what holds at turn i
  refine ⟨fun t m H2 => m = (kys p.1 vs).length - t ∧ t ≤ (kys p.1 vs).length ∧ ∃ c2 us, H2 D = some (.lst us) ∧ c2 D = n + 1 ∧ (∀ a o, L a = some o → H2 a = some o ∧ c2 a = c a) ∧ DenL cm K (Gz c2 H2) ((pairsD p.1 p.2).take t) us, ⟨_, rfl, Nat.zero_le _, cset c D (n + 1), [], upd_same, cset_same, fun a o h => ?_, rfl⟩, ?_⟩
  · have ne : a ≠ D := fun e => by rw [e, hD] at h; cases h
    exact ⟨by rw [upd_ne ne]; exact h, cset_ne ne⟩
  · rintro t m H2 ⟨em, et, c2, us, h1, h2, h3, h4⟩
    have hd2 := (h3 d _ hLd).1
    by_cases ht : t < (kys p.1 vs).length
    · refine .inr ⟨⟨hd2, ht⟩, fun H3 => ∃ c3 us', H3 D = some (.lst us') ∧ c3 D = n + 1 ∧ (∀ a o, L a = some o → H3 a = some o ∧ c3 a = c a) ∧ DenL cm K (Gz c3 H3) ((pairsD p.1 p.2).take (t + 1)) us', fun H' ⟨c3, us', k1, k2, k3, k4⟩ => ⟨(kys p.1 vs).length - (t + 1), by omega, rfl, ht, c3, us', k1, k2, k3, k4⟩, ?_⟩
      rintro x H3 ⟨eH, k, v, hk, ex⟩
      subst eH ex
      obtain ⟨s, g1, g2, g3⟩ := kys_at hk
      subst g2
      refine ⟨by show ((σ.set j none).set j _).set j none = σ.set j none; rw [List.set_set, List.set_set], ?_⟩
      simp only [tYes, if_true]
      have lj : (wipe σ [j]).length = σ.length := wipe_length σ [j]
      have σj : ((wipe σ [j]).set j (some (kV (Sum.inr ⟨s.toArray⟩))))[j]? = some (some (V.str ⟨s.toArray⟩)) := List.getElem?_set_self (by rw [lj]; exact hjσ)
      have σi : ((wipe σ [j]).set j (some (kV (Sum.inr ⟨s.toArray⟩))))[i]? = some (some (V.ref d)) := by
        rw [List.getElem?_set_ne (fun e => hij e.symm)]
        have := wipe_out (σ := σ) (vs := [j]) (i := i) (by simpa using hij)
        rw [this]; exact ha
      have gv : valV (kys p.1 vs) (Sum.inr ⟨s.toArray⟩) = some v := by rw [kys_val]; exact kget_at hz.2 g1 g3
      refine ⟨_, σj, _, σi, _, σj, d, v, rfl, ?_, ?_⟩
      · rw [← gv]; exact frz_read (k := Sum.inr ⟨s.toArray⟩) hd2
      refine ⟨by show 2 ≤ sizeLine; decide, fun q hq => ?_⟩
      have hqD : q ≠ D := fun e => by rw [e, h1] at hq; cases hq
      have hqL : L q = none := by
        cases z : L q with
        | none => rfl
        | some o => rw [(h3 q o z).1] at hq; cases hq
      have ul := h4.length
      have tl : ((pairsD p.1 p.2).take t).length ≤ p.1.length := by rw [List.length_take]; unfold pairsD; rw [List.length_zipWith]; omega
      refine ⟨us, by rw [upd_ne (Ne.symm hqD)]; exact h1, Nat.lt_of_lt_of_le (Nat.lt_of_le_of_lt (by omega) hz.1) sline, ?_⟩
      -- the colours behind
      obtain ⟨x', hx', dx'⟩ := dl.get' g3
      refine ⟨cset c2 q 0, us ++ [.ref q], upd_same, ?_, fun a o h => ?_, ?_⟩
      · rw [cset_ne (fun e => hqD e.symm)]; exact h2
      · have n1 : a ≠ D := fun e => by rw [e, hD] at h; cases h
        have n2 : a ≠ q := fun e => by rw [e, hqL] at h; cases h
        exact ⟨by rw [upd_ne n1, upd_ne n2]; exact (h3 a o h).1, by rw [cset_ne n2]; exact (h3 a o h).2⟩
      · have gzz : ∀ a o, Gz c2 H3 a = some o → Gz (cset c2 q 0) (upd (upd H3 q (.tup [V.str ⟨s.toArray⟩, v])) D (.lst (us ++ [.ref q]))) a = some o := fun a o h => by
          obtain ⟨z1, z2⟩ := Gz.to h
          have n1 : a ≠ D := fun e => by rw [e, h2] at z1; omega
          have n2 : a ≠ q := fun e => by rw [e, hq] at z2; cases z2
          exact Gz.of (by rw [cset_ne n2]; exact z1) (by rw [upd_ne n1, upd_ne n2]; exact z2)
        rw [pairs_take g1 hx']
        have vd : Den cm K (Gz c2 H3) x' v := Den.mono (fun a o h => by
          obtain ⟨z1, z2⟩ := Gz.to h
          have nd : a ≠ d := fun e => by rw [e, hc] at z1; omega
          obtain ⟨w1, w2⟩ := h3 a o (hLo a o nd z2)
          exact Gz.of (by rw [w2]; exact z1) w1) _ _ dx'
        refine (DenL.mono gzz _ _ h4).append ⟨.ref q, [], rfl, ⟨q, [V.str ⟨s.toArray⟩, v], rfl, ?_, V.str ⟨s.toArray⟩, [v], rfl, rfl, v, [], rfl, Den.mono gzz _ _ vd, rfl⟩, rfl⟩
        exact Gz.of cset_same (by rw [upd_ne hqD]; exact upd_same)
    · have et2 : t = (kys p.1 vs).length := by omega
      subst et2
      refine .inl ⟨⟨hd2, Nat.le_refl _⟩, hd2, ?_⟩
      have all : (pairsD p.1 p.2).take (kys p.1 vs).length = pairsD p.1 p.2 := List.take_of_length_le (by unfold pairsD; rw [List.length_zipWith, nk]; omega)
      rw [all] at h4
      have back : ∀ a o, H a = some o → upd H2 d (.dK (kys p.1 vs)) a = some o ∧ c2 a = c a := fun a o h => by
        by_cases e : a = d
        · subst e
          rw [hH] at h; cases h
          exact ⟨upd_same, (h3 a _ hLd).2⟩
        · obtain ⟨w1, w2⟩ := h3 a o (hLo a o e h)
          exact ⟨by rw [upd_ne e]; exact w1, w2⟩
      have ex : Ext c c2 H (upd H2 d (.dK (kys p.1 vs))) := fun a o h => ⟨(back a o h).2, (back a o h).1⟩
      refine q c2 _ _ (Stp.stq ex.stp) (r.ext ex) ⟨D, rfl, hLn D hD, h2, us, by rw [upd_ne hDd]; exact h1, DenL.mono (gz_write (by have := (h3 d _ hLd).2; omega)) _ _ h4⟩
theorem room_1 {u : Nat} (h : u + 64 < cLine) : u + 1 < cLine := by omega
theorem ve_pairs (K : PySem.W.Frag) (i j : Nat) {x y : Str} {tpos p1 p2 p3 p4 p5 pos gpos : Pos} {kk : Nat} {scope : Scope} (hc : X.calm = true) (hN : X.N.Nodup) (hu : X.A.units + 64 < cLine) (hij : i ≠ j) (hj : j < X.N.length)
    (ok : blkC X.N X.env.scope scope [(y, j)] = true) (hNi : X.N[i]? = some x := by rfl)
    (hg : ∀ (s : Shared) (H : Hp) (C : Addr) (cl : List (Str × Addr)) (fp : List Addr), PG (X.blk s H scope (compEnvC scope cl C X.env) fp) (.Name y p1) (gName j))
    (he : ∀ (s : Shared) (H : Hp) (C : Addr) (cl : List (Str × Addr)) (fp : List Addr), PE (X.blk s H scope (compEnvC scope cl C X.env) fp) (.Tuple [.Name y p2, .Subscript (.Name x p3) (.Name y p4) p5] kk tpos) (tPairEl j i))
    (hv : Vis X.env.scope x := by first | exact Or.inl rfl | exact Or.inr (Or.inl rfl) | exact Or.inr (Or.inr rfl)) (hd : (x == ("__debug__" : Str)) = false := by decide) (hcd : (x == ("__classdict__" : Str)) = false := by decide)
    (hs : ∀ z, foldedSetIterable (.Name x gpos) X.env z = pure z := by intro _; rfl) :
    VE cm X W (.ListComp (.Tuple [.Name y p2, .Subscript (.Name x p3) (.Name y p4) p5] kk tpos) [⟨.Name y p1, .Name x gpos, [], 0⟩] scope pos) (tPairs j i) (ePairs i) :=
  ⟨pe_lock (pe_lc (own := [(y, j)]) (g := gName j) (tt := tYes) hc hN (pi_keys (pe_var hNi hv hd hcd)) (blkOk_by ok) hg (fun _ _ _ _ _ => pts_nil) he hs), sem_pairs hj hij⟩
end
end Vi

/-! ## ViSort -/
set_option Elab.async false
set_option linter.all false
set_option maxRecDepth 100000
set_option maxHeartbeats 1600000
/-! ### sorting of tuples whose firsts are unlike texts -/
namespace SrtK
open PySem PySem.Spec PyProof.Rows Srt SrtO
def IsKP (h : Heap) (v : Value) (x : Str) : Prop := ∃ a o t u n, v = .ref a ∧ h.get? a = some o ∧ o.cls = .type "tuple" ∧ o.data = .seq #[.str x t, u] n ∧ ((∃ y t', u = .str y t') ∨ ∃ y t', u = .int y t')
theorem IsKP.keeps {h h' : Heap} {v : Value} {x : Str} (p : IsKP h v x) (k : ∀ b o, h.get? b = some o → o.cls = .type "tuple" → h'.get? b = some o) : IsKP h' v x := by
  obtain ⟨a, o, t, u, n, e, ho, hc, hd, hu⟩ := p
  exact ⟨a, o, t, u, n, e, k _ _ ho hc, hc, hd, hu⟩
abbrev ltS (k : Value → Str) (v u : Value) : Bool := decide ((k v).cps.toList < (k u).cps.toList)
theorem swo_s {α : Type} (k : α → List Nat) : Swo fun v u => decide (k v < k u) := by
  refine ⟨fun x y h => ?_, fun x y z h1 h2 => ?_⟩
  · have h := of_decide_eq_true h
    exact decide_eq_false fun q => List.lt_irrefl _ (List.lt_trans h q)
  · have h1 := of_decide_eq_false h1
    have h2 := of_decide_eq_false h2
    exact decide_eq_false (List.le_trans (α := Nat) h1 h2)
section
variable {prog : Program} {w : World} {A : Around} {E : Value → Shared → Prop} {s : Shared}
theorem kp_cmp {vs : List Value} {k : Value → Str} (hp : ∀ v ∈ vs, IsKP s.heap v (k v)) (inj : ∀ v ∈ vs, ∀ u ∈ vs, k v = k u → v = u) : Cmp prog w A s (tuples' true) (fun p => p.1 ∈ vs) (lt2 (ltS k)) := by
  intro p q hm hm'
  have h1 := hp _ hm
  have h2 := hp _ hm'
  have hj := inj _ hm _ hm'
  show wpAny (model prog w) A (keyLt' (tuples' true) p.1 q.1) (fun r s' => s' = s ∧ r = decide ((k p.1).cps.toList < (k q.1).cps.toList)) (fun _ _ => False) s
  generalize k p.1 = x at h1 hj ⊢
  generalize k q.1 = x' at h2 hj ⊢
  obtain ⟨a, o, t, u, n, e, ho, hc, hd, hu⟩ := h1
  obtain ⟨a', o', t', u', n', e', ho', hc', hd', hu'⟩ := h2
  rw [e, e'] at hj ⊢
  refine PySem.W.kat_lt ho hd ho' hd' ?_
  show PySem.W.KatLex prog w A true (decide (2 < 2)) _ [(.str x t, .str x' t'), (u, u')] 0 s
  refine PySem.W.kat_cons (SeqAt.EqAt.str_str x t x' t' prog w _ _ ?_)
  refine PySem.W.kat_go (fun e1 => ?_) (fun e1 => ?_)
  · have ex : x = x' := by simpa using e1
    have ea := hj ex
    cases ea
    rw [ho] at ho'
    cases ho'
    rw [hd] at hd'
    injection hd' with hd' _
    injection hd' with hd'
    injection hd' with _ hd'
    injection hd' with hd' _
    subst hd'
    have e3 : decide (x.cps.toList < x'.cps.toList) = false := by
      rw [ex]; exact decide_eq_false (List.lt_irrefl _)
    rcases hu with ⟨y, t2, eu⟩ | ⟨y, t2, eu⟩
    · subst eu
      refine PySem.W.kat_yes (PySem.W.kat_cons (SeqAt.EqAt.str_str y t2 y t2 prog w _ _ ?_))
      refine PySem.W.kat_go (fun e2 => ?_) (fun e2 => ?_)
      · exact PySem.W.kat_yes (PySem.W.kat_nil ⟨rfl, e3.symm⟩)
      · simp at e2
    · subst eu
      refine PySem.W.kat_yes (PySem.W.kat_cons (SeqAt.EqAt.int_int y t2 y t2 prog w _ _ ?_))
      refine PySem.W.kat_go (fun e2 => ?_) (fun e2 => ?_)
      · exact PySem.W.kat_yes (PySem.W.kat_nil ⟨rfl, e3.symm⟩)
      · simp at e2
  · exact PySem.W.kat_no (oneLt_str ⟨rfl, rfl⟩)
theorem firsts_k {h : Heap} {k : Value → Str} : ∀ {vs : List Value}, (∀ v ∈ vs, IsKP h v (k v)) → ∃ fs : List Value, PySem.W.KatTups h vs fs ∧ fs.length = vs.length ∧ ∀ f ∈ fs, ∃ x t, f = Value.str x t
  | [], _ => ⟨[], PySem.W.KatTups.nil, rfl, fun _ hm => by simp at hm⟩
  | v :: vs, hp => by
    obtain ⟨fs, h1, h2, h3⟩ := firsts_k (vs := vs) fun v' hm => hp v' (List.mem_cons_of_mem _ hm)
    obtain ⟨a, o, t, u, n, e, ho, hc, hd, hu⟩ := hp v (List.mem_cons_self ..)
    generalize k v = x at hd
    subst e
    refine ⟨.str x t :: fs, PySem.W.KatTups.cons ho hc hd rfl h1, by rw [List.length_cons, List.length_cons, h2], fun f hm => ?_⟩
    rcases List.mem_cons.mp hm with rfl | hm
    · exact ⟨x, t, rfl⟩
    · exact h3 f hm
theorem kp_sortable {a : Addr} {vs : List Value} {k : Value → Str} (h0 : 0 < vs.length) (hp : ∀ v ∈ vs, IsKP s.heap v (k v)) (inj : ∀ v ∈ vs, ∀ u ∈ vs, k v = k u → v = u) (ha : ∀ o, s.heap.get? a = some o → o.cls ≠ .type "tuple") : SortableO prog w A s a vs (ltS k) := by
  intro h' keep
  have hp' : ∀ v ∈ vs, IsKP h' v (k v) := fun v hm => (hp v hm).keeps fun b o e c => keep b o (fun z => by subst z; exact ha o e c) e
  obtain ⟨fs, h1, h2, h3⟩ := firsts_k hp'
  refine ⟨tuples' true, fun Q E hq => ?_, kp_cmp hp' inj⟩
  refine PySem.W.kat_kind (T := .type "str") h1 (by omega) (fun f hm => ?_) (by rfl) ?_
  · obtain ⟨x, t, rfl⟩ := h3 f hm
    exact PySem.W.Looks.now
  · have e : (Value.type "str" != Value.type "tuple") = true := by first | decide +kernel | rfl | decide
    rw [e]
    exact hq
theorem sorted_kp {l : Addr} {vs : List Value} {k : Value → Str} {Q : Value → Shared → Prop} (hl : s.heap.IsList l vs.toArray) (hz : vs.length ≤ sizeLine) (hp : ∀ v ∈ vs, IsKP s.heap v (k v)) (inj : ∀ v ∈ vs, ∀ u ∈ vs, k v = k u → v = u)
    (h : ∀ (h' : Heap) (d : Addr) (out : List Value), Srtd (ltS k) out → Stb (ltS k) out vs → (∀ b o, s.heap.get? b = some o → h'.get? b = some o) → s.heap.objs.size ≤ d → (∃ n, h'.get? d = some (seqObj "list" out.toArray n)) → Q (.ref d) { s with heap := h' }) :
    wpAny (model prog w) A (call (.builtin "sorted") [.ref l]) Q E s := by
  refine sorted_ord (swo_s fun v => (k v).cps.toList) hl hz (fun h2 h₁ a ha kk => ?_) fun out hs hb => ?_
  · refine kp_sortable (s := { s with heap := h₁ }) (by omega) (fun v hm => (hp v hm).keeps fun b o e _ => (kk b o e).2) inj fun o e => ?_
    have e' : some o = some (seqObj "list" vs.toArray 0) := e.symm.trans ha
    cases e'
    intro c
    exact absurd (Value.type.inj c) (by decide)
  · exact h _ _ out hs hb (fun b o e => sortedAll_old e) (Nat.le_succ _) (sortedAll_at s.heap vs out.toArray)
end
end SrtK
namespace Vi
open PySem L2
/-- sorted(xs), xs tuples (text, text or int), k their firsts, all unlike -/
def rSortedKP (K : PySem.W.Frag) : List V → Hp → VK → Prop := fun vs H Q => ∃ (a : Addr) (xs : List V) (k : V → Str), vs = [V.ref a] ∧ SqL K H a xs ∧ (∀ x ∈ xs, ∃ t u, x = V.ref t ∧ H t = some (.tup [.str (k x), u]) ∧ ((∃ y, u = .str y) ∨ ∃ y, u = .int y)) ∧
  (∀ x ∈ xs, ∀ y ∈ xs, k x = k y → x = y) ∧ ∀ ys p, ys.Pairwise (fun x y => ¬ (k y).cps.toList < (k x).cps.toList) → ys.Perm xs → H p = none → Q (.ref p) (upd H p (.lst ys))
section
variable {X : Cx}
open PySem.Spec PyProof.Rows in
theorem cr_sortedKP : CallR X (.builtin "sorted") (rSortedKP X.K) := by
  intro pins s σ H vs us Q I r h
  obtain ⟨a, xs, k, rfl, hs, hx, inj, q⟩ := h
  obtain ⟨its, rv, hl, hz⟩ := I.list hs
  obtain ⟨u, rfl, ru⟩ := vals1 r
  obtain rfl : u = Value.ref a := ru
  obtain ⟨e1, e2⟩ := refs_back rv fun x m => by
    obtain ⟨t, u, e, _⟩ := hx x m
    exact ⟨t, e⟩
  refine SrtK.sorted_kp (k := fun u => k (backV u)) hl.isList (by rw [← rv.length]; exact hz) (fun v hv => ?_) (fun v hv u hu e => ?_) fun h' d out h1 h2 kp hd hn => ?_
  · obtain ⟨t, rfl⟩ := e2 v hv
    have hm : V.ref t ∈ xs := by rw [e1]; exact List.mem_map.mpr ⟨_, hv, rfl⟩
    obtain ⟨t', w, e, ht, hw⟩ := hx _ hm
    cases e
    obtain ⟨_, its2, r2, o, ho, hc, n, hd⟩ := I.hok _ _ ht
    obtain ⟨u1, u2, rfl, ri, rj⟩ := vals2 r2
    obtain ⟨t1, rfl⟩ := ri
    refine ⟨t, o, t1, u2, n, rfl, ho, hc, hd, ?_⟩
    rcases hw with ⟨y, rfl⟩ | ⟨y, rfl⟩
    · obtain ⟨t2, rfl⟩ := rj; exact .inl ⟨_, _, rfl⟩
    · obtain ⟨t2, rfl⟩ := rj; exact .inr ⟨_, _, rfl⟩
  · obtain ⟨t, rfl⟩ := e2 v hv
    obtain ⟨t', rfl⟩ := e2 u hu
    have h3 := inj (V.ref t) (by rw [e1]; exact List.mem_map.mpr ⟨_, hv, rfl⟩) (V.ref t') (by rw [e1]; exact List.mem_map.mpr ⟨_, hu, rfl⟩) e
    cases h3
    rfl
  · have h3 : ∀ u ∈ out, ∃ a, u = Value.ref a := fun u hu => e2 u (h2.perm.mem_iff.mp hu)
    obtain ⟨n, hn⟩ := hn
    have hb : (out.map backV).Perm xs := by
      rw [e1]
      exact h2.perm.map backV
    refine ⟨.ref d, upd H d (.lst (out.map backV)), I.laid (t' := s.toks) kp hd ⟨?_, out, n, vals_back h3, hn⟩, rfl, q _ d ?_ hb (I.hok.fresh hd)⟩
    · rw [hb.length_eq]; exact hz
    · exact List.pairwise_map.mpr (h1.imp fun h => of_decide_eq_false h)
end
/-! tuples by their firsts -/
def fstD : D → Option (List Nat)
  | .tup [.str k, .str _] => some k
  | .tup [.str k, .int _] => some k
  | _ => none
def keyD (d : D) : List Nat := (fstD d).getD []
def leK (a b : D) : Bool := leT (keyD a) (keyD b)
def sortedD : D → Option Hd
  | .lst ds => match strs? ds with
    | some xs => if xs.length < 64 then some (.new (.lst ((isortL leT xs).map .str))) else none
    | none => if (ds.all fun d => (fstD d).isSome) = true ∧ (ds.map keyD).Nodup then some (.new (.lst (isortL leK ds))) else none
  | .dic ks _ => if ks.length < 64 then some (.new (.lst ((isortL leT ks).map .str))) else none
  | _ => none
section
variable {cm : Nat → Addr} {X : Cx} {W : WX} {K : PySem.W.Frag} {n : Nat} {c : Col} {H G : Hp}
theorem denl_perm {vs ys : List V} (p : ys.Perm vs) : ∀ {ds : List D}, DenL cm K G ds vs → ∃ es : List D, es.Perm ds ∧ DenL cm K G es ys := by
  induction p with
  | nil => intro ds h; exact ⟨ds, List.Perm.refl _, h⟩
  | @cons x l₁ l₂ q ih =>
    intro ds h
    cases ds with
    | nil => cases (show x :: l₂ = [] from h)
    | cons d ds =>
      obtain ⟨v, r, e, h1, h2⟩ := h
      cases e
      obtain ⟨es, p1, p2⟩ := ih h2
      exact ⟨d :: es, p1.cons d, _, _, rfl, h1, p2⟩
  | swap x y l =>
    intro ds h
    cases ds with
    | nil => cases (show x :: y :: l = [] from h)
    | cons d ds =>
      obtain ⟨v, r, e, h1, h2⟩ := h
      cases e
      cases ds with
      | nil => cases (show y :: l = [] from h2)
      | cons d' ds =>
        obtain ⟨v, r, e, h3, h4⟩ := h2
        cases e
        exact ⟨d' :: d :: ds, List.Perm.swap d d' ds, _, _, rfl, h3, _, _, rfl, h1, h4⟩
  | trans p1 p2 ih1 ih2 =>
    intro ds h
    obtain ⟨es, q1, q2⟩ := ih2 h
    obtain ⟨fs, q3, q4⟩ := ih1 q2
    exact ⟨fs, q3.trans q1, q4⟩
/-- the one sorted list -/
theorem sorted_one {l m : List D} (inj : ∀ x ∈ m, ∀ y ∈ m, keyD x = keyD y → x = y) (p : l.Perm m) (h1 : l.Pairwise fun x y => LeS (keyD x) (keyD y)) (h2 : m.Pairwise fun x y => LeS (keyD x) (keyD y)) : l = m :=
  List.Perm.eq_of_pairwise (le := fun x y => LeS (keyD x) (keyD y)) (fun a b ha hb q1 q2 => inj a (p.mem_iff.mp ha) b hb (leS_anti q1 q2)) h1 h2 p
theorem inj_of_nodup {α β : Type} {f : α → β} : ∀ {l : List α}, (l.map f).Nodup → ∀ x ∈ l, ∀ y ∈ l, f x = f y → x = y
  | [], _, x, hx, _, _, _ => (nomatch hx)
  | a :: l, h, x, hx, y, hy, e => by
    have h := List.nodup_cons.mp h
    rcases List.mem_cons.mp hx with q | q
    · rcases List.mem_cons.mp hy with q2 | q2
      · rw [q, q2]
      · exact absurd (List.mem_map.mpr ⟨y, q2, by rw [← e, q]⟩) h.1
    · rcases List.mem_cons.mp hy with q2 | q2
      · exact absurd (List.mem_map.mpr ⟨x, q, by rw [e, q2]⟩) h.1
      · exact inj_of_nodup h.2 x q y q2 e
/-- a value's first -/
noncomputable def keyOf (H : Hp) (v : V) : Str := match v with
  | .ref t => match H t with
    | some (.tup (.str z :: _)) => z
    | _ => ⟨#[]⟩
  | _ => ⟨#[]⟩
theorem keyOf_ref {t : Addr} {z : Str} {r : List V} (h : H t = some (.tup (.str z :: r))) : keyOf H (.ref t) = z := by
  show (match H t with
    | some (.tup (.str z :: _)) => z
    | _ => ⟨#[]⟩) = z
  rw [h]
theorem fst_den {d : D} {v : V} (hs : (fstD d).isSome = true) (hd : Den cm K (Gz c H) d v) : ∃ t u, v = .ref t ∧ H t = some (.tup [.str ⟨(keyD d).toArray⟩, u]) ∧ ((∃ y, u = .str y) ∨ ∃ y, u = .int y) := by
  unfold fstD at hs
  split at hs
  · obtain ⟨a, vs, e, h1, v1, r1, e1, k1, v2, r2, e2, k2, k3⟩ := hd
    cases (show r2 = [] from k3)
    subst e2 e1 e
    cases (show v1 = _ from k1)
    exact ⟨a, v2, rfl, (Gz.to h1).2, .inl ⟨_, k2⟩⟩
  · obtain ⟨a, vs, e, h1, v1, r1, e1, k1, v2, r2, e2, k2, k3⟩ := hd
    cases (show r2 = [] from k3)
    subst e2 e1 e
    cases (show v1 = _ from k1)
    exact ⟨a, v2, rfl, (Gz.to h1).2, .inr ⟨_, k2⟩⟩
  · cases hs
theorem keyOf_den {d : D} {v : V} (hs : (fstD d).isSome = true) (hd : Den cm K (Gz c H) d v) : (keyOf H v).cps.toList = keyD d := by
  obtain ⟨t, u, e, h, _⟩ := fst_den hs hd
  subst e
  rw [keyOf_ref h]
theorem denl_mem {ds : List D} {vs : List V} (h : DenL cm K G ds vs) {v : V} (hv : v ∈ vs) : ∃ d ∈ ds, Den cm K G d v := by
  obtain ⟨i, hi⟩ := List.mem_iff_getElem?.mp hv
  obtain ⟨d, h1, h2⟩ := h.get' hi
  exact ⟨d, List.mem_of_getElem? h1, h2⟩
theorem pw_den : ∀ {es : List D} {ys : List V}, (∀ d ∈ es, (fstD d).isSome = true) → DenL cm K (Gz c H) es ys → ys.Pairwise (fun x y => ¬ (keyOf H y).cps.toList < (keyOf H x).cps.toList) → es.Pairwise fun x y => LeS (keyD x) (keyD y)
  | [], ys, _, _, _ => List.Pairwise.nil
  | d :: es, ys, hs, ⟨v, r, e, h1, h2⟩, hp => by
    subst e
    have hp1 := List.pairwise_cons.mp hp
    refine List.pairwise_cons.mpr ⟨fun x hx => ?_, pw_den (fun y hy => hs y (List.mem_cons_of_mem _ hy)) h2 hp1.2⟩
    obtain ⟨i, hi⟩ := List.mem_iff_getElem?.mp hx
    obtain ⟨u, g1, g2⟩ := h2.get hi
    have := hp1.1 u (List.mem_of_getElem? g1)
    rw [keyOf_den (hs d List.mem_cons_self) h1, keyOf_den (hs x (List.mem_cons_of_mem _ hx)) g2] at this
    exact this
def rSortedA (K : PySem.W.Frag) : List V → Hp → VK → Prop := fun vs H Q => rSortedS K vs H Q ∨ rSortedKP K vs H Q ∨ ∃ (a : Addr) (kvs : List (Key × V)) (ks : List Str), vs = [.ref a] ∧ Rd H a (.dK kvs) ∧ kvs.map (·.1) = ks.map Sum.inr ∧ ks.length < 64 ∧
    ∀ ys p, ys.Perm ks → PyProof.Rows.sortedS ys = true → H p = none → Q (.ref p) (upd H p (.lst (ys.map V.str)))
theorem sortedS_one {xs : List (List Nat)} {ys : List Str} (p : ys.Perm (xs.map toS)) (h : PyProof.Rows.sortedS ys = true) : ys = (isortL leT xs).map toS := by
  have e : ys = (ys.map fun s => s.cps.toList).map toS := by
    rw [List.map_map]
    have : (toS ∘ fun s : Str => s.cps.toList) = id := funext fun s => toS_in s
    rw [this, List.map_id]
  have p2 : (ys.map fun s => s.cps.toList).Perm xs := by
    have := p.map fun s : Str => s.cps.toList
    rw [List.map_map] at this
    have e2 : ((fun s : Str => s.cps.toList) ∘ toS) = id := funext fun s => in_toS s
    rw [e2, List.map_id] at this
    exact this
  have h3 : (ys.map fun s => s.cps.toList).Pairwise LeS := List.pairwise_map.mpr (sorted_pw ys h)
  have h4 : (isortL leT xs).Pairwise LeS := (isortL_pw leT_tot leT_tr xs).imp fun q => leT_iff.mp q
  have h5 := List.Perm.eq_of_pairwise (le := LeS) (fun a b _ _ q1 q2 => leS_anti q1 q2) h3 h4 (p2.trans (isortL_perm leT xs).symm)
  rw [e, h5]
theorem s_sorted : CallS cm K n (rSortedA K) (f1 sortedD) := calls1 fun c H d v hh Q hd hg k => by
  unfold sortedD at hg
  split at hg
  · rename_i ds
    obtain ⟨a, vs, e, h1, h2⟩ := hd
    subst e
    split at hg
    · rename_i xs e1
      by_cases hz : xs.length < 64
      case neg => rw [if_neg hz] at hg; cases hg
      rw [if_pos hz] at hg
      cases hg
      have ev := strs_v h2 e1
      subst ev
      refine .inl ⟨a, xs.map toS, rfl, SqL.of h1, by rw [List.length_map]; exact hz, fun ys p hp hs hn => ?_⟩
      have q := sortedS_one hp hs
      subst q
      exact k _ _ _ (Ext.alloc hn) (hdv_new_lst hn (denl_strs _))
    · by_cases hz : (ds.all fun d => (fstD d).isSome) = true ∧ (ds.map keyD).Nodup
      case neg => rw [if_neg hz] at hg; cases hg
      rw [if_pos hz] at hg
      cases hg
      have all : ∀ d ∈ ds, (fstD d).isSome = true := List.all_eq_true.mp hz.1
      have inj := inj_of_nodup hz.2
      refine .inr (.inl ⟨a, vs, keyOf H, rfl, SqL.of h1, fun x hx => ?_, fun x hx y hy e => ?_, fun ys p hs hp hn => ?_⟩)
      · obtain ⟨d, m, dd⟩ := denl_mem h2 hx
        obtain ⟨t, u, e, g, gu⟩ := fst_den (all d m) dd
        refine ⟨t, u, e, ?_, gu⟩
        rw [e, keyOf_ref g]; exact g
      · obtain ⟨i, hi⟩ := List.mem_iff_getElem?.mp hx
        obtain ⟨j, hj⟩ := List.mem_iff_getElem?.mp hy
        obtain ⟨d, d1, d2⟩ := h2.get' hi
        obtain ⟨d', d3, d4⟩ := h2.get' hj
        have ek : keyD d = keyD d' := by
          rw [← keyOf_den (all d (List.mem_of_getElem? d1)) d2, ← keyOf_den (all d' (List.mem_of_getElem? d3)) d4, e]
        have eij : i = j := by
          have q1 : (ds.map keyD)[i]? = some (keyD d) := by rw [List.getElem?_map, d1]; rfl
          have q2 : (ds.map keyD)[j]? = some (keyD d) := by rw [List.getElem?_map, d3, ek]; rfl
          have l1 := (List.getElem?_eq_some_iff.mp q1).1
          exact (List.getElem?_inj l1 hz.2).mp (q1.trans q2.symm)
        subst eij
        rw [hi] at hj
        exact Option.some.inj hj
      · obtain ⟨es, p1, p2⟩ := denl_perm hp h2
        have h3 := pw_den (fun d hd => all d (p1.mem_iff.mp hd)) p2 hs
        have h4 : (isortL leK ds).Pairwise fun x y => LeS (keyD x) (keyD y) := (isortL_pw (le := leK) (fun a b => leT_tot _ _) (fun a b c => leT_tr _ _ _) ds).imp fun q => leT_iff.mp q
        have pm := isortL_perm leK ds
        have e5 := sorted_one (fun x hx y hy => inj x (pm.mem_iff.mp hx) y (pm.mem_iff.mp hy)) (p1.trans pm.symm) h3 h4
        rw [e5] at p2
        exact k _ _ _ (Ext.alloc hn) (hdv_new_lst hn p2)
  · rename_i ks xs
    by_cases hz : ks.length < 64
    case neg => rw [if_neg hz] at hg; cases hg
    rw [if_pos hz] at hg
    cases hg
    obtain ⟨a, vs, e, h1, h2, h3⟩ := hd
    subst e
    have ek : (kys ks vs).map (·.1) = (ks.map toS).map Sum.inr := by
      unfold kys
      rw [List.map_fst_zip (by rw [List.length_map]; omega), List.map_map]; rfl
    refine .inr (.inr ⟨a, _, ks.map toS, rfl, .inl h1, ek, by rw [List.length_map]; exact hz, fun ys p hp hs hn => ?_⟩)
    have q := sortedS_one hp hs
    subst q
    exact k _ _ _ (Ext.alloc hn) (hdv_new_lst hn (denl_strs _))
  · cases hg
theorem CallR.or' {f : Value} {r r' : List V → Hp → VK → Prop} (h : CallR X f r) (h' : CallR X f r') : CallR X f (fun x H Q => r x H Q ∨ r' x H Q) := by
  intro pins s σ H xs us Q I rr q
  rcases q with q | q
  · exact h pins s σ H xs us Q I rr q
  · exact h' pins s σ H xs us Q I rr q
theorem cr_sortedA (hc : X.calm = true) : CallR X (.builtin "sorted") (rSortedA X.K) := CallR.or' cr_sortedS (CallR.or' cr_sortedKP (call_sortedD hc))
end
end Vi

/-! ## ViTxt -/
set_option Elab.async false
set_option linter.all false
set_option maxRecDepth 100000
set_option maxHeartbeats 400000
namespace Vi
open PySem L2
/-! ### sep.join(texts) -/
def joinD (sep : List Nat) : D → Option Hd
  | .lst ds => (strs? ds).bind fun xs => if (xs.map (·.length)).sum + xs.length * sep.length ≤ SLine then some (.val (.str (TL.joinL sep xs))) else none
  | _ => none
def eJoin (fo fl : M Hd) : M Hd := fo >>= fun ho => rd ho >>= fun d => M.lift (str? d) >>= fun sep => fl >>= fun hl => rd hl >>= fun dl => M.lift (joinD sep dl)
section
variable {cm : Nat → Addr} {X : Cx} {W : WX} {K : PySem.W.Frag} {n : Nat} {c : Col} {H : Hp}
def rJoin (K : PySem.W.Frag) : V → List V → Hp → VK → Prop := fun x xs H Q => ∃ a p, ∃ ys : List Str, x = .str a ∧ xs = [.ref p] ∧ (SqL K H p (ys.map V.str) ∨ SqT K H p (ys.map V.str)) ∧
      (ys.map (·.length)).sum + ys.length * a.length ≤ 16777216 ∧ Q (.str (Txt.join a ys)) H
theorem join_v (sep : List Nat) (xs : List (List Nat)) : Txt.join (toS sep) (xs.map toS) = toS (TL.joinL sep xs) := by
  refine TL.ext_tl ?_
  rw [TL.join_eq, TL.tl_join, List.map_map]
  have : (TL.tl ∘ toS) = id := funext fun s => in_toS s
  rw [this, List.map_id]; rfl
theorem sem_join {to te : TE} {fo fl : M Hd} (h1 : Sem cm K n W (HdOk cm K n) to fo) (h2 : Sem cm K n W (HdOk cm K n) te fl) : Sem cm K n W (HdOk cm K n) (tM1 (rJoin K) to te) (eJoin fo fl) := by
  refine Sem.bind (u := fun x σ H1 Q => (∃ a, x = .str a) ∧ te σ H1 fun y H2 => rJoin K x [y] H2 Q) h1 ?_
  intro ρ₀ c₀ H₀ a x ρ c σ H Q s0 r0 hx q
  dsimp only at q
  obtain ⟨d, e1, q⟩ := rd_bind (P := QR cm K n W (HdOk cm K n) Q ρ₀ c₀ H₀ σ) QR.nobad q
  have p1 := (rd_ok r0 hx e1).2
  rw [M.bind_run, lift_run] at q
  cases d with
  | str sep =>
    have ex := den_str p1
    subst ex
    refine ⟨⟨_, rfl⟩, ?_⟩
    have q : QR cm K n W (HdOk cm K n) Q ρ₀ c₀ H₀ σ ((fl >>= fun hl => rd hl >>= fun dl => M.lift (joinD sep dl)) ρ) := q
    refine h2 ρ c σ H _ r0 ?_
    rw [M.bind_run] at q
    cases e2 : fl ρ with
    | bad => rw [e2] at q; exact q.elim
    | exc j ρ' => rw [e2] at q; exact fun c' H' s' r' => q c' H' (s0.trans s') r'
    | ok hl ρ1 =>
      rw [e2] at q
      intro c1 H1 y s1 r1 hy
      dsimp only at q
      obtain ⟨dl, e3, q⟩ := rd_bind (P := QR cm K n W (HdOk cm K n) Q ρ₀ c₀ H₀ σ) QR.nobad q
      have p2 := (rd_ok r1 hy e3).2
      rw [lift_run] at q
      cases dl with
      | lst ds =>
        cases es : strs? ds with
        | none => simp only [joinD, es, Option.bind_none] at q; exact q.elim
        | some xs =>
          simp only [joinD, es, Option.bind_some] at q
          by_cases hz : (xs.map (·.length)).sum + xs.length * sep.length ≤ SLine
          case neg => rw [if_neg hz] at q; exact q.elim
          rw [if_pos hz] at q
          obtain ⟨b, vs, ev, g1, g2⟩ := p2
          have e4 := strs_v g2 es
          subst e4
          refine ⟨toS sep, b, xs.map toS, rfl, by rw [ev], .inl (SqL.of g1), ?_, ?_⟩
          · rw [List.map_map, List.length_map]
            have : ((fun x : Str => x.length) ∘ toS) = fun s : List Nat => s.length := funext fun s => str_len s
            rw [this]
            have l2 : (toS sep).length = sep.length := str_len sep
            rw [l2]
            have : SLine = 1000000 := by unfold SLine; rfl
            omega
          · rw [join_v]
            exact q c1 H1 _ (s0.trans s1) r1 rfl
      | _ => exact q.elim
  | _ => exact q.elim
theorem ve_join {o e : Expr} {to te : TE} {fo fl : M Hd} {apos pos : Pos} (K : PySem.W.Frag) (ho : VE cm X W o to fo) (he : VE cm X W e te fl) (hK : X.K = K := by rfl) (hs : starEach [e] X.env = [(false, eval e X.env)] := by rfl) (hbase : attributeBase o "join" X.env (eval o X.env) = eval o X.env := by rfl) (hline : (apos.endLine == pos.line) = true := by rfl) :
    VE cm X W (.Call (.Attribute o "join" apos) [e] [] pos) (tM1 (rJoin K) to te) (eJoin fo fl) := by
  subst hK
  exact ⟨pe_join ho.pe he.pe hs hbase hline, sem_join ho.sem he.sem⟩
end
end Vi

/-! ## ViSetT -/
set_option Elab.async false
set_option linter.all false
set_option maxRecDepth 100000
set_option maxHeartbeats 3200000
namespace Vi
open PySem L2 PySem.Spec PyProof.Rows
section
variable {P : Program} {w : World} {A : Around} {E : Value → Shared → Prop} {s : Shared}
theorem call_setT {x : Str} {t : Tok} (ks : List Key) {Q : Value → Shared → Prop} (hh : A.handled = none) (ha : x.cps.all (· < 128) = true) (hlen : x.cps.size = ks.length) (hit : ∀ (i : Nat) (v : Value), SignAt x i v → ∃ k, ks[i]? = some k ∧ keyIs k v = true) (hb : ks.length + 1 < scanBound)
    (h : ∀ (h' : Heap) (tk : Nat), SetG w h' s.heap.objs.size ks → (∀ b o, s.heap.get? b = some o → h'.get? b = some o) → Q (.ref s.heap.objs.size) { s with heap := h', toks := tk }) :
    wpAny (model P w) A (call (.type "set") [.str x t]) Q E s := by
  obtain ⟨c, tl, hmro⟩ := PySem.F.called_set.mro
  have hmade := PySem.F.called_set.made
  have hsub := PySem.F.called_set.sub
  refine wpAny_call (codeAny_of_tree ?_)
  show wpAny _ _ (callAny (.type "set") _) _ _ _
  refine wpAny_pure ⟨Code.quiet_builtin _ (by decide +kernel), codeAny_builtin PySem.F.entry_type_call ?_⟩
  rw [Around.under_plain (weight_type_call_type "set" [.str x t] []) rfl]
  have k1 := PySem.F.called_set.notType
  have k2 := PySem.F.called_set.canCreate
  have k3 := PySem.F.typeCall_set_1 (.str x t)
  repeat (any_goals (first | assumption | wp_step))
  refine codeAny_mono (code_set_led1 (.str x t) (E := E) (Q₁ := fun x s₁ => x = .ref s.heap.objs.size ∧ s₁ = { s with heap := s.heap.push (newSet w) }) ⟨rfl, rfl⟩) fun r s₁ hr => ?_
  match r, hr with
  | .error e, hr => exact hr
  | .ok (.ret x), hr =>
    obtain ⟨ex, es⟩ := hr
    subst ex es
    have at_S : (s.heap.push (newSet w)).get? s.heap.objs.size = some (newSet w) := Heap.get?_push_size _ rfl
    have ty_S : Shared.TypeIs { s with heap := s.heap.push (newSet w) } (.ref s.heap.objs.size) "set" := ⟨_, at_S, rfl⟩
    have i1 := PySem.F.called_set.init.lookup
    have i2 := PySem.F.called_set.init.bind (.ref s.heap.objs.size)
    repeat (any_goals (first | assumption | wp_step))
    refine codeAny_mono (codeAny_call_builtin (R := wants (fun r s₂ => r = .none ∧ ∃ h' tk, s₂ = { s with heap := h', toks := tk } ∧ SetG w h' s.heap.objs.size ks ∧ (∀ b o, s.heap.get? b = some o → h'.get? b = some o)) E) PySem.F.called_set.init.plain PySem.F.entry_set_init (check_set_init_1 ty_S ?_)) fun r₂ s₂ hr₂ => ?_
    · have n1 := PySem.F.sub_str_set
      have n2 := PySem.F.sub_str_frozenset
      have n3 : (Value.type "str" == Value.type "dict") = false := by decide
      unfold Builtin.«set.__init__» noKeywords Builtin.Frozenset.updateFrom
      generalize hPI : pyIter = PI
      wp_walk
      subst hPI
      refine wpAny_pyIter_ascii ha (wpAny_bind (wpAny_runValue ?_))
      have none3 : A.in1.in1.in1.handled = none := by simp [hh]
      have z1 : (s.heap.push (newSet w)).objs.size = s.heap.objs.size + 1 := Heap.size_push ..
      have outside : s.heap.objs.size ∉ [(s.heap.push (newSet w)).objs.size] := by
        rw [z1]
        intro z
        exact absurd (List.mem_singleton.mp z) (Nat.ne_of_lt (Nat.lt_succ_self _))
      refine set_upd ((Walks.strAscii none3 _ x t).toS) s.heap.objs.size outside ks hlen hb hit (x.cps.size - 0) 0 _ rfl (Nat.zero_le _) ⟨_, Heap.get?_push_size _ rfl, rfl, rfl⟩ ?_ ?_
      · exact setG_new (Heap.get?_push_of_some _ at_S)
      · intro s' mv hS
        obtain ⟨h', g2, d2, tk2, os2⟩ := s'
        have e1 : g2 = s.gens := mv.gens
        have e2 : d2 = s.drawn := mv.drawn
        have e3 : os2 = s.os := mv.os
        subst e1 e2 e3
        refine wpAny_pure ?_
        show wpAny _ _ (ret Value.none) _ _ _
        refine wpAny_pure ⟨rfl, h', tk2, rfl, hS, fun b o e => ?_⟩
        have b_lt : b < s.heap.objs.size := Heap.lt_size e
        refine mv.heap b o (fun z => ?_) (Heap.get?_push_of_some _ (Heap.get?_push_of_some _ e))
        rcases List.mem_cons.mp z with z | z
        · exact absurd z (Nat.ne_of_lt b_lt)
        · have z := List.mem_singleton.mp z
          rw [z1] at z
          exact absurd z (Nat.ne_of_lt (Nat.lt_succ_of_lt b_lt))
    · match r₂, hr₂ with
      | .error e, hr₂ => exact hr₂
      | .ok (.ret x), hr₂ =>
        obtain ⟨ex, h', tk, es, hS, hk⟩ := hr₂
        subst ex es
        repeat (any_goals (first | assumption | wp_step))
        exact h _ _ hS hk
end
end Vi

/-! ## ViSet6 -/
set_option Elab.async false
set_option linter.all false
set_option maxRecDepth 100000
set_option maxHeartbeats 3200000
namespace Vi
open PySem L2
/-! ### sorted(set(a list or a text)) -/
def sortSetA : D → Option Hd
  | .str s => if (s.all (· < 128)) = true ∧ s.length < 4000 ∧ (dedup (s.map fun c => [c])).length < 64 then some (.new (.lst ((sortS (dedup (s.map fun c => [c]))).map .str))) else none
  | d => sortSetD d
def tSortSetA (K : PySem.W.Frag) (ta : TE) : TE := fun σ H Q => ta σ H fun x H1 => rSortSet K x H1 Q ∨
  ∃ z : Str, x = .str z ∧ z.cps.all (· < 128) = true ∧ z.cps.size < 4000 ∧ Few (z.cps.toList.map fun c => (⟨#[c]⟩ : Str)) ∧ ∀ (p : Addr) (ys : List Str), ys.Nodup → PyProof.Rows.sortedS ys = true → (∀ k : Str, k ∈ ys ↔ k ∈ z.cps.toList.map fun c => (⟨#[c]⟩ : Str)) → H1 p = none → Q (.ref p) (upd H1 p (.lst (ys.map V.str)))
def rSortSetA (K : PySem.W.Frag) : V → Hp → VK → Prop := fun x H1 Q => rSortSet K x H1 Q ∨
  ∃ z : Str, x = .str z ∧ z.cps.all (· < 128) = true ∧ z.cps.size < 4000 ∧ Few (z.cps.toList.map fun c => (⟨#[c]⟩ : Str)) ∧ ∀ (p : Addr) (ys : List Str), ys.Nodup → PyProof.Rows.sortedS ys = true → (∀ k : Str, k ∈ ys ↔ k ∈ z.cps.toList.map fun c => (⟨#[c]⟩ : Str)) → H1 p = none → Q (.ref p) (upd H1 p (.lst (ys.map V.str)))
section
variable {X : Cx}
theorem pe_sortSetA {e : Expr} {ta : TE} {p p2 q pos : Pos} (hc : X.calm = true) (hg : Gl X "sorted") (hm : X.mg "sorted" = none) (hg2 : Gl X "set") (hm2 : X.mg "set" = none) (ha : PE X e ta)
    (na : starEach [e] X.env = (false, eval e X.env) :: starEach [] X.env := by rfl) : PE X (.Call (.Name "sorted" p) [.Call (.Name "set" p2) [e] [] q] [] pos) (tUn (rSortSetA X.K) ta) := by
  constructor
  intro pins s σ H Q I h
  refine PyProof.Rows.Call_ (ld_blt I hg hm PyProof.Rows.boot_sorted ?_)
  refine PyProof.Rows.callWith_builtin1 (PyProof.Rows.args_cons (PyProof.Rows.Call_ (ld_blt I hg2 hm2 PyProof.Rows.boot_set ?_)) rfl) rfl rfl
  refine PyProof.Rows.callWith_type1 (PyProof.Rows.args_cons (thn (ha.run pins s σ H _ I h) fun v s1 ⟨x, H1, I1, r1, q1⟩ => PyProof.Rows.args_nil ?_) na) na rfl
  have hd := I1.ok.hd hc
  rcases q1 with (⟨l, ns, ex, hs, many, few, q1⟩ | ⟨l, ns, ex, hs, many, few, q1⟩) | ⟨z, ex, asc, many, few, q1⟩
  · subst ex
    cases r1
    obtain ⟨its, rv, il, _⟩ := I1.list hs
    have hl : its.length = ns.length := by have := rv.length; rw [List.length_map] at this; exact this.symm
    refine call_setL (ns.map Sum.inl) hd il.isList (by rw [List.size_toArray, List.length_map]; exact hl) (fun i v e => vals_int_at rv i v (by simpa using e)) (by rw [List.length_map]; unfold scanBound; omega) fun h' tk hS keep => ?_
    have I2 : Inv X pins σ H1 { s1 with heap := h', toks := tk } := I1.kept keep
    refine PyProof.Rows.args_nil (sortG_int (s := { s1 with heap := h', toks := tk }) hS hd few (by unfold scanBound; omega) fun s' p out c ys k2 g2 o2 p2 at2 i2 lt2 m2 => ?_)
    have fl : ys.length < 64 := few ys (lt2.imp fun h => by omega) m2
    exact laid_sorted I2 k2 g2 o2 p2 at2 (vals_of_ints i2) (by rw [List.length_map, sizeLine_eq]; omega) (q1 p ys lt2 m2)
  · subst ex
    cases r1
    obtain ⟨its, rv, il, _⟩ := I1.list hs
    have hl : its.length = ns.length := by have := rv.length; rw [List.length_map] at this; exact this.symm
    refine call_setL (ns.map Sum.inr) hd il.isList (by rw [List.size_toArray, List.length_map]; exact hl) (fun i v e => vals_str_at rv i v (by simpa using e)) (by rw [List.length_map]; unfold scanBound; omega) fun h' tk hS keep => ?_
    have I2 : Inv X pins σ H1 { s1 with heap := h', toks := tk } := I1.kept keep
    refine PyProof.Rows.args_nil (sortG_str (s := { s1 with heap := h', toks := tk }) hS hd few (by unfold scanBound; omega) fun s' p out c ys k2 g2 o2 p2 at2 i2 nd2 lt2 m2 => ?_)
    have fl : ys.length < 64 := few ys nd2 m2
    exact laid_sorted I2 k2 g2 o2 p2 at2 (vals_of_strs i2) (by rw [List.length_map, sizeLine_eq]; omega) (q1 p ys nd2 lt2 m2)
  · subst ex
    obtain ⟨t, rfl⟩ := r1
    refine call_setT ((z.cps.toList.map fun c => (⟨#[c]⟩ : Str)).map Sum.inr) hd asc (by simp) (fun i v hv => ?_) (by rw [List.length_map, List.length_map, Array.length_toList]; unfold scanBound; omega) fun h' tk hS keep => ?_
    · obtain ⟨c, u, hc, e⟩ := hv
      refine ⟨Sum.inr ⟨#[c]⟩, ?_, by rw [e]; exact keyIs_str _ u⟩
      rw [List.getElem?_map, List.getElem?_map, Array.getElem?_toList, hc]; rfl
    have I2 : Inv X pins σ H1 { s1 with heap := h', toks := tk } := I1.kept keep
    refine PyProof.Rows.args_nil (sortG_str (s := { s1 with heap := h', toks := tk }) hS hd few (by rw [List.length_map, Array.length_toList]; unfold scanBound; omega) fun s' p out c ys k2 g2 o2 p2 at2 i2 nd2 lt2 m2 => ?_)
    have fl : ys.length < 64 := few ys nd2 m2
    exact laid_sorted I2 k2 g2 o2 p2 at2 (vals_of_strs i2) (by rw [List.length_map, sizeLine_eq]; omega) (q1 p ys nd2 lt2 m2)
end
section
variable {cm : Nat → Addr} {X : Cx} {W : WX} {K : PySem.W.Frag} {n : Nat}
theorem few_str {xs : List (List Nat)} (hz : (dedup xs).length < 64) : Few (xs.map toS) := fun l' nd m => by
  have f := few_of hz
  have nd2 : (l'.map fun s : Str => s.cps.toList).Nodup := by
    have e : l' = (l'.map fun s : Str => s.cps.toList).map toS := by
      rw [List.map_map]
      have : (toS ∘ fun s : Str => s.cps.toList) = id := funext fun s => toS_in s
      rw [this, List.map_id]
    rw [e] at nd
    exact List.Pairwise.of_map toS (fun _ _ h q => h (congrArg _ q)) nd
  have := f _ nd2 fun s => by
    rw [List.mem_map]
    constructor
    · rintro ⟨t, ht, q⟩
      obtain ⟨u, hu, q2⟩ := List.mem_map.mp ((m t).mp ht)
      rw [← q, ← q2, in_toS]; exact hu
    · intro hs
      exact ⟨toS s, (m _).mpr (List.mem_map.mpr ⟨s, hs, rfl⟩), in_toS s⟩
  rw [List.length_map] at this
  exact this
theorem s_sortSetA : UnS cm K n (rSortSetA K) sortSetA := fun c H d x h Q hd hg k => by
  cases d with
  | str s =>
    have hg : (if (s.all (· < 128)) = true ∧ s.length < 4000 ∧ (dedup (s.map fun c => [c])).length < 64 then some (Hd.new (.lst ((sortS (dedup (s.map fun c => [c]))).map .str))) else none) = some h := hg
    by_cases hz : (s.all (· < 128)) = true ∧ s.length < 4000 ∧ (dedup (s.map fun c => [c])).length < 64
    case neg => rw [if_neg hz] at hg; cases hg
    rw [if_pos hz] at hg
    cases hg
    have ex := den_str hd
    subst ex
    have e1 : (s.toArray.toList.map fun c => (⟨#[c]⟩ : Str)) = (s.map fun c => [c]).map toS := by
      rw [List.toList_toArray, List.map_map]; rfl
    refine .inr ⟨_, rfl, ?_, ?_, ?_, fun p ys nd hs hm hp => ?_⟩
    · have := hz.1
      simpa using this
    · simpa using hz.2.1
    · show Few (s.toArray.toList.map fun c => (⟨#[c]⟩ : Str))
      rw [e1]; exact few_str hz.2.2
    · have hm : ∀ k : Str, k ∈ ys ↔ k ∈ (s.map fun c => [c]).map toS := fun k => by rw [← e1]; exact hm k
      have q := sortS_eq nd hs hm
      subst q
      exact k _ _ _ (Ext.alloc hp) (hdv_new_lst hp (denl_strs _))
  | lst ds => exact .inl (s_sortSet c H _ x h Q hd hg k)
  | non => exact .inl (s_sortSet c H _ x h Q hd hg k)
  | bl b => exact .inl (s_sortSet c H _ x h Q hd hg k)
  | int b => exact .inl (s_sortSet c H _ x h Q hd hg k)
  | tup b => exact .inl (s_sortSet c H _ x h Q hd hg k)
  | dic a b => exact .inl (s_sortSet c H _ x h Q hd hg k)
  | obj a b e => exact .inl (s_sortSet c H _ x h Q hd hg k)
  | ty b => exact .inl (s_sortSet c H _ x h Q hd hg k)
  | cls b => exact .inl (s_sortSet c H _ x h Q hd hg k)
  | scr b => exact .inl (s_sortSet c H _ x h Q hd hg k)
theorem ve_sortSetA {e : Expr} {te : TE} {f : M Hd} {p p2 pos pos2 : Pos} (hc : X.calm = true) (hm : X.mg "sorted" = none) (hm2 : X.mg "set" = none) (h : VE cm X W e te f) (hK : X.K = K := by rfl) (hg : Gl X "sorted" := by rfl) (hg2 : Gl X "set" := by rfl)
    (na : starEach [e] X.env = (false, eval e X.env) :: starEach [] X.env := by rfl) : VE cm X W (.Call (.Name "sorted" p) [.Call (.Name "set" p2) [e] [] pos2] [] pos) (tUn (rSortSetA K) te) (eUn sortSetA f) := by
  subst hK
  exact ⟨pe_sortSetA hc hg hm hg2 hm2 h.pe na, sem_un s_sortSetA h.sem⟩
end
end Vi

/-! ## ViObj -/
set_option Elab.async false
set_option linter.all false
set_option maxRecDepth 100000
set_option maxHeartbeats 1600000
namespace Vi
open PySem L2
/-! ### instances with fields that stay -/
def lookN (f : Str) : List Str → List D → Option D
  | n :: ns, x :: xs => if f = n then some x else lookN f ns xs
  | _, _ => none
def fldD (tab : List Nat) (f : Str) : D → Option Hd
  | .obj k ns xs => if tab.contains k = true then (lookN f ns xs).map .val else none
  | _ => none
def rFld (K : PySem.W.Frag) (f : Str) : V → Hp → VK → Prop := fun x H1 Q => ∃ a C dx fs v, x = .ref a ∧ H1 a = some (.ins C dx fs) ∧ Cls K C ∧ NoAttr K C f ∧ fs.lookup f = some v ∧ Q v H1
/-- what the top tells of a class -/
def KlsP (K : PySem.W.Frag) (cm : Nat → Addr) (f : Str) (k : Nat) : Prop := Cls K (cm k) ∧ NoAttr K (cm k) f
section
variable {cm : Nat → Addr} {K : PySem.W.Frag} {n : Nat}
theorem lookN_some {G : Hp} {f : Str} : ∀ {ns : List Str} {xs : List D} {vs : List V} {d : D}, DenL cm K G xs vs → lookN f ns xs = some d → ∃ v, (ns.zip vs).lookup f = some v ∧ Den cm K G d v
  | [], xs, vs, d, h, e => by unfold lookN at e; cases e
  | n :: ns, [], vs, d, h, e => by unfold lookN at e; cases e
  | n :: ns, x :: xs, vs, d, ⟨v, r, h1, h2, h3⟩, e => by
    subst h1
    unfold lookN at e
    show ∃ u, ((n, v) :: ns.zip r).lookup f = some u ∧ _
    rw [List.lookup_cons]
    by_cases q : f = n
    · rw [if_pos q] at e
      have e : x = d := Option.some.inj e
      subst e
      exact ⟨v, by rw [beq_iff_eq.mpr q], h2⟩
    · rw [if_neg q] at e
      obtain ⟨u, e1, e2⟩ := lookN_some h3 e
      exact ⟨u, by rw [beq_eq_false_iff_ne.mpr q]; exact e1, e2⟩
theorem lookN_none {f : Str} : ∀ {ns : List Str} {xs : List D} {vs : List V}, xs.length = vs.length → lookN f ns xs = none → (ns.zip vs).lookup f = none
  | [], xs, vs, h, e => rfl
  | n :: ns, [], [], h, e => rfl
  | n :: ns, [], v :: vs, h, e => by cases h
  | n :: ns, x :: xs, [], h, e => by cases h
  | n :: ns, x :: xs, v :: vs, h, e => by
    unfold lookN at e
    show ((n, v) :: ns.zip vs).lookup f = none
    rw [List.lookup_cons]
    by_cases q : f = n
    · rw [if_pos q] at e; cases e
    · rw [if_neg q] at e
      rw [beq_eq_false_iff_ne.mpr q]
      exact lookN_none (by simpa using h) e
theorem s_fld {tab : List Nat} {f : Str} (hT : ∀ k ∈ tab, KlsP K cm f k) : UnS cm K n (rFld K f) (fldD tab f) := fun c H d x h Q hd hg k => by
  cases d with
  | obj j ns xs =>
    have hg : (if tab.contains j = true then (lookN f ns xs).map .val else none) = some h := hg
    by_cases q : tab.contains j = true
    case neg => rw [if_neg q] at hg; cases hg
    rw [if_pos q] at hg
    obtain ⟨a, dx, vs, e1, e2, e3, e4⟩ := (show Den cm K (Gz c H) (.obj j ns xs) x from hd)
    have t := hT j (List.contains_iff_mem.mp q)
    cases eo : lookN f ns xs with
    | none => rw [eo] at hg; cases hg
    | some d =>
      rw [eo] at hg
      cases hg
      obtain ⟨v, l, dv⟩ := lookN_some e4 eo
      exact ⟨a, _, dx, _, v, e1, (Gz.to e2).2, t.1, t.2, l, k c H v Ext.refl dv⟩
  | _ => cases (show none = some h from hg)
/-- isinstance(x, an own class) -/
def isOD (tab : List Nat) (sub : Nat → Nat → Option Bool) (d e : D) : Option Hd := match d, e with
  | .obj k _ _, .cls c => if tab.contains k = true then (sub k c).map fun b => .val (.bl b) else none
  | _, _ => none
def InsP (K : PySem.W.Frag) (C : Addr) : Prop := Cls K C ∧ PySem.W.findIn K (.ref C) "__class__" = some (some (.builtin "object.__class__")) ∧
  PySem.W.specialIn K (.builtin "object.__class__") "__get__" = some (some (.builtin "getset_descriptor.__get__")) ∧ PySem.W.takesIn K (.builtin "object.__class__") = some true ∧ PySem.W.mroIn K C (.type "object") = some true
theorem s_isO {tab : List Nat} {sub : Nat → Nat → Option Bool} (hT : ∀ k ∈ tab, InsP K (cm k)) (h1 : ∀ k c b, sub k c = some b → PySem.W.kitOne K (.ref (cm k)) (.ref (cm c)) = some b) : CallS cm K n (rIsi K) (f2 (isOD tab sub)) := calls2 fun c H d e v u hh Q hd he hg kk => by
  unfold isOD at hg
  split at hg
  · rename_i k ns xs c'
    by_cases q : tab.contains k = true
    case neg => rw [if_neg q] at hg; cases hg
    rw [if_pos q] at hg
    cases eb : sub k c' with
    | none => rw [eb] at hg; cases hg
    | some b =>
      rw [eb] at hg; cases hg
      obtain ⟨a, dx, vs, e1, e2, e3, e4⟩ := (show Den cm K (Gz c H) (.obj k ns xs) v from hd)
      have e5 : u = .ref (cm c') := he
      subst e1 e5
      obtain ⟨t1, t2, t3, t4, t5⟩ := hT k (List.contains_iff_mem.mp q)
      exact ⟨_, _, _, _, b, rfl, .own _, .base (.ins (Gz.to e2).2 t1 t2 t3 t4 t5), h1 k c' b eb, kk c H _ Ext.refl rfl⟩
  · cases hg
end
/-! making one -/
def spIni (C : Addr) (ns : List Str) : Sp := fun vs H Q _ => ∃ x dx ys, vs = .ref x :: ys ∧ ys.length = ns.length ∧ H x = some (.ins C dx []) ∧ Q .non (upd H x (.ins C dx (ns.zip ys)))
/-- a class as it is called -/
structure Kls (P : Program) (w : World) (K : PySem.W.Frag) (mg : Str → Option Value) (base : Heap) (cm : Nat → Addr) (j k : Nat) (x : Str) (ns : List Str) : Prop where
  ex : ∃ f fd ps, Mk K (cm k) f ∧ FnOk P w K mg base (L2.CX P w) j f fd ps (spIni (cm k) ns) ∧ mg x = some (.ref (cm k)) ∧ Binds K fd ps []
def E0 : XK := fun _ _ _ => False
theorem passE {X : Cx} : Passes (L2.CX X.prog X.w) X E0 := fun pins σ H s e s' I h => by
  obtain ⟨a, B, H', cls, d, _, _, _, _, _, _, _, z⟩ := h
  exact z.elim
def eMk (k : Nat) (ns : List Str) (f : M (List D)) : M Hd := f >>= fun xs => if xs.length = ns.length then pure (.val (.obj k ns xs)) else M.bad
section
variable {cm : Nat → Addr} {X : Cx} {W : WX} {K : PySem.W.Frag} {n : Nat}
theorem sem_mk {k : Nat} {ns : List Str} {t : TA} {f : M (List D)} (h : Sem cm K n W (DsOk cm K) t f) : Sem cm K n W (HdOk cm K n) (tMake (cm k) (spIni (cm k) ns) [] E0 t) (eMk k ns f) := by
  refine Sem.bind (u := fun vs σ H1 Q => ∀ x dx, H1 x = none → H1 dx = none → dx ≠ x → spIni (cm k) ns (V.ref x :: (vs ++ [])) (upd (upd H1 dx (.own x)) x (.ins (cm k) dx [])) (fun v H2 => v = .non ∧ Q (V.ref x) H2) E0) h ?_
  intro ρ₀ c₀ H₀ a x ρ c σ H Q s0 r0 hx q
  dsimp only at q
  have hx : DenL cm K (Gz c H) a x := hx
  have hl := hx.length
  by_cases hz : a.length = ns.length
  · rw [if_pos hz] at q
    intro p dx hp hdx ne
    rw [List.append_nil]
    refine ⟨p, dx, x, rfl, by omega, upd_same, rfl, ?_⟩
    rw [upd_upd]
    have e1 : Ext c (cset c dx 0) H (upd H dx (.own p)) := Ext.alloc hdx
    have hp2 : (upd H dx (.own p)) p = none := by rw [upd_ne ne.symm]; exact hp
    have e : Ext c (cset (cset c dx 0) p 0) H (upd (upd H dx (.own p)) p (.ins (cm k) dx (ns.zip x))) := e1.trans (Ext.alloc hp2)
    exact q _ _ _ (s0.app e.stp) (r0.ext e) ⟨p, dx, x, rfl, Gz.of cset_same upd_same, by omega, DenL.mono e.gz _ _ hx⟩
  · rw [if_neg hz] at q; exact q.elim
theorem ve_fld {tab : List Nat} {f : Str} {e : Expr} {te : TE} {fe : M Hd} {pos : Pos} (hT : ∀ k ∈ tab, KlsP K cm f k) (h : VE cm X W e te fe) (hK : X.K = K := by rfl) (hb : attributeBase e f X.env (eval e X.env) = eval e X.env := by rfl) :
    VE cm X W (.Attribute e f pos) (tUn (rFld K f) te) (eUn (fldD tab f) fe) := by
  subst hK
  exact ⟨pe_fld h.pe hb, sem_un (s_fld hT) h.sem⟩
theorem ve_mk {j k : Nat} {x : Str} {ns : List Str} {e : Expr} {es : List Expr} {t : TA} {f : M (List D)} {p pos : Pos} (F : Kls X.prog X.w K X.mg X.base cm j k x ns) (hr : Room (j + 1) X.A) (ha : VD cm X W (e :: es) t f) (hK : X.K = K := by rfl)
    (hg : Gl X x := by rfl) (hdb : (x == ("__debug__" : Str)) = false := by decide) (he : starEach (e :: es) X.env = (false, eval e X.env) :: starEach es X.env := by rfl) (hpl : (backTo pos (starEach es X.env)).any (·.1) = false := by rfl) :
    VE cm X W (.Call (.Name x p) (e :: es) [] pos) (tMake (cm k) (spIni (cm k) ns) [] E0 t) (eMk k ns f) := by
  subst hK
  obtain ⟨fa, fd, ps, M, Fk, hm, hb⟩ := F.ex
  exact ⟨pe_make M Fk hr hg hm hb .nil passE ha.pe hdb he hpl, sem_mk ha.sem⟩
/-! methods -/
structure Mth (P : Program) (w : World) (K : PySem.W.Frag) (mg : Str → Option Value) (base : Heap) (cm : Nat → Addr) (j k : Nat) (m : Str) (ar : Nat) (φ : List D → Out) : Prop where
  ex : ∃ f fd ps, Cls K (cm k) ∧ Meth K (cm k) m f ∧ ps.length = ar + 1 ∧ FnOk P w K mg base (L2.CX P w) j f fd ps (spV cm K (ar + 1) φ) ∧ Binds K fd ps []
def outHdN : Out → List S → R Hd
  | .ret (.fr d), ρ => .ok (.val d) ρ
  | .ret (.own d), ρ => .ok (.new d) ρ
  | _, _ => .bad
def mthM (ar : Nat) (F : List D → Out) (d : D) (ds : List D) : M Hd := fun ρ => if ds.length = ar then outHdN (F (d :: ds)) ρ else .bad
def eMth (m : Str) (ar : Nat) (φ : Nat → Option (List D → Out)) (fo : M Hd) (fa : M (List Hd)) : M Hd := fo >>= fun h => rd h >>= fun d => match d with
  | .obj k ns xs => match φ k, lookN m ns xs with
    | some F, none => fa >>= fun hs => rds hs >>= fun ds => mthM ar F d ds
    | _, _ => M.bad
  | _ => M.bad
theorem PE.or' {e : Expr} {t1 t2 : TE} (h1 : PE X e t1) (h2 : PE X e t2) : PE X e (fun σ H Q => t1 σ H Q ∨ t2 σ H Q) := ⟨fun pins s σ H Q I h => h.elim (h1.run pins s σ H Q I) (h2.run pins s σ H Q I)⟩
theorem sem_mth2 {k1 k2 ar : Nat} {m : Str} {F1 F2 : List D → Out} {to : TE} {ta : TA} {fo : M Hd} {fa : M (List Hd)} (ho : Sem cm K n W (HdOk cm K n) to fo) (ha : Sem cm K n W (HsOk cm K n) ta fa) :
    Sem cm K n W (HdOk cm K n) (fun σ H Q => tMeth (cm k1) m (spV cm K (ar + 1) F1) [] E0 to ta σ H Q ∨ tMeth (cm k2) m (spV cm K (ar + 1) F2) [] E0 to ta σ H Q) (eMth m ar (fun k => if k = k1 then some F1 else if k = k2 then some F2 else none) fo fa) := by
  intro ρ c σ H Q r q
  -- one class at a time
  have key : ∀ (k : Nat) (F : List D → Out), (∀ ρ' h, fo ρ = .ok h ρ' → ∃ ns xs, rd h ρ' = .ok (.obj k ns xs) ρ' ∧ lookN m ns xs = none) → (∀ ρ' h, fo ρ = .ok h ρ' → ∀ d, rd h ρ' = .ok d ρ' → QR cm K n W (HdOk cm K n) Q ρ c H σ ((fa >>= fun hs => rds hs >>= fun ds => mthM ar F d ds) ρ')) →
      (fo ρ = .bad → False) → (∀ x ρ', fo ρ = .exc x ρ' → QR cm K n W (HdOk cm K n) Q ρ c H σ (.exc x ρ')) → tMeth (cm k) m (spV cm K (ar + 1) F) [] E0 to ta σ H Q := by
    intro k F hob hq hbad hexc
    refine ho ρ c σ H _ r ?_
    cases e : fo ρ with
    | bad => exact hbad e
    | exc x ρ' => exact hexc x ρ' e
    | ok h ρ' =>
      intro c1 H1 x s1 r1 hx
      obtain ⟨ns, xs, hd, hn⟩ := hob ρ' h e
      have q1 := hq ρ' h e _ hd
      obtain ⟨a, dx, vs, e1, e2, e3, e4⟩ := (show Den cm K (Gz c1 H1) (.obj k ns xs) x from (rd_ok r1 hx hd).2)
      refine ⟨a, dx, ns.zip vs, e1, (Gz.to e2).2, lookN_none e4.length hn, ?_⟩
      refine ha ρ' c1 σ H1 _ r1 ?_
      rw [M.bind_run] at q1
      cases ea : fa ρ' with
      | bad => rw [ea] at q1; exact q1
      | exc x2 ρ2 =>
        rw [ea] at q1
        exact fun c' H' s' r' => q1 c' H' (s1.trans s') r'
      | ok hs ρ2 =>
        rw [ea] at q1
        dsimp only at q1
        intro c2 H2 ys s2 r2 hy
        rw [M.bind_run] at q1
        rcases rds_ok r2 hy with ⟨ds, e5, hds⟩ | e5
        case inr => rw [e5] at q1; exact q1.elim
        rw [e5] at q1
        dsimp only [mthM] at q1
        by_cases hl : ds.length = ar
        case neg => rw [if_neg hl] at q1; exact q1.elim
        rw [if_pos hl] at q1
        rw [List.append_nil]
        have dn : DenR cm K c2 H2 (.obj k ns xs) x := Den.mono (s2.st.gz) _ _ (show Den cm K (Gz c1 H1) (.obj k ns xs) x from ⟨a, dx, vs, e1, e2, e3, e4⟩)
        refine ⟨c2, .obj k ns xs :: ds, by rw [List.length_cons, hl], ⟨x, ys, rfl, dn, hds⟩, ?_⟩
        cases eo : F (.obj k ns xs :: ds) with
        | bad => rw [eo] at q1; exact q1.elim
        | exc k => rw [eo] at q1; exact q1.elim
        | ret s =>
          rw [eo] at q1
          cases s with
          | un => exact q1.elim
          | bor d => exact q1.elim
          | fr d => exact fun c' H' v ex hv => q1 c' H' v ((s1.trans s2).app ex.stp) (r2.ext ex) hv
          | own d =>
            intro c' H' v ex hv
            obtain ⟨p, ev, hp, hc, ct⟩ := hv
            have ex2 : Ext c2 (cset c' p (n + 1)) H2 H' := fun b o h => by
              have ne : b ≠ p := ne_of_none h hp
              exact ⟨by rw [cset_ne ne]; exact (ex b o h).1, (ex b o h).2⟩
            exact q1 _ H' v ((s1.trans s2).app ex2.stp) (r2.ext ex2) ⟨p, ev, (s1.trans s2).st.free hp, cset_same, ct.keep (gz_recol hc) fun o q => q⟩
  unfold eMth at q
  rw [M.bind_run] at q
  cases e : fo ρ with
  | bad => rw [e] at q; exact q.elim
  | exc x ρ' => rw [e] at q; exact .inl (key k1 F1 (fun ρ'' h z => by rw [e] at z; cases z) (fun ρ'' h z => by rw [e] at z; cases z) (fun z => by rw [e] at z; cases z) (fun x2 ρ2 z => by rw [e] at z; cases z; exact q))
  | ok h ρ' =>
    rw [e] at q
    dsimp only at q
    rw [M.bind_run] at q
    rcases rd_cases h ρ' with ⟨d, ed⟩ | ed
    case inr => rw [ed] at q; exact q.elim
    case inl =>
      rw [ed] at q
      dsimp only at q
      cases d with
      | obj k ns xs =>
        dsimp only at q
        by_cases h1 : k = k1
        · subst h1
          rw [if_pos rfl] at q
          cases eo : lookN m ns xs with
          | some z => rw [eo] at q; exact q.elim
          | none =>
            rw [eo] at q
            exact .inl (key k F1 (fun ρ'' h' z => by rw [e] at z; cases z; exact ⟨ns, xs, ed, eo⟩) (fun ρ'' h' z d' z2 => by rw [e] at z; cases z; rw [ed] at z2; cases z2; exact q) (fun z => by rw [e] at z; cases z) (fun x2 ρ2 z => by rw [e] at z; cases z))
        · rw [if_neg h1] at q
          by_cases h2 : k = k2
          · subst h2
            rw [if_pos rfl] at q
            cases eo : lookN m ns xs with
            | some z => rw [eo] at q; exact q.elim
            | none =>
              rw [eo] at q
              exact .inr (key k F2 (fun ρ'' h' z => by rw [e] at z; cases z; exact ⟨ns, xs, ed, eo⟩) (fun ρ'' h' z d' z2 => by rw [e] at z; cases z; rw [ed] at z2; cases z2; exact q) (fun z => by rw [e] at z; cases z) (fun x2 ρ2 z => by rw [e] at z; cases z))
          · rw [if_neg h2] at q; exact q.elim
      | _ => exact q.elim
theorem ve_mth2 {pl : PySem.Sem Bool} {j1 j2 k1 k2 ar : Nat} {m : Str} {F1 F2 : List D → Out} {o e : Expr} {es : List Expr} {to : TE} {ta : TA} {fo : M Hd} {fa : M (List Hd)} {apos pos : Pos} (M1 : Mth X.prog X.w K X.mg X.base cm j1 k1 m ar F1) (M2 : Mth X.prog X.w K X.mg X.base cm j2 k2 m ar F2) (hr1 : Room j1 X.A) (hr2 : Room j2 X.A)
    (ho : VE cm X W o to fo) (ha : VA cm X W (e :: es) ta fa) (hK : X.K = K := by rfl)
    (hst : starEach (e :: es) X.env = (false, eval e X.env) :: starEach es X.env := by rfl) (hpl : (backTo pos (starEach es X.env)).any (·.1) = false := by rfl)
    (ht : eval (.Call (.Attribute o m apos) (e :: es) [] pos) X.env = (do
      let ov ← eval o X.env
      standAt apos.atName
      let (f, first) ← holding [ov] (getMethod ov m pl)
      callWith pos f first (backTo pos (starEach (e :: es) X.env)) (backToKw pos (keywordEach [] X.env))) := by rfl) :
    VE cm X W (.Call (.Attribute o m apos) (e :: es) [] pos) (fun σ H Q => tMeth (cm k1) m (spV cm K (ar + 1) F1) [] E0 to ta σ H Q ∨ tMeth (cm k2) m (spV cm K (ar + 1) F2) [] E0 to ta σ H Q) (eMth m ar (fun k => if k = k1 then some F1 else if k = k2 then some F2 else none) fo fa) := by
  subst hK
  obtain ⟨f1, fd1, ps1, c1, m1, l1, F1', b1⟩ := M1.ex
  obtain ⟨f2, fd2, ps2, c2, m2, l2, F2', b2⟩ := M2.ex
  exact ⟨PE.or' (pe_meth ho.pe c1 m1 F1' hr1 b1 .nil passE ha.pe hst hpl ht) (pe_meth ho.pe c2 m2 F2' hr2 b2 .nil passE ha.pe hst hpl ht), sem_mth2 ho.sem ha.sem⟩
end
end Vi
namespace Vi
open PySem L2
/-! ### list.index -/
def fiD (x : D) : List D → Option Nat
  | [] => none
  | y :: r => if eqF y x = true then some 0 else (fiD x r).map (· + 1)
def idxD (d x : D) : Option Hd := match d with
  | .lst xs => if flatD x = true ∧ xs.all flatD = true then (fiD x xs).map (fun j : Nat => Hd.val (.int (j : Int))) else none
  | _ => none
def lstGo (d : D) (m : M Hd) : M Hd := match d with | .lst _ => m | _ => M.bad
def eIdxL (fo fe : M Hd) : M Hd := fo >>= fun h => rd h >>= fun d0 => lstGo d0 (fe >>= fun hx => rd h >>= fun d => rd hx >>= fun e => M.lift (idxD d e))
section
variable {cm : Nat → Addr} {X : Cx} {W : WX} {K : PySem.W.Frag} {n : Nat}
theorem fi_v {G G' : Hp} {x : D} {v : V} (h : flatD x = true) (hx : Den cm K G' x v) : ∀ {xs : List D} {vs : List V} {j : Nat}, xs.all flatD = true → DenL cm K G xs vs → fiD x xs = some j →
    ∃ z, vs[j]? = some z ∧ eqV z v = true ∧ ∀ (m : Nat) (z' : V), m < j → vs[m]? = some z' → eqV z' v = false
  | [], vs, j, _, _, e => by cases e
  | d :: ds, vs, j, hf, ⟨u, r, e, h1, h2⟩, q => by
    subst e
    rw [List.all_cons, Bool.and_eq_true] at hf
    have ev := eqF_v hf.1 h h1 hx
    unfold fiD at q
    by_cases c : eqF d x = true
    · rw [if_pos c] at q
      cases q
      exact ⟨u, rfl, by rw [ev]; exact c, fun m z' hm => absurd hm (Nat.not_lt_zero _)⟩
    · rw [if_neg c] at q
      cases e2 : fiD x ds with
      | none => rw [e2] at q; cases q
      | some i =>
        rw [e2] at q
        cases q
        obtain ⟨z, g1, g2, g3⟩ := fi_v h hx hf.2 h2 e2
        refine ⟨z, g1, g2, fun m z' hm hz => ?_⟩
        cases m with
        | zero =>
          have : u = z' := by simpa using hz
          rw [← this, ev]; simpa using c
        | succ m => exact g3 m z' (by have : m + 1 < i + 1 := hm; omega) (by simpa using hz)
theorem sem_idxL {to te : TE} {fo fe : M Hd} (ho : Sem cm K n W (HdOk cm K n) to fo) (he : Sem cm K n W (HdOk cm K n) te fe) : Sem cm K n W (HdOk cm K n) (tBM K "list" (rIndex K) to (tCons te tNil)) (eIdxL fo fe) := by
  refine Sem.bind (u := fun x σ H1 Q => tyV K "list" x H1 ∧ te σ H1 fun y H2 => rIndex K x [y] H2 Q) ho ?_
  intro ρ₀ c₀ H₀ a x ρ c σ H Q s0 r0 hx q
  dsimp only at q
  obtain ⟨d0, e0, q⟩ := rd_bind (P := QR cm K n W (HdOk cm K n) Q ρ₀ c₀ H₀ σ) QR.nobad q
  have p0 := (rd_ok r0 hx e0).2
  cases d0 with
  | lst xs0 =>
    obtain ⟨l, vs, ea, eh, _⟩ := p0
    refine ⟨by rw [ea]; exact .inl ⟨rfl, _, SqL.of eh⟩, ?_⟩
    dsimp only [lstGo] at q
    refine he ρ c σ H _ r0 ?_
    rw [M.bind_run] at q
    cases e : fe ρ with
    | exc k ρ' => rw [e] at q; exact fun c' H' s' r' => q c' H' (s0.trans s') r'
    | bad => rw [e] at q; exact q
    | ok b ρ' =>
      rw [e] at q
      intro c1 H1 y s1 r1 hy
      obtain ⟨d1, e1, q⟩ := rd_bind (P := QR cm K n W (HdOk cm K n) Q ρ₀ c₀ H₀ σ) QR.nobad q
      obtain ⟨d2, e2, q⟩ := rd_bind (P := QR cm K n W (HdOk cm K n) Q ρ₀ c₀ H₀ σ) QR.nobad q
      have p1 := (rd_ok r1 (hx.stp s1.st) e1).2
      have p2 := (rd_ok r1 hy e2).2
      rw [lift_run] at q
      cases d1 with
      | lst xs =>
        dsimp only [idxD] at q
        by_cases hf : flatD d2 = true ∧ xs.all flatD = true
        case neg => rw [if_neg hf] at q; exact q.elim
        rw [if_pos hf] at q
        cases ej : fiD d2 xs with
        | none => rw [ej] at q; exact q.elim
        | some j =>
          rw [ej] at q
          obtain ⟨l1, ws, eb, ehb, dl⟩ := p1
          have dy : Den cm K (Gz c1 H1) d2 y := by
            cases d2 with
            | lst _ => cases hf.1
            | dic _ _ => cases hf.1
            | _ => exact p2
          obtain ⟨z, g1, g2, g3⟩ := fi_v hf.1 dy hf.2 dl ej
          have fw := (in_v hf.1 dy hf.2 dl).1
          exact ⟨l1, ws, y, j, z, eb, rfl, SqL.of ehb, flat_v hf.1 dy, fw, g1, g2, g3, q c1 H1 _ (s0.trans s1) r1 rfl⟩
      | _ => exact q.elim
  | _ => exact q.elim
theorem ve_idxL {o e : Expr} {to te : TE} {fo fe : M Hd} {apos pos : Pos} (ho : VE cm X W o to fo) (he : VE cm X W e te fe) (hK : X.K = K := by rfl) (h0 : attributeBase o "index" X.env (eval o X.env) = eval o X.env := by rfl)
    (h1 : ((((backTo pos (starEach [e] X.env)).all (!·.1)) && ((backToKw pos (keywordEach [] X.env)).all (·.1.isSome))) && decide (([e].length + ([] : List Keyword).length + if ([] : List Keyword).isEmpty = true then 0 else 1) < 30)) = true := by rfl)
    (h2 : (apos.endLine == pos.line) = true := by rfl) (h3 : starEach [e] X.env = (false, eval e X.env) :: starEach [] X.env := by rfl) :
    VE cm X W (.Call (.Attribute o "index" apos) [e] [] pos) (tBM K "list" (rIndex K) to (tCons te tNil)) (eIdxL fo fe) := by
  subst hK
  exact ⟨pe_bm PySem.F.plainAttrs_list PySem.F.slot_list_index PySem.F.type_list_index mt_index ho.pe (pa_cons he.pe pa_nil h3) h0 h1 h2 h3 rfl, sem_idxL ho.sem he.sem⟩
end
end Vi
namespace Vi
open PySem L2
/-! ### is True -/
def cIsB : D → D → Option Hd | .bl a, .bl b => some (.val (.bl (a == b))) | _, _ => none
def cNotB : D → D → Option Hd | .bl a, .bl b => some (.val (.bl !(a == b))) | _, _ => none
section
variable {cm : Nat → Addr} {X : Cx} {K : PySem.W.Frag} {n : Nat}
theorem dec_beq (a b : Bool) : decide (a = b) = (a == b) := by cases a <;> cases b <;> rfl
theorem s_isB : OpS cm K n rIsB cIsB := by
  intro c H d e x y hh Q hd he hg k
  unfold cIsB at hg
  split at hg
  · rename_i a b
    cases hg
    exact ⟨a, b, den_bl hd, den_bl he, by rw [dec_beq]; exact k c H _ Ext.refl hv_bl⟩
  · cases hg
theorem s_notB : OpS cm K n rNotB cNotB := by
  intro c H d e x y hh Q hd he hg k
  unfold cNotB at hg
  split at hg
  · rename_i a b
    cases hg
    exact ⟨a, b, den_bl hd, den_bl he, by rw [dec_beq]; exact k c H _ Ext.refl hv_bl⟩
  · cases hg
end
end Vi

/-! ## ViLst -/
set_option Elab.async false
set_option linter.all false
set_option maxRecDepth 100000
set_option maxHeartbeats 1600000
namespace Vi
open PySem L2 PyProof.Rows
/-! ### list(text) -/
def rLstS : List V → Hp → VK → Prop := fun xs H Q => ∃ z : Str, xs = [.str z] ∧ z.cps.size ≤ sizeLine ∧ ∀ q, H q = none → Q (.ref q) (upd H q (.lst (z.cps.toList.map fun c => V.str ⟨#[c]⟩)))
theorem call_lstS {X : Cx} (hc : X.calm = true) : CallR X (.type "list") rLstS := by
  intro pins s σ H xs us Q I r h
  obtain ⟨z, rfl, hz, q⟩ := h
  obtain ⟨u, rfl, rx⟩ := vals1 r
  obtain ⟨t, rfl⟩ := rx
  refine PySem.call_list_str (I.ok.hd hc) z t (fun h' tk acc c' hk e hi => ?_) hz
  refine ⟨.ref s.heap.objs.size, upd H s.heap.objs.size (.lst (z.cps.toList.map fun c => V.str ⟨#[c]⟩)), I.laid hk (Nat.le_refl _) ⟨by rw [List.length_map, Array.length_toList]; exact hz, acc.toList, c', ?_, by rw [Array.toArray_toList]; exact e⟩, rfl, q _ (I.hok.fresh (Nat.le_refl _))⟩
  refine vals_of_idx _ _ (by rw [List.length_map, Array.length_toList, Array.length_toList]; exact hi.1) fun j u hj => ?_
  obtain ⟨c, t', hc, rfl⟩ := hi.2 j u (by rw [← Array.getElem?_toList]; exact hj)
  exact ⟨.str ⟨#[c]⟩, by simp [hc], ⟨_, rfl⟩⟩
def listTD : D → Option Hd
  | .str s => if s.length ≤ SLine then some (.new (.lst (s.map fun c => .str [c]))) else none
  | d => listD d
section
variable {cm : Nat → Addr} {X : Cx} {K : PySem.W.Frag} {n : Nat}
def rLstT (K : PySem.W.Frag) : List V → Hp → VK → Prop := fun xs H Q => (∃ p ys, xs = [.ref p] ∧ (SqL K H p ys ∨ SqT K H p ys) ∧ ∀ l, H l = none → Q (.ref l) (upd H l (.lst ys))) ∨ rLstS xs H Q
theorem call_lstT (hc : X.calm = true) : CallR X (.type "list") (rLstT X.K) := CallR.or' call_list_of (call_lstS hc)
theorem denl_chars {G : Hp} : ∀ s : List Nat, DenL cm K G (s.map fun c => .str [c]) (s.map fun c => V.str ⟨#[c]⟩)
  | [] => rfl
  | c :: s => ⟨_, _, rfl, rfl, denl_chars s⟩
theorem s_listT : CallS cm K n (rLstT K) (f1 listTD) := fun c H ds xs h Q hd hg k => by
  cases ds with
  | nil => cases (show none = some h from hg)
  | cons d r =>
    cases r with
    | cons _ _ => cases (show none = some h from hg)
    | nil =>
      cases d with
      | str s =>
        have hg : (if s.length ≤ SLine then some (Hd.new (.lst (s.map fun c => .str [c]))) else none) = some h := hg
        by_cases hz : s.length ≤ SLine
        case neg => rw [if_neg hz] at hg; cases hg
        rw [if_pos hz] at hg
        cases hg
        obtain ⟨v, t, e, hv, ht⟩ := hd
        have ht : t = [] := ht
        have hv : v = .str ⟨s.toArray⟩ := hv
        subst ht hv e
        refine .inr ⟨_, rfl, by simpa using Nat.le_trans hz sline, fun q hq => ?_⟩
        exact k _ _ _ (Ext.alloc hq) (hdv_new_lst hq (by
          have : (⟨s.toArray⟩ : Str).cps.toList = s := List.toList_toArray
          rw [this]; exact denl_chars s))
      | _ => exact .inl (s_list c H [_] xs h Q hd hg k)
end
theorem passOf {X : Cx} {E : XK} (tk : Takes X (WD E)) : Passes (L2.CX X.prog X.w) X E := fun pins σ H s e s' I h => passAt tk σ pins H s e s' I h
end Vi

/-! ## ViRun -/
set_option Elab.async false
set_option linter.all false
set_option maxRecDepth 100000
set_option maxHeartbeats 400000
namespace Vi
open PySem L2
/-! ### running an evaluator by simp: `R.thn` lets simp look at the first part alone -/
/-- that the last part's type names the continuation keeps simp out of it -/
structure Tk {α β : Type} (g : α → List S → R β) : Type where
def thnK {α β : Type} (g : α → List S → R β) (r : R α) (t : Tk g) : R β := match r with
  | .ok a ρ => g a ρ
  | .exc k ρ => .exc k ρ
  | .bad => .bad
abbrev R.thn {α β : Type} (r : R α) (g : α → List S → R β) : R β := thnK g r ⟨⟩
@[simp] theorem thn_thnK {α β : Type} (r : R α) (g : α → List S → R β) : r.thn g = thnK g r ⟨⟩ := (rfl)
theorem thn_fun {α β : Type} {r : R α} {g g' : α → List S → R β} (h : ∀ a ρ, g a ρ = g' a ρ) : thnK g r ⟨⟩ = thnK g' r ⟨⟩ := by
  have e : g = g' := funext fun a => funext fun ρ => h a ρ
  subst e; rfl
@[simp] theorem thn_ok {α β : Type} (a : α) (ρ : List S) (g : α → List S → R β) (t : Tk g) : thnK g (R.ok a ρ) t = g a ρ := (rfl)
@[simp] theorem thn_exc {α β : Type} (k : Nat) (ρ : List S) (g : α → List S → R β) (t : Tk g) : thnK g (R.exc k ρ : R α) t = .exc k ρ := (rfl)
@[simp] theorem thn_bad {α β : Type} (g : α → List S → R β) (t : Tk g) : thnK g (R.bad : R α) t = .bad := (rfl)
@[simp] theorem bind_thn {α β : Type} (f : M α) (g : α → M β) (ρ : List S) : (f >>= g) ρ = thnK (fun a ρ => g a ρ) ((f ρ)) ⟨⟩ := (rfl)
@[simp] theorem pure_thn {α : Type} (a : α) (ρ : List S) : (pure a : M α) ρ = .ok a ρ := (rfl)
@[simp] theorem Mpure_thn {α : Type} (a : α) (ρ : List S) : (M.pure a : M α) ρ = .ok a ρ := (rfl)
@[simp] theorem bad_thn {α : Type} (ρ : List S) : (M.bad : M α) ρ = .bad := (rfl)
@[simp] theorem lift_s {α : Type} (a : α) (ρ : List S) : M.lift (some a) ρ = .ok a ρ := (rfl)
@[simp] theorem lift_n {α : Type} (ρ : List S) : M.lift (none : Option α) ρ = .bad := (rfl)
@[simp] theorem ite_run {α : Type} (p : Prop) [Decidable p] (f g : M α) (ρ : List S) : (if p then f else g) ρ = if p then f ρ else g ρ := by split <;> rfl
@[simp] theorem at_z (s : S) (ρ : List S) : at_ (s :: ρ) 0 = s := (rfl)
@[simp] theorem at_s (s : S) (ρ : List S) (i : Nat) : at_ (s :: ρ) (i + 1) = at_ ρ i := (rfl)
@[simp] theorem eVar_r (i : Nat) (ρ : List S) : eVar i ρ = (at_ ρ i).asHd i ρ := (rfl)
@[simp] theorem asHd_fr (i : Nat) (d : D) (ρ : List S) : (S.fr d).asHd i ρ = .ok (.val d) ρ := (rfl)
@[simp] theorem asHd_own (i : Nat) (d : D) (ρ : List S) : (S.own d).asHd i ρ = .ok (.slot i) ρ := (rfl)
@[simp] theorem asHd_bor (i : Nat) (d : D) (ρ : List S) : (S.bor d).asHd i ρ = .ok (.slot i) ρ := (rfl)
@[simp] theorem eC_r (d : D) (ρ : List S) : eC d ρ = .ok (.val d) ρ := (rfl)
@[simp] theorem rd_val (d : D) (ρ : List S) : rd (.val d) ρ = .ok d ρ := (rfl)
@[simp] theorem rd_new (d : D) (ρ : List S) : rd (.new d) ρ = .ok d ρ := (rfl)
@[simp] theorem rd_slot (i : Nat) (ρ : List S) : rd (.slot i) ρ = (at_ ρ i).rd ρ := (rfl)
@[simp] theorem Srd_fr (d : D) (ρ : List S) : (S.fr d).rd ρ = .ok d ρ := (rfl)
@[simp] theorem Srd_own (d : D) (ρ : List S) : (S.own d).rd ρ = .ok d ρ := (rfl)
@[simp] theorem Srd_bor (d : D) (ρ : List S) : (S.bor d).rd ρ = .ok d ρ := (rfl)
@[simp] theorem fz_val (d : D) (ρ : List S) : fz (.val d) ρ = .ok d ρ := (rfl)
@[simp] theorem fz_new (d : D) (ρ : List S) : fz (.new d) ρ = .ok d ρ := (rfl)
@[simp] theorem fz_slot (i : Nat) (ρ : List S) : fz (.slot i) ρ = (at_ ρ i).fz i ρ := (rfl)
@[simp] theorem Sfz_fr (i : Nat) (d : D) (ρ : List S) : (S.fr d).fz i ρ = .ok d ρ := (rfl)
@[simp] theorem Sfz_own (i : Nat) (d : D) (ρ : List S) : (S.own d).fz i ρ = .ok d (ρ.set i (.fr d)) := (rfl)
@[simp] theorem put_val (i : Nat) (d : D) (ρ : List S) : put i (.val d) ρ = .ok () (ρ.set i (.fr d)) := (rfl)
@[simp] theorem put_new (i : Nat) (d : D) (ρ : List S) : put i (.new d) ρ = .ok () (ρ.set i (.own d)) := (rfl)
@[simp] theorem put_slot (i j : Nat) (ρ : List S) : put i (.slot j) ρ = (at_ ρ j).put i j ρ := (rfl)
@[simp] theorem Sput_fr (i j : Nat) (d : D) (ρ : List S) : (S.fr d).put i j ρ = .ok () (ρ.set i (.fr d)) := (rfl)
@[simp] theorem Sput_own (i j : Nat) (d : D) (ρ : List S) : (S.own d).put i j ρ = .ok () ((ρ.set j (.fr d)).set i (.fr d)) := (rfl)
@[simp] theorem giv_val (d : D) (ρ : List S) : giv (.val d) ρ = .ok (.fr d) ρ := (rfl)
@[simp] theorem giv_new (d : D) (ρ : List S) : giv (.new d) ρ = .ok (.own d) ρ := (rfl)
@[simp] theorem giv_slot (i : Nat) (ρ : List S) : giv (.slot i) ρ = (at_ ρ i).giv ρ := (rfl)
@[simp] theorem Sgiv_fr (d : D) (ρ : List S) : (S.fr d).giv ρ = .ok (.fr d) ρ := (rfl)
@[simp] theorem Sgiv_own (d : D) (ρ : List S) : (S.own d).giv ρ = .ok (.own d) ρ := (rfl)
/-! expressions -/
@[simp] theorem eOp_r (g : D → D → Option Hd) (a b : M Hd) (ρ : List S) : eOp g a b ρ = thnK (fun x ρ => thnK (fun y ρ => thnK (fun d ρ => thnK (fun e ρ => M.lift (g d e) ρ) ((rd y ρ)) ⟨⟩) ((rd x ρ)) ⟨⟩) ((b ρ)) ⟨⟩) ((a ρ)) ⟨⟩ := (rfl)
@[simp] theorem eUn_r (g : D → Option Hd) (a : M Hd) (ρ : List S) : eUn g a ρ = thnK (fun x ρ => thnK (fun d ρ => M.lift (g d) ρ) ((rd x ρ)) ⟨⟩) ((a ρ)) ⟨⟩ := (rfl)
@[simp] theorem bl_some (b : Bool) : bl? (.bl b) = some b := (rfl)
@[simp] theorem eTest_r (a : M Hd) (ρ : List S) : eTest a ρ = thnK (fun x ρ => thnK (fun d ρ => M.lift (bl? d) ρ) ((rd x ρ)) ⟨⟩) ((a ρ)) ⟨⟩ := (rfl)
@[simp] theorem eAnd_r (a b : M Bool) (ρ : List S) : eAnd a b ρ = thnK (fun x ρ => bif x then b ρ else .ok false ρ) ((a ρ)) ⟨⟩ := by
  show (a >>= fun x => if x = true then b else pure false) ρ = _
  rw [bind_thn]; exact thn_fun fun x ρ => by cases x <;> rfl
@[simp] theorem eOr_r (a b : M Bool) (ρ : List S) : eOr a b ρ = thnK (fun x ρ => bif x then .ok true ρ else b ρ) ((a ρ)) ⟨⟩ := by
  show (a >>= fun x => if x = true then pure true else b) ρ = _
  rw [bind_thn]; exact thn_fun fun x ρ => by cases x <;> rfl
@[simp] theorem eNot_r (a : M Bool) (ρ : List S) : eNot a ρ = thnK (fun x ρ => .ok (!x) ρ) ((a ρ)) ⟨⟩ := (rfl)
@[simp] theorem eIf_r (c : M Bool) (a b : M Hd) (ρ : List S) : eIf c a b ρ = thnK (fun x ρ => bif x then a ρ else b ρ) ((c ρ)) ⟨⟩ := by
  show (c >>= fun x => if x = true then a else b) ρ = _
  rw [bind_thn]; exact thn_fun fun x ρ => by cases x <;> rfl
@[simp] theorem eNil_r (ρ : List S) : eNil ρ = .ok [] ρ := (rfl)
@[simp] theorem eCons_r (a : M Hd) (r : M (List Hd)) (ρ : List S) : eCons a r ρ = thnK (fun x ρ => thnK (fun xs ρ => .ok (x :: xs) ρ) ((r ρ)) ⟨⟩) ((a ρ)) ⟨⟩ := (rfl)
@[simp] theorem dNil_r (ρ : List S) : dNil ρ = .ok [] ρ := (rfl)
@[simp] theorem dCons_r (a : M Hd) (r : M (List D)) (ρ : List S) : dCons a r ρ = thnK (fun x ρ => thnK (fun d ρ => thnK (fun xs ρ => .ok (d :: xs) ρ) ((r ρ)) ⟨⟩) ((fz x ρ)) ⟨⟩) ((a ρ)) ⟨⟩ := (rfl)
@[simp] theorem rds_nil (ρ : List S) : rds [] ρ = .ok [] ρ := (rfl)
@[simp] theorem rds_cons (h : Hd) (hs : List Hd) (ρ : List S) : rds (h :: hs) ρ = thnK (fun d ρ => thnK (fun ds ρ => .ok (d :: ds) ρ) ((rds hs ρ)) ⟨⟩) ((rd h ρ)) ⟨⟩ := (rfl)
@[simp] theorem eCB_r (g : List D → Option Hd) (f : M (List Hd)) (ρ : List S) : eCB g f ρ = thnK (fun hs ρ => thnK (fun ds ρ => M.lift (g ds) ρ) ((rds hs ρ)) ⟨⟩) ((f ρ)) ⟨⟩ := (rfl)
theorem sline_ge : 1000 ≤ SLine := by unfold SLine; decide
@[simp] theorem eTup_r (f : M (List D)) (ρ : List S) : eTup f ρ = thnK (fun xs ρ => if xs.length ≤ SLine then .ok (.val (.tup xs)) ρ else .bad) ((f ρ)) ⟨⟩ := by
  show (f >>= fun xs => if xs.length ≤ SLine then pure (Hd.val (.tup xs)) else M.bad) ρ = _
  rw [bind_thn]; exact thn_fun fun x ρ => by split <;> rfl
@[simp] theorem eLst_r (f : M (List D)) (ρ : List S) : eLst f ρ = thnK (fun xs ρ => if xs.length ≤ SLine then .ok (.new (.lst xs)) ρ else .bad) ((f ρ)) ⟨⟩ := by
  show (f >>= fun xs => if xs.length ≤ SLine then pure (Hd.new (.lst xs)) else M.bad) ρ = _
  rw [bind_thn]; exact thn_fun fun x ρ => by split <;> rfl
@[simp] theorem sl0 : 0 ≤ SLine := Nat.zero_le _
theorem sl_of {n : Nat} (h : n ≤ 1000) : n ≤ SLine := Nat.le_trans h sline_ge
@[simp] theorem sl_lit1 : 1 ≤ SLine := sl_of (by decide)
@[simp] theorem sl_lit2 : 2 ≤ SLine := sl_of (by decide)
@[simp] theorem sl_lit3 : 3 ≤ SLine := sl_of (by decide)
@[simp] theorem sl_lit4 : 4 ≤ SLine := sl_of (by decide)
@[simp] theorem sl_lit5 : 5 ≤ SLine := sl_of (by decide)
@[simp] theorem sl_lit6 : 6 ≤ SLine := sl_of (by decide)
@[simp] theorem sl_lit16 : 16 ≤ SLine := sl_of (by decide)
@[simp] theorem sl_lit26 : 26 ≤ SLine := sl_of (by decide)
@[simp] theorem oNone_r (ρ : List S) : oNone ρ = .ok none ρ := (rfl)
@[simp] theorem int_q (i : Int) : int? (.int i) = some i := (rfl)
@[simp] theorem oSome_r (f : M Hd) (ρ : List S) : oSome f ρ = thnK (fun h ρ => thnK (fun d ρ => M.lift ((int? d).map some) ρ) ((rd h ρ)) ⟨⟩) ((f ρ)) ⟨⟩ := (rfl)
@[simp] theorem eSl_r (f : M Hd) (lo hi : M (Option Int)) (ρ : List S) : eSl f lo hi ρ = thnK (fun h ρ => thnK (fun l ρ => thnK (fun u ρ => thnK (fun d ρ => M.lift (slD d l u) ρ) ((rd h ρ)) ⟨⟩) ((hi ρ)) ⟨⟩) ((lo ρ)) ⟨⟩) ((f ρ)) ⟨⟩ := (rfl)
@[simp] theorem callM_r (m : Nat) (φ : List D → Out) (ds : List D) (ρ : List S) : callM m φ ds ρ = if ds.length = m then outHd (φ ds) ρ else .bad := (rfl)
@[simp] theorem eCall_r (m : Nat) (φ : List D → Out) (f : M (List Hd)) (ρ : List S) : eCall m φ f ρ = thnK (fun hs ρ => thnK (fun ds ρ => callM m φ ds ρ) ((rds hs ρ)) ⟨⟩) ((f ρ)) ⟨⟩ := (rfl)
@[simp] theorem outHd_fr (d : D) (ρ : List S) : outHd (.ret (.fr d)) ρ = .ok (.val d) ρ := (rfl)
@[simp] theorem outHd_own (d : D) (ρ : List S) : outHd (.ret (.own d)) ρ = .ok (.new d) ρ := (rfl)
@[simp] theorem outHd_exc (k : Nat) (ρ : List S) : outHd (.exc k) ρ = .exc k ρ := (rfl)
@[simp] theorem f1_r (g : D → Option Hd) (d : D) : f1 g [d] = g d := (rfl)
@[simp] theorem f2_r (g : D → D → Option Hd) (d e : D) : f2 g [d, e] = g d e := (rfl)
@[simp] theorem truM_r (d : D) (ρ : List S) : truM d ρ = M.lift (truD d) ρ := (rfl)
@[simp] theorem eOrT_r (a b : M Hd) (ρ : List S) : eOrT a b ρ = thnK (fun h ρ => thnK (fun d ρ => thnK (fun k ρ => (if k = true then pure h else b : M Hd) ρ) ((truM d ρ)) ⟨⟩) ((rd h ρ)) ⟨⟩) ((a ρ)) ⟨⟩ := (rfl)
@[simp] theorem eAndT_r (a b : M Hd) (ρ : List S) : eAndT a b ρ = thnK (fun h ρ => thnK (fun d ρ => thnK (fun k ρ => (if k = true then b else pure h : M Hd) ρ) ((truM d ρ)) ⟨⟩) ((rd h ρ)) ⟨⟩) ((a ρ)) ⟨⟩ := (rfl)
@[simp] theorem eNotT_r (a : M Hd) (ρ : List S) : eNotT a ρ = thnK (fun h ρ => thnK (fun d ρ => thnK (fun k ρ => .ok (.val (.bl !k)) ρ) ((truM d ρ)) ⟨⟩) ((rd h ρ)) ⟨⟩) ((a ρ)) ⟨⟩ := (rfl)
@[simp] theorem eChain_r (g g' : D → D → Option Hd) (a b e : M Hd) (ρ : List S) : eChain g g' a b e ρ = thnK (fun x ρ => thnK (fun y ρ => thnK (fun d1 ρ => thnK (fun d2 ρ => thnK (fun k ρ =>
    (if k = true then e >>= fun z => rd y >>= fun d2 => rd z >>= fun d3 => M.lift (g' d2 d3) else pure (.val (.bl false)) : M Hd) ρ) ((M.lift ((g d1 d2).bind fun h => match h with | .val (.bl k) => some k | _ => none) ρ)) ⟨⟩) ((rd y ρ)) ⟨⟩) ((rd x ρ)) ⟨⟩) ((b ρ)) ⟨⟩) ((a ρ)) ⟨⟩ := (rfl)
@[simp] theorem getOwn_r (i : Nat) (ρ : List S) : getOwn i ρ = M.lift (ownL (at_ ρ i)) ρ := by
  show (match ownL (at_ ρ i) with | some xs => R.ok xs ρ | none => .bad) = _
  cases ownL (at_ ρ i) <;> rfl
@[simp] theorem ownL_l (xs : List D) : ownL (.own (.lst xs)) = some xs := (rfl)
@[simp] theorem setOwn_r (i : Nat) (xs : List D) (ρ : List S) : setOwn i xs ρ = .ok () (ρ.set i (.own (.lst xs))) := (rfl)
@[simp] theorem guardM_r {α : Type} (b : Bool) (m : M α) (ρ : List S) : guardM b m ρ = bif b then m ρ else .bad := by cases b <;> rfl
@[simp] theorem eAppend_r (i : Nat) (f : M Hd) (ρ : List S) : eAppend i f ρ = thnK (fun _ ρ => thnK (fun h ρ => thnK (fun d ρ => thnK (fun xs ρ => guardM (decide (xs.length < SLine)) (setOwn i (xs ++ [d]) >>= fun _ => pure (.val .non)) ρ) ((getOwn i ρ)) ⟨⟩) ((fz h ρ)) ⟨⟩) ((f ρ)) ⟨⟩) ((getOwn i ρ)) ⟨⟩ := (rfl)
@[simp] theorem ePop_r (i : Nat) (ρ : List S) : ePop i ρ = thnK (fun xs ρ => thnK (fun d ρ => .ok (.val d) (ρ.set i (.own (.lst xs.dropLast)))) ((M.lift xs.getLast? ρ)) ⟨⟩) ((getOwn i ρ)) ⟨⟩ := (rfl)
@[simp] theorem lst_q (xs : List D) : lst? (.lst xs) = some xs := (rfl)
@[simp] theorem eExtend_r (i : Nat) (f : M Hd) (ρ : List S) : eExtend i f ρ = thnK (fun _ ρ => thnK (fun h ρ => thnK (fun d ρ => thnK (fun ys ρ => thnK (fun xs ρ => guardM (decide (xs.length + ys.length ≤ SLine)) (setOwn i (xs ++ ys) >>= fun _ => pure (.val .non)) ρ) ((getOwn i ρ)) ⟨⟩) ((M.lift (lst? d) ρ)) ⟨⟩) ((rd h ρ)) ⟨⟩) ((f ρ)) ⟨⟩) ((getOwn i ρ)) ⟨⟩ := (rfl)
/-! statements -/
@[simp] theorem sNx_r (ρ : List S) : sNx ρ = .ok .nx ρ := (rfl)
def Fl.seq (x : Fl) (g : M Fl) (ρ : List S) : R Fl := match x with | .nx => g ρ | x => .ok x ρ
@[simp] theorem seq_nx (g : M Fl) (ρ : List S) : Fl.nx.seq g ρ = g ρ := (rfl)
@[simp] theorem seq_rt (s : S) (g : M Fl) (ρ : List S) : (Fl.rt s).seq g ρ = .ok (.rt s) ρ := (rfl)
@[simp] theorem seq_bk (g : M Fl) (ρ : List S) : Fl.bk.seq g ρ = .ok .bk ρ := (rfl)
@[simp] theorem seq_ct (g : M Fl) (ρ : List S) : Fl.ct.seq g ρ = .ok .ct ρ := (rfl)
@[simp] theorem sSeq_r (f g : M Fl) (ρ : List S) : sSeq f g ρ = thnK (fun x ρ => x.seq g ρ) ((f ρ)) ⟨⟩ := by
  show (f >>= fun x => match x with | .nx => g | x => pure x) ρ = _
  rw [bind_thn]; exact thn_fun fun x ρ => by cases x <;> rfl
@[simp] theorem sExpr_r (f : M Hd) (ρ : List S) : sExpr f ρ = thnK (fun _ ρ => .ok .nx ρ) ((f ρ)) ⟨⟩ := (rfl)
@[simp] theorem sSet_r (i : Nat) (f : M Hd) (ρ : List S) : sSet i f ρ = thnK (fun h ρ => thnK (fun _ ρ => .ok .nx ρ) ((put i h ρ)) ⟨⟩) ((f ρ)) ⟨⟩ := (rfl)
@[simp] theorem sRet_r (f : M Hd) (ρ : List S) : sRet f ρ = thnK (fun h ρ => thnK (fun s ρ => .ok (.rt s) ρ) ((giv h ρ)) ⟨⟩) ((f ρ)) ⟨⟩ := (rfl)
@[simp] theorem sIf_r (c : M Bool) (f g : M Fl) (ρ : List S) : sIf c f g ρ = thnK (fun b ρ => bif b then f ρ else g ρ) ((c ρ)) ⟨⟩ := by
  show (c >>= fun b => if b = true then f else g) ρ = _
  rw [bind_thn]; exact thn_fun fun x ρ => by cases x <;> rfl
@[simp] theorem sRaise_r (k : Nat) (ρ : List S) : sRaise k ρ = .exc k ρ := (rfl)
@[simp] theorem stl_val (d : D) (ρ : List S) : stl (.val d) ρ = .ok (.val d) ρ := (rfl)
@[simp] theorem stl_new (d : D) (ρ : List S) : stl (.new d) ρ = .ok (.new d) ρ := (rfl)
@[simp] theorem stl_slot (i : Nat) (ρ : List S) : stl (.slot i) ρ = thnK (fun d ρ => .ok (.val d) ρ) ((fz (.slot i) ρ)) ⟨⟩ := (rfl)
@[simp] theorem pCons_r (a : M Hd) (r : M (List Hd)) (ρ : List S) : pCons a r ρ = thnK (fun x ρ => thnK (fun h ρ => thnK (fun hs ρ => .ok (h :: hs) ρ) ((r ρ)) ⟨⟩) ((stl x ρ)) ⟨⟩) ((a ρ)) ⟨⟩ := (rfl)
@[simp] theorem puts_nil (ρ : List S) : puts [] [] ρ = .ok () ρ := (rfl)
@[simp] theorem puts_cons (i : Nat) (is : List Nat) (h : Hd) (hs : List Hd) (ρ : List S) : puts (i :: is) (h :: hs) ρ = thnK (fun _ ρ => puts is hs ρ) ((put i h ρ)) ⟨⟩ := (rfl)
@[simp] theorem sPar_r (is : List Nat) (f : M (List Hd)) (ρ : List S) : sPar is f ρ = thnK (fun hs ρ => thnK (fun _ ρ => .ok .nx ρ) ((puts is hs ρ)) ⟨⟩) ((f ρ)) ⟨⟩ := (rfl)
def R.nx {α : Type} : R α → R α | .ok a ρ => .ok a ρ | _ => .bad
@[simp] theorem nx_ok {α : Type} (a : α) (ρ : List S) : (R.ok a ρ).nx = .ok a ρ := (rfl)
theorem nox_r {α : Type} (m : M α) (ρ : List S) : m.nox ρ = (m ρ).nx := by
  show (match m ρ with | .ok a ρ' => R.ok a ρ' | _ => .bad) = _
  cases m ρ <;> rfl
@[simp] theorem gN_r (i : Nat) (d : D) (ρ : List S) : (gN i d) ρ = .ok () (ρ.set i (.fr d)) := (rfl)
@[simp] theorem gsNil_r (ρ : List S) : gsNil [] ρ = .ok () ρ := (rfl)
@[simp] theorem gsCons_r (f : D → M Unit) (g : List D → M Unit) (d : D) (r : List D) (ρ : List S) : gsCons f g (d :: r) ρ = thnK (fun _ ρ => g r ρ) ((f d ρ)) ⟨⟩ := (rfl)
@[simp] theorem gT_r (k : Nat) (g : List D → M Unit) (ds : List D) (ρ : List S) : gT k g (.tup ds) ρ = if ds.length = k then g ds ρ else .bad := by
  show (if ds.length = k then g ds else M.bad) ρ = _
  split <;> rfl
@[simp] theorem sUnp_r (tg : D → M Unit) (f : M Hd) (ρ : List S) : sUnp tg f ρ = thnK (fun h ρ => thnK (fun d ρ => thnK (fun _ ρ => .ok .nx ρ) ((tg d ρ).nx) ⟨⟩) ((fz h ρ)) ⟨⟩) ((f ρ)) ⟨⟩ := by
  show (f >>= fun h => fz h >>= fun d => (tg d).nox >>= fun _ => pure Fl.nx) ρ = _
  simp only [bind_thn, nox_r]; rfl
/-! loops -/
@[simp] theorem itAny_r (f : M Hd) (ρ : List S) : itAny f ρ = thnK (fun h ρ => thnK (fun d ρ => itOf h d ρ) ((rd h ρ)) ⟨⟩) ((f ρ)) ⟨⟩ := (rfl)
@[simp] theorem itOf_l (h : Hd) (xs : List D) (ρ : List S) : itOf h (.lst xs) ρ = .ok (xs, lentOf h ρ) ρ := (rfl)
@[simp] theorem itOf_t (h : Hd) (xs : List D) (ρ : List S) : itOf h (.tup xs) ρ = .ok (xs, none) ρ := (rfl)
@[simp] theorem itOf_s (h : Hd) (s : List Nat) (ρ : List S) : itOf h (.str s) ρ = .ok (s.map fun c => .str [c], none) ρ := (rfl)
@[simp] theorem lentOf_v (d : D) (ρ : List S) : lentOf (.val d) ρ = none := (rfl)
@[simp] theorem lentOf_n (d : D) (ρ : List S) : lentOf (.new d) ρ = none := (rfl)
@[simp] theorem lentOf_s (i : Nat) (ρ : List S) : lentOf (.slot i) ρ = (at_ ρ i).lentOf i := (rfl)
@[simp] theorem SlentOf_o (i : Nat) (d : D) : (S.own d).lentOf i = some i := (rfl)
@[simp] theorem SlentOf_b (i : Nat) (d : D) : (S.bor d).lentOf i = none := (rfl)
@[simp] theorem SlentOf_f (i : Nat) (d : D) : (S.fr d).lentOf i = none := (rfl)
@[simp] theorem itRng_r (m : Nat) (f : M (List Hd)) (ρ : List S) : itRngN m f ρ = thnK (fun hs ρ => if hs.length = m then thnK (fun ds ρ => M.lift ((rgD ds).map fun xs => (xs, none)) ρ) (rds hs ρ) ⟨⟩ else .bad) (f ρ) ⟨⟩ := by
  show ((f >>= fun hs => if hs.length = m then pure hs else M.bad) >>= fun hs => rds hs >>= fun ds => M.lift ((rgD ds).map fun xs => (xs, none))) ρ = _
  simp only [bind_thn]
  cases f ρ with
  | ok a ρ' =>
    simp only [thn_ok, ite_run]
    split <;> rfl
  | exc k ρ' => rfl
  | bad => rfl
theorem sFor_r (it : M (List D × Option Nat)) (tg : D → M Unit) (body : M Fl) (ρ : List S) : sFor it tg body ρ = thnK (fun p ρ => lentF p.2 (loopS tg body p.1) ρ) ((it ρ)) ⟨⟩ := (rfl)
@[simp] theorem lentF_n (m : M Fl) (ρ : List S) : lentF none m ρ = (m ρ).backF none := (rfl)
theorem lentF_s (i : Nat) (d : D) (m : M Fl) (ρ : List S) (h : at_ ρ i = .own d) : lentF (some i) m ρ = (m (ρ.set i (.bor d))).backF (some i) := by
  show (match (at_ ρ i).lend i ρ with | .ok _ ρ' => (m ρ').backF (some i) | _ => .bad) = _
  rw [h]; rfl
@[simp] theorem backF_nx (ρ : List S) : (R.ok Fl.nx ρ).backF none = .ok .nx ρ := (rfl)
@[simp] theorem backF_rt (l : Option Nat) (s : S) (ρ : List S) : (R.ok (Fl.rt s) ρ).backF l = .ok (.rt s) ρ := (rfl)
@[simp] theorem backF_exc (k : Nat) (ρ : List S) : (R.exc k ρ : R Fl).backF none = .exc k ρ := (rfl)
theorem backF_s (i : Nat) (d : D) (ρ : List S) (h : at_ ρ i = .bor d) : (R.ok Fl.nx ρ).backF (some i) = .ok .nx (ρ.set i (.own d)) := by
  show (match (at_ ρ i).unlend i ρ with | .ok _ ρ' => R.ok Fl.nx ρ' | _ => .bad) = _
  rw [h]; rfl
theorem loop_nil (tg : D → M Unit) (body : M Fl) (ρ : List S) : loopS tg body [] ρ = .ok .nx ρ := (rfl)
/-- one turn -/
def Fl.turn (x : Fl) (g : M Fl) (ρ : List S) : R Fl := match x with | .nx => g ρ | .ct => g ρ | .bk => .ok .nx ρ | .rt s => .ok (.rt s) ρ
@[simp] theorem turn_nx (g : M Fl) (ρ : List S) : Fl.nx.turn g ρ = g ρ := (rfl)
@[simp] theorem turn_ct (g : M Fl) (ρ : List S) : Fl.ct.turn g ρ = g ρ := (rfl)
@[simp] theorem turn_bk (g : M Fl) (ρ : List S) : Fl.bk.turn g ρ = .ok .nx ρ := (rfl)
@[simp] theorem turn_rt (s : S) (g : M Fl) (ρ : List S) : (Fl.rt s).turn g ρ = .ok (.rt s) ρ := (rfl)
theorem loop_cons (tg : D → M Unit) (body : M Fl) (d : D) (ds : List D) (ρ : List S) : loopS tg body (d :: ds) ρ = thnK (fun _ ρ => thnK (fun x ρ => x.turn (loopS tg body ds) ρ) ((body ρ)) ⟨⟩) ((tg d ρ).nx) ⟨⟩ := by
  show ((tg d).nox >>= fun _ => body >>= fun x => match x with
    | .nx => loopS tg body ds
    | .ct => loopS tg body ds
    | .bk => pure .nx
    | .rt s => pure (.rt s)) ρ = _
  rw [bind_thn, nox_r]; exact thn_fun fun x ρ => by rw [bind_thn]; exact thn_fun fun x ρ => by cases x <;> rfl
/-- an invariant: every turn goes on to the next state; then after all: the last state -/
theorem loop_inv {tg : D → M Unit} {body : M Fl} (I : List D → List S → Prop) (Q : R Fl → Prop) (h0 : ∀ ρ, I [] ρ → Q (.ok .nx ρ))
    (h1 : ∀ d ds ρ, I (d :: ds) ρ → (∃ ρ', (tg d ρ).nx.thn (fun _ ρ => body ρ) = .ok .nx ρ' ∧ I ds ρ') ∨ ∃ ρ' s, (tg d ρ).nx.thn (fun _ ρ => body ρ) = .ok (.rt s) ρ' ∧ Q (.ok (.rt s) ρ')) :
    ∀ xs ρ, I xs ρ → Q (loopS tg body xs ρ)
  | [], ρ, h => h0 ρ h
  | d :: ds, ρ, h => by
    rw [loop_cons]
    rcases h1 d ds ρ h with ⟨ρ', e, q⟩ | ⟨ρ', s, e, q⟩
    · have e2 : (thnK (fun _ ρ => thnK (fun x ρ => x.turn (loopS tg body ds) ρ) ((body ρ)) ⟨⟩) ((tg d ρ).nx) ⟨⟩) = loopS tg body ds ρ' := by
        cases e3 : (tg d ρ).nx with
        | ok a ρ2 => rw [e3] at e; simp only [thn_ok] at e ⊢; rw [e]; rfl
        | exc k ρ2 => rw [e3] at e; cases e
        | bad => rw [e3] at e; cases e
      rw [e2]
      exact loop_inv I Q h0 h1 ds ρ' q
    · have e2 : (thnK (fun _ ρ => thnK (fun x ρ => x.turn (loopS tg body ds) ρ) ((body ρ)) ⟨⟩) ((tg d ρ).nx) ⟨⟩) = .ok (.rt s) ρ' := by
        cases e3 : (tg d ρ).nx with
        | ok a ρ2 => rw [e3] at e; simp only [thn_ok] at e ⊢; rw [e]; rfl
        | exc k ρ2 => rw [e3] at e; cases e
        | bad => rw [e3] at e; cases e
      rw [e2]
      exact q
/-! comprehensions: one name, read alone -/
theorem set_self {ρ : List S} {v : Nat} {s : S} (h : at_ ρ v = s) (hs : v < ρ.length) : ρ.set v s = ρ := by
  apply List.ext_getElem?
  intro i
  by_cases e : v = i
  · subst e
    rw [List.getElem?_set_self hs, List.getElem?_eq_getElem hs]
    unfold at_ at h
    rw [List.getElem?_eq_getElem hs] at h
    exact congrArg some h.symm
  · rw [List.getElem?_set_ne e]
theorem lcS_one {v : Nat} {cond : M Bool} {elt : M Hd} {ρ : List S} (c : D → Bool) (e : D → D) (hw : ρ.set v .un = ρ) : ∀ (xs acc : List D), (∀ x ∈ xs, cond (ρ.set v (.fr x)) = .ok (c x) (ρ.set v (.fr x)) ∧ (c x = true → elt (ρ.set v (.fr x)) = .ok (.val (e x)) (ρ.set v (.fr x)))) → acc.length + xs.length ≤ SLine →
    lcS (gN v) cond elt [v] xs acc ρ = .ok (acc ++ (xs.filter c).map e) ρ
  | [], acc, h, hl => by show R.ok acc ρ = _; simp
  | x :: xs, acc, h, hl => by
    have step : lcS (gN v) cond elt [v] (x :: xs) acc ρ = ((gN v x).nox >>= fun _ => cond.nox >>= fun b =>
      if b = true then elt.nox >>= fun h => fz h >>= fun x => guardM (decide (acc.length < SLine)) (wipeM [v] (lcS (gN v) cond elt [v] xs (acc ++ [x])))
      else wipeM [v] (lcS (gN v) cond elt [v] xs acc)) ρ := (rfl)
    have h1 := h x List.mem_cons_self
    have hl : acc.length + (xs.length + 1) ≤ SLine := hl
    simp only [step, bind_thn, nox_r, gN_r, nx_ok, thn_ok, h1.1]
    have w : ∀ a, wipeM [v] (lcS (gN v) cond elt [v] xs a) (ρ.set v (.fr x)) = lcS (gN v) cond elt [v] xs a ρ := fun a => by
      show lcS (gN v) cond elt [v] xs a ((ρ.set v (.fr x)).set v .un) = _
      rw [List.set_set, hw]
    cases ec : c x with
    | false =>
      rw [if_neg Bool.false_ne_true, w, lcS_one c e hw xs acc (fun y hy => h y (List.mem_cons_of_mem _ hy)) (by omega), List.filter_cons_of_neg (by rw [ec]; exact Bool.false_ne_true)]
    | true =>
      simp only [if_true, bind_thn, nox_r, h1.2 ec, nx_ok, thn_ok, fz_val, guardM_r, decide_eq_true (show acc.length < SLine by omega), cond_true]
      rw [w, lcS_one c e hw xs _ (fun y hy => h y (List.mem_cons_of_mem _ hy)) (by rw [List.length_append]; simp only [List.length_cons, List.length_nil]; omega), List.filter_cons_of_pos ec]
      simp
theorem eLc_one {it : M (List D × Option Nat)} {v : Nat} {cond : M Bool} {elt : M Hd} {ρ : List S} {xs : List D} (c : D → Bool) (e : D → D) (hi : it ρ = .ok (xs, none) ρ) (hv : v < ρ.length) (ho : (at_ ρ v).notOwn = true)
    (h : ∀ x ∈ xs, cond (ρ.set v (.fr x)) = .ok (c x) (ρ.set v (.fr x)) ∧ (c x = true → elt (ρ.set v (.fr x)) = .ok (.val (e x)) (ρ.set v (.fr x)))) (hl : xs.length ≤ SLine) :
    eLc it (gN v) cond elt [v] ρ = .ok (.new (.lst ((xs.filter c).map e))) ρ := by
  show (it >>= fun p => lent p.2 (lcF [v] (lcS (gN v) cond elt [v] p.1 []))) ρ = _
  simp only [bind_thn, hi, thn_ok]
  show (lcF [v] (lcS (gN v) cond elt [v] xs []) ρ).back none = _
  have e1 : lcS (gN v) cond elt [v] xs [] (wipeS ρ [v]) = .ok ((xs.filter c).map e) (ρ.set v .un) := by
    show lcS (gN v) cond elt [v] xs [] (ρ.set v .un) = _
    have := lcS_one (v := v) (cond := cond) (elt := elt) (ρ := ρ.set v .un) c e (List.set_set ..) xs [] (fun x hx => by
      rw [List.set_set]; exact h x hx) (by simpa using hl)
    rw [this, List.nil_append]
  have e2 : lcF [v] (lcS (gN v) cond elt [v] xs []) ρ = .ok (.new (.lst ((xs.filter c).map e))) ρ := by
    show (if [v].all (fun v => (at_ ρ v).notOwn) = true then
      match lcS (gN v) cond elt [v] xs [] (wipeS ρ [v]) with
      | .ok ds ρ' => R.ok (Hd.new (.lst ds)) (back ρ' ρ [v])
      | _ => .bad else .bad) = _
    rw [if_pos (by simpa using ho), e1]
    show R.ok _ ((ρ.set v .un).set v (at_ ρ v)) = _
    rw [List.set_set, set_self rfl hv]
  rw [e2]; rfl
/-- over a list of a name's own: lent meanwhile -/
theorem eLc_own {it : M (List D × Option Nat)} {v i : Nat} {cond : M Bool} {elt : M Hd} {ρ : List S} {xs : List D} {d : D} (c : D → Bool) (e : D → D) (hi : it ρ = .ok (xs, some i) ρ) (hd : at_ ρ i = .own d) (hil : i < ρ.length) (hiv : i ≠ v) (hv : v < ρ.length) (ho : (at_ ρ v).notOwn = true)
    (h : ∀ x ∈ xs, cond ((ρ.set i (.bor d)).set v (.fr x)) = .ok (c x) ((ρ.set i (.bor d)).set v (.fr x)) ∧ (c x = true → elt ((ρ.set i (.bor d)).set v (.fr x)) = .ok (.val (e x)) ((ρ.set i (.bor d)).set v (.fr x)))) (hl : xs.length ≤ SLine) :
    eLc it (gN v) cond elt [v] ρ = .ok (.new (.lst ((xs.filter c).map e))) ρ := by
  have hb : at_ (ρ.set i (.bor d)) v = at_ ρ v := by unfold at_; rw [List.getElem?_set_ne hiv]
  have key := eLc_one (it := fun ρ => .ok (xs, none) ρ) (v := v) (cond := cond) (elt := elt) (ρ := ρ.set i (.bor d)) c e rfl (by rw [List.length_set]; exact hv) (by rw [hb]; exact ho) h hl
  have key : (lcF [v] (lcS (gN v) cond elt [v] xs []) (ρ.set i (.bor d))).back none = .ok (.new (.lst ((xs.filter c).map e))) (ρ.set i (.bor d)) := key
  have key : lcF [v] (lcS (gN v) cond elt [v] xs []) (ρ.set i (.bor d)) = .ok (.new (.lst ((xs.filter c).map e))) (ρ.set i (.bor d)) := by
    cases q : lcF [v] (lcS (gN v) cond elt [v] xs []) (ρ.set i (.bor d)) with
    | ok a ρ' => rw [q] at key; exact key
    | exc k ρ' => rw [q] at key; cases key
    | bad => rw [q] at key; cases key
  show (it >>= fun p => lent p.2 (lcF [v] (lcS (gN v) cond elt [v] p.1 []))) ρ = _
  simp only [bind_thn, hi, thn_ok]
  show (match (at_ ρ i).lend i ρ with | .ok _ ρ' => (lcF [v] (lcS (gN v) cond elt [v] xs []) ρ').back (some i) | _ => .bad) = _
  rw [hd]
  show (lcF [v] (lcS (gN v) cond elt [v] xs []) (ρ.set i (.bor d))).back (some i) = _
  rw [key]
  show (match (at_ (ρ.set i (.bor d)) i).unlend i (ρ.set i (.bor d)) with | .ok _ ρ' => R.ok (Hd.new (.lst ((xs.filter c).map e))) ρ' | _ => .bad) = _
  have e3 : at_ (ρ.set i (.bor d)) i = .bor d := by unfold at_; rw [List.getElem?_set_self hil]; rfl
  rw [e3]
  show R.ok _ ((ρ.set i (.bor d)).set i (.own d)) = _
  rw [List.set_set, set_self hd hil]
/-! ### operators on data -/
@[simp] theorem aPlus_i (i j : Int) : aPlus (.int i) (.int j) = some (.val (.int (i + j))) := (rfl)
theorem aPlus_s {s t : List Nat} (h : s.length + t.length ≤ 1000) : aPlus (.str s) (.str t) = some (.val (.str (s ++ t))) := by
  show Option.or none (Option.or (if s.length + t.length ≤ SLine then some (Hd.val (.str (s ++ t))) else none) none) = _
  rw [if_pos (sl_of h)]; rfl
theorem aPlus_l {s t : List D} (h : s.length + t.length ≤ 1000) : aPlus (.lst s) (.lst t) = some (.new (.lst (s ++ t))) := by
  show Option.or none (Option.or none (if s.length + t.length ≤ SLine then some (Hd.new (.lst (s ++ t))) else none)) = _
  rw [if_pos (sl_of h)]; rfl
@[simp] theorem aSub_i (i j : Int) : aSub (.int i) (.int j) = some (.val (.int (i - j))) := (rfl)
@[simp] theorem aNeg_i (i : Int) : aNeg (.int i) = some (.val (.int (-i))) := (rfl)
@[simp] theorem cLt_i (i j : Int) : cLt (.int i) (.int j) = some (.val (.bl (decide (i < j)))) := (rfl)
@[simp] theorem cLe_i (i j : Int) : cLe (.int i) (.int j) = some (.val (.bl (decide (i ≤ j)))) := (rfl)
@[simp] theorem cGt_i (i j : Int) : cGt (.int i) (.int j) = some (.val (.bl (decide (j < i)))) := (rfl)
@[simp] theorem cGe_i (i j : Int) : cGe (.int i) (.int j) = some (.val (.bl (decide (j ≤ i)))) := (rfl)
theorem aMod_i {i j : Int} (h : 0 < j) : aMod (.int i) (.int j) = some (.val (.int (i % j))) := if_pos h
theorem aFdiv_i {i j : Int} (h : 0 < j) (h2 : j < 1073741824) : aFdiv (.int i) (.int j) = some (.val (.int (i / j))) := if_pos ⟨h, h2⟩
@[simp] theorem cEq_s (s t : List Nat) : cEq (.str s) (.str t) = some (.val (.bl (s == t))) := (rfl)
@[simp] theorem cNe_s (s t : List Nat) : cNe (.str s) (.str t) = some (.val (.bl !(s == t))) := (rfl)
@[simp] theorem cEq_i (s t : Int) : cEq (.int s) (.int t) = some (.val (.bl (s == t))) := (rfl)
@[simp] theorem cNe_i (s t : Int) : cNe (.int s) (.int t) = some (.val (.bl !(s == t))) := (rfl)
@[simp] theorem cEq_b (s t : Bool) : cEq (.bl s) (.bl t) = some (.val (.bl (s == t))) := (rfl)
@[simp] theorem cNe_b (s t : Bool) : cNe (.bl s) (.bl t) = some (.val (.bl !(s == t))) := (rfl)
@[simp] theorem lenD_l (xs : List D) : lenD (.lst xs) = some (.val (.int xs.length)) := (rfl)
@[simp] theorem lenD_t (xs : List D) : lenD (.tup xs) = some (.val (.int xs.length)) := (rfl)
@[simp] theorem lenD_c (xs : List Int) : lenD (.scr xs) = some (.val (.int xs.length)) := (rfl)
theorem lenD_s {s : List Nat} (h : s.length ≤ 1000) : lenD (.str s) = some (.val (.int s.length)) := if_pos (sl_of h)
@[simp] theorem maxD_i (i j : Int) : maxD (.int i) (.int j) = some (.val (.int (max i j))) := by
  show some (Hd.val (.int (if j > i then j else i))) = _
  congr 3
  by_cases h : j > i
  · rw [if_pos h]; omega
  · rw [if_neg h]; omega
@[simp] theorem minD_i (i j : Int) : minD (.int i) (.int j) = some (.val (.int (min i j))) := by
  show some (Hd.val (.int (if j < i then j else i))) = _
  congr 3
  by_cases h : j < i
  · rw [if_pos h]; omega
  · rw [if_neg h]; omega
@[simp] theorem isiD_r (d : D) (a b : String) (h : tyD d = some a) (hb : isiT.contains b = true) : isiD d (.ty b) = some (.val (.bl (isiB a b))) := by
  unfold isiD; rw [h]; exact if_pos hb
end Vi

/-! ## ViRun2 -/
set_option Elab.async false
set_option linter.all false
set_option maxRecDepth 100000
set_option maxHeartbeats 400000
namespace Vi
open PySem L2
/-! ### more that simp runs -/
theorem sline_is : SLine = 1000000 := by unfold SLine; rfl
theorem sl_le {n : Nat} (h : n ≤ 1000000) : n ≤ SLine := by rw [sline_is]; exact h
theorem sl_less {n : Nat} (h : n < 1000000) : n < SLine := by rw [sline_is]; exact h
@[simp] theorem int1_fr (a : Int) : int1 (.fr (.int a)) = some a := (rfl)
def augO (i : Nat) (g : Int → Int → Int) (f : M Hd) (o : Option Int) (ρ : List S) : R Fl := match o with
  | some a => thnK (fun h ρ => thnK (fun d ρ => thnK (fun b ρ => .ok .nx (ρ.set i (.fr (.int (g a b))))) ((M.lift (int? d) ρ)) ⟨⟩) ((rd h ρ)) ⟨⟩) ((f ρ)) ⟨⟩
  | none => .bad
@[simp] theorem sAug_r (i : Nat) (g : Int → Int → Int) (f : M Hd) (ρ : List S) : sAug i g f ρ = augO i g f (int1 (at_ ρ i)) ρ := (rfl)
@[simp] theorem augO_s (i : Nat) (g : Int → Int → Int) (f : M Hd) (a : Int) (ρ : List S) : augO i g f (some a) ρ = thnK (fun h ρ => thnK (fun d ρ => thnK (fun b ρ => .ok .nx (ρ.set i (.fr (.int (g a b))))) ((M.lift (int? d) ρ)) ⟨⟩) ((rd h ρ)) ⟨⟩) ((f ρ)) ⟨⟩ := (rfl)
def tryX (i : Nat) (o : Option Bool) (k : Nat) (suite : Nat → M Fl) (ρ : List S) : R Fl := match o with
  | some true => if ρ.all noES = true then endTry i (suite k (ρ.set i (.fr (.cls 0)))) else .bad
  | some false => .exc k ρ
  | none => .bad
def tryR (i : Nat) (hd : Nat → Option Bool) (suite : Nat → M Fl) (r : R Fl) : R Fl := match r with
  | .exc k ρ => tryX i (hd k) k suite ρ
  | r => r
@[simp] theorem sTry_r (i : Nat) (hd : Nat → Option Bool) (body : M Fl) (suite : Nat → M Fl) (ρ : List S) : sTry i hd body suite ρ = tryR i hd suite (body ρ) := by
  unfold sTry tryR
  cases body ρ <;> rfl
@[simp] theorem tryR_ok (i : Nat) (hd : Nat → Option Bool) (suite : Nat → M Fl) (x : Fl) (ρ : List S) : tryR i hd suite (.ok x ρ) = .ok x ρ := (rfl)
@[simp] theorem tryR_exc (i : Nat) (hd : Nat → Option Bool) (suite : Nat → M Fl) (k : Nat) (ρ : List S) : tryR i hd suite (.exc k ρ) = tryX i (hd k) k suite ρ := (rfl)
@[simp] theorem tryX_t (i k : Nat) (suite : Nat → M Fl) (ρ : List S) : tryX i (some true) k suite ρ = if ρ.all noES = true then endTry i (suite k (ρ.set i (.fr (.cls 0)))) else .bad := (rfl)
@[simp] theorem endTry_nx (i : Nat) (ρ : List S) : endTry i (.ok .nx ρ) = if (ρ.set i .un).all noES = true then .ok .nx (ρ.set i .un) else .bad := (rfl)
def enO (h : Hd) (o : Option (List D)) (ρ : List S) : R (List D × Option Nat) := match o with
  | some xs => .ok (enumD 0 xs, lentOf h ρ) ρ
  | none => .bad
@[simp] theorem lstOf_l (xs : List D) : lstOf (.lst xs) = some xs := (rfl)
@[simp] theorem itEnum_r (f : M Hd) (ρ : List S) : itEnum f ρ = thnK (fun h ρ => thnK (fun d ρ => enO h (lstOf d) ρ) ((rd h ρ)) ⟨⟩) ((f ρ)) ⟨⟩ := by
  show (f >>= fun h => rd h >>= fun d => fun ρ => match lstOf d with
    | some xs => .ok (enumD 0 xs, lentOf h ρ) ρ
    | none => .bad) ρ = _
  simp only [bind_thn]
  exact thn_fun fun h ρ => thn_fun fun d ρ => by cases lstOf d <;> rfl
@[simp] theorem enO_s (h : Hd) (xs : List D) (ρ : List S) : enO h (some xs) ρ = .ok (enumD 0 xs, lentOf h ρ) ρ := (rfl)
def zipO (h : Hd) (o p : Option (List D)) (l : Option Nat) (ρ : List S) : R (List D × Option Nat) := match o, p, l with
  | some xs, some ys, none => .ok (zipD xs ys, lentOf h ρ) ρ
  | _, _, _ => .bad
@[simp] theorem itZip_r (f g : M Hd) (ρ : List S) : itZip f g ρ = thnK (fun h ρ => thnK (fun k ρ => thnK (fun d ρ => thnK (fun e ρ => zipO h (lstOf d) (lstOf e) (lentOf k ρ) ρ) ((rd k ρ)) ⟨⟩) ((rd h ρ)) ⟨⟩) ((g ρ)) ⟨⟩) ((f ρ)) ⟨⟩ := by
  show (f >>= fun h => g >>= fun k => rd h >>= fun d => rd k >>= fun e => zipEnd h k d e) ρ = _
  simp only [bind_thn]
  exact thn_fun fun h ρ => thn_fun fun k ρ => thn_fun fun d ρ => thn_fun fun e ρ => by
    unfold zipEnd zipO
    cases lstOf d <;> cases lstOf e <;> cases lentOf k ρ <;> rfl
@[simp] theorem zipO_s (h : Hd) (xs ys : List D) (ρ : List S) : zipO h (some xs) (some ys) none ρ = .ok (zipD xs ys, lentOf h ρ) ρ := (rfl)
/-! while -/
theorem while_s (c : M Bool) (b : M Fl) (m : Nat) (ρ : List S) : sWhile c b (m + 1) ρ = thnK (fun x ρ => bif x then thnK (fun y ρ => y.turn (sWhile c b m) ρ) ((b ρ)) ⟨⟩ else .ok .nx ρ) ((c ρ)) ⟨⟩ := by
  show (c >>= fun x => if x = true then b >>= fun y => match y with
      | .nx => sWhile c b m
      | .ct => sWhile c b m
      | .bk => pure .nx
      | .rt s => pure (.rt s)
    else pure .nx) ρ = _
  rw [bind_thn]
  refine thn_fun fun x ρ => ?_
  cases x with
  | false => rfl
  | true =>
    show (b >>= fun y => match y with
      | .nx => sWhile c b m
      | .ct => sWhile c b m
      | .bk => pure .nx
      | .rt s => pure (.rt s)) ρ = _
    rw [bind_thn]
    exact thn_fun fun y ρ => by cases y <;> rfl
/-! a loop as a fold -/
theorem loop_fold {α : Type} {tg : D → M Unit} {body : M Fl} (st : α → List S) (f : α → D → α) : ∀ (xs : List D) (a : α), (∀ (a : α) (d : D), d ∈ xs → thnK (fun _ ρ => body ρ) (tg d (st a)).nx ⟨⟩ = .ok .nx (st (f a d))) → loopS tg body xs (st a) = .ok .nx (st (xs.foldl f a))
  | [], a, _ => rfl
  | d :: ds, a, h => by
    rw [loop_cons]
    have e := h a d List.mem_cons_self
    cases q : (tg d (st a)).nx with
    | ok u ρ =>
      rw [q] at e
      simp only [thn_ok] at e ⊢
      rw [e]
      simp only [thn_ok, turn_nx]
      exact loop_fold st f ds (f a d) fun a d hd => h a d (List.mem_cons_of_mem _ hd)
    | exc k ρ => rw [q] at e; cases e
    | bad => rw [q] at e; cases e
/-! comprehensions of any names -/
theorem lcS_gen {tg : D → M Unit} {cond : M Bool} {elt : M Hd} {vs : List Nat} {ρw : List S} (c : D → Bool) (e : D → D) : ∀ (xs acc : List D), (∀ x ∈ xs, ∃ ρx, (tg x ρw).nx = .ok () ρx ∧ cond ρx = .ok (c x) ρx ∧ (c x = true → thnK (fun h ρ => fz h ρ) (elt ρx) ⟨⟩ = .ok (e x) ρx) ∧ wipeS ρx vs = ρw) → acc.length + xs.length ≤ SLine →
    lcS tg cond elt vs xs acc ρw = .ok (acc ++ (xs.filter c).map e) ρw
  | [], acc, h, hl => by show R.ok acc ρw = _; simp
  | x :: xs, acc, h, hl => by
    have step : lcS tg cond elt vs (x :: xs) acc ρw = ((tg x).nox >>= fun _ => cond.nox >>= fun b =>
      if b = true then elt.nox >>= fun h => fz h >>= fun x => guardM (decide (acc.length < SLine)) (wipeM vs (lcS tg cond elt vs xs (acc ++ [x])))
      else wipeM vs (lcS tg cond elt vs xs acc)) ρw := (rfl)
    obtain ⟨ρx, h1, h2, h3, h4⟩ := h x List.mem_cons_self
    have hl : acc.length + (xs.length + 1) ≤ SLine := hl
    have w : ∀ a, wipeM vs (lcS tg cond elt vs xs a) ρx = lcS tg cond elt vs xs a ρw := fun a => by
      show lcS tg cond elt vs xs a (wipeS ρx vs) = _
      rw [h4]
    rw [step]
    simp only [bind_thn, nox_r, h1, thn_ok, h2, nx_ok]
    cases ec : c x with
    | false =>
      rw [if_neg Bool.false_ne_true, w, lcS_gen c e xs acc (fun y hy => h y (List.mem_cons_of_mem _ hy)) (by omega), List.filter_cons_of_neg (by rw [ec]; exact Bool.false_ne_true)]
    | true =>
      have h3 := h3 ec
      rw [if_pos rfl]
      simp only [bind_thn, nox_r]
      cases q : elt ρx with
      | exc k ρ => rw [q] at h3; cases h3
      | bad => rw [q] at h3; cases h3
      | ok hh ρ2 =>
        rw [q] at h3
        simp only [nx_ok, thn_ok, bind_thn] at h3 ⊢
        rw [h3]
        simp only [thn_ok, guardM_r, decide_eq_true (show acc.length < SLine by omega), cond_true]
        rw [w, lcS_gen c e xs _ (fun y hy => h y (List.mem_cons_of_mem _ hy)) (by rw [List.length_append]; simp only [List.length_cons, List.length_nil]; omega), List.filter_cons_of_pos ec]
        simp
theorem eLc_gen {it : M (List D × Option Nat)} {tg : D → M Unit} {cond : M Bool} {elt : M Hd} {vs : List Nat} {ρ : List S} {xs : List D} (c : D → Bool) (e : D → D) (hi : it ρ = .ok (xs, none) ρ) (ho : vs.all (fun v => (at_ ρ v).notOwn) = true) (hb : back (wipeS ρ vs) ρ vs = ρ)
    (h : ∀ x ∈ xs, ∃ ρx, (tg x (wipeS ρ vs)).nx = .ok () ρx ∧ cond ρx = .ok (c x) ρx ∧ (c x = true → thnK (fun h ρ => fz h ρ) (elt ρx) ⟨⟩ = .ok (e x) ρx) ∧ wipeS ρx vs = wipeS ρ vs) (hl : xs.length ≤ SLine) :
    eLc it tg cond elt vs ρ = .ok (.new (.lst ((xs.filter c).map e))) ρ := by
  show (it >>= fun p => lent p.2 (lcF vs (lcS tg cond elt vs p.1 []))) ρ = _
  simp only [bind_thn, hi, thn_ok]
  show (lcF vs (lcS tg cond elt vs xs []) ρ).back none = _
  have e1 : lcS tg cond elt vs xs [] (wipeS ρ vs) = .ok ((xs.filter c).map e) (wipeS ρ vs) := by
    have := lcS_gen (tg := tg) (cond := cond) (elt := elt) (vs := vs) (ρw := wipeS ρ vs) c e xs [] h (by simpa using hl)
    rw [this, List.nil_append]
  have e2 : lcF vs (lcS tg cond elt vs xs []) ρ = .ok (.new (.lst ((xs.filter c).map e))) ρ := by
    show (if vs.all (fun v => (at_ ρ v).notOwn) = true then
      match lcS tg cond elt vs xs [] (wipeS ρ vs) with
      | .ok ds ρ' => R.ok (Hd.new (.lst ds)) (back ρ' ρ vs)
      | _ => .bad else .bad) = _
    rw [if_pos ho, e1]
    show R.ok _ (back (wipeS ρ vs) ρ vs) = _
    rw [hb]
  rw [e2]; rfl
theorem eLc_gown {it : M (List D × Option Nat)} {tg : D → M Unit} {cond : M Bool} {elt : M Hd} {vs : List Nat} {ρ : List S} {xs : List D} {i : Nat} {d : D} (c : D → Bool) (e : D → D) (hi : it ρ = .ok (xs, some i) ρ) (hd : at_ ρ i = .own d) (hil : i < ρ.length) (ho : vs.all (fun v => (at_ (ρ.set i (.bor d)) v).notOwn) = true)
    (hb : back (wipeS (ρ.set i (.bor d)) vs) (ρ.set i (.bor d)) vs = ρ.set i (.bor d))
    (h : ∀ x ∈ xs, ∃ ρx, (tg x (wipeS (ρ.set i (.bor d)) vs)).nx = .ok () ρx ∧ cond ρx = .ok (c x) ρx ∧ (c x = true → thnK (fun h ρ => fz h ρ) (elt ρx) ⟨⟩ = .ok (e x) ρx) ∧ wipeS ρx vs = wipeS (ρ.set i (.bor d)) vs) (hl : xs.length ≤ SLine) :
    eLc it tg cond elt vs ρ = .ok (.new (.lst ((xs.filter c).map e))) ρ := by
  have key := eLc_gen (it := fun ρ => .ok (xs, none) ρ) (tg := tg) (vs := vs) (cond := cond) (elt := elt) (ρ := ρ.set i (.bor d)) c e rfl ho hb h hl
  have key : (lcF vs (lcS tg cond elt vs xs []) (ρ.set i (.bor d))).back none = .ok (.new (.lst ((xs.filter c).map e))) (ρ.set i (.bor d)) := key
  have key : lcF vs (lcS tg cond elt vs xs []) (ρ.set i (.bor d)) = .ok (.new (.lst ((xs.filter c).map e))) (ρ.set i (.bor d)) := by
    cases q : lcF vs (lcS tg cond elt vs xs []) (ρ.set i (.bor d)) with
    | ok a ρ' => rw [q] at key; exact key
    | exc k ρ' => rw [q] at key; cases key
    | bad => rw [q] at key; cases key
  show (it >>= fun p => lent p.2 (lcF vs (lcS tg cond elt vs p.1 []))) ρ = _
  simp only [bind_thn, hi, thn_ok]
  show (match (at_ ρ i).lend i ρ with | .ok _ ρ' => (lcF vs (lcS tg cond elt vs xs []) ρ').back (some i) | _ => .bad) = _
  rw [hd]
  show (lcF vs (lcS tg cond elt vs xs []) (ρ.set i (.bor d))).back (some i) = _
  rw [key]
  show (match (at_ (ρ.set i (.bor d)) i).unlend i (ρ.set i (.bor d)) with | .ok _ ρ' => R.ok (Hd.new (.lst ((xs.filter c).map e))) ρ' | _ => .bad) = _
  have e3 : at_ (ρ.set i (.bor d)) i = .bor d := by unfold at_; rw [List.getElem?_set_self hil]; rfl
  rw [e3]
  show R.ok _ ((ρ.set i (.bor d)).set i (.own d)) = _
  rw [List.set_set, set_self hd hil]
/-! data that equals itself -/
mutual
theorem eqv_self : ∀ d : D, okD d = true → PyData.eqv (toPy d) (toPy d) = true
  | .non, h => rfl
  | .bl b, h => by show (b == b) = true; simp
  | .int i, h => by show (i == i) = true; simp
  | .str s, h => by show ((⟨s.toArray⟩ : Str) == ⟨s.toArray⟩) = true; simp
  | .lst xs, h => eqvs_self xs h
  | .tup xs, h => eqvs_self xs h
  | .dic ks xs, h => by cases (show false = true from h)
  | .obj k ns xs, h => by cases (show false = true from h)
  | .ty t, h => by cases (show false = true from h)
  | .cls k, h => by cases (show false = true from h)
  | .scr ns, h => by cases (show false = true from h)
theorem eqvs_self : ∀ ds : List D, okDs ds = true → PyData.eqvAll (toPys ds) (toPys ds) = true
  | [], h => rfl
  | d :: ds, h => by
    have h : (okD d && okDs ds) = true := h
    rw [Bool.and_eq_true] at h
    show (PyData.eqv (toPy d) (toPy d) && PyData.eqvAll (toPys ds) (toPys ds)) = true
    rw [eqv_self d h.1, eqvs_self ds h.2]; rfl
end
theorem eqG_self {d : D} (h : okD d = true) (h2 : depD d ≤ 60) : eqG d d = some true := by
  unfold eqG
  split
  · simp_all
  · simp_all
  · simp_all
  · rw [if_pos ⟨h, h, h2, h2⟩]
    exact congrArg some (eqv_self d h)
theorem cEq_self {d : D} (h : okD d = true) (h2 : depD d ≤ 60) : cEq d d = some (.val (.bl true)) := by unfold cEq; rw [eqG_self h h2]; rfl
theorem cNe_self {d : D} (h : okD d = true) (h2 : depD d ≤ 60) : cNe d d = some (.val (.bl false)) := by unfold cNe; rw [eqG_self h h2]; rfl
theorem okDs_all : ∀ {ds : List D}, (∀ d ∈ ds, okD d = true) → okDs ds = true
  | [], _ => rfl
  | d :: ds, h => by
    show (okD d && okDs ds) = true
    rw [h d List.mem_cons_self, okDs_all fun e he => h e (List.mem_cons_of_mem _ he)]; rfl
theorem depDs_all {k : Nat} : ∀ {ds : List D}, (∀ d ∈ ds, depD d ≤ k) → depDs ds ≤ k
  | [], _ => Nat.zero_le _
  | d :: ds, h => by
    show max (depD d) (depDs ds) ≤ k
    have h1 := h d List.mem_cons_self
    have h2 := depDs_all fun e he => h e (List.mem_cons_of_mem _ he)
    omega
end Vi

/-! ## D08 -/
set_option Elab.async false
set_option linter.all false
set_option maxRecDepth 100000
set_option maxHeartbeats 400000
namespace G
open PySem L2 Vi
/-! ### what the defs compute -/
abbrev objL : List Nat := [7, 8]
abbrev osubL : List (Nat × Nat × Bool) := [(7, 7, true), (8, 7, false)]
def B_is_whole : M Fl :=
  (sRet (eAndT (eCB (f2 isiD) (eCons (eVar 0) (eCons (eC (.ty "int")) eNil))) (eNotT (eCB (f2 isiD) (eCons (eVar 0) (eCons (eC (.ty "bool")) eNil))))))
def F_is_whole : List D → Out := runF 1 B_is_whole
def B_is_letters : M Fl :=
  (sSeq (sIf (eOr (eNot (eTest (eCB (f2 isiD) (eCons (eVar 0) (eCons (eC (.ty "str")) eNil))))) (eNot (eTest (eChain cLe cLe (eVar 1) (eCB (f1 lenD) (eCons (eVar 0) eNil)) (eVar 2)))))
    (sRet (eC (.bl false)))
    sNx)
  (sRet (eCB (f1 allD) (eCons (eLc (itAny (eVar 0)) (gN 3) tYesM (eOp cIn (eVar 3) (eC (.str [97, 98, 99, 100, 101, 102, 103, 104, 105, 106, 107, 108, 109, 110, 111, 112, 113, 114, 115, 116, 117, 118, 119, 120, 121, 122]))) [3]) eNil))))
def F_is_letters : List D → Out := runF 4 B_is_letters
def B_round_of : M Fl :=
  (sSeq (sSet 2 (eCB (f1 dictD) (eCons (eVar 1) eNil)))
  (sRet (eJoin (eC (.str [])) (eLc (itAny (eVar 0)) (gN 3) tYesM (eGet2 (eVar 2) (eVar 3) (eVar 3)) [3]))))
def F_round_of : List D → Out := runF 4 B_round_of
def B_vanishing_by : M Fl :=
  (sSeq (sPar [1, 2] (pCons eDNew (pCons (eC (.int 0)) eNil)))
  (sSeq (sSet 3 (eLc (itAny (eVar 0)) (gT 2 (gsCons (gN 4) (gsCons (gN 5) gsNil))) (eTest (eOp cEq (eVar 5) (eC (.str [])))) (eVar 4) [4, 5]))
  (sSeq (sWhile (eTest (eOp cNe (eVar 3) (eLst dNil)))
    (sSeq (sAug 2 (fun i j => i + j) (eC (.int 1)))
    (sSeq (sFor (itAny (eVar 3)) (gN 4)
      (sSetK 1 (eVar 4) (eVar 2)))
    (sSet 3 (eLc (itAny (eVar 0)) (gT 2 (gsCons (gN 6) (gsCons (gN 5) gsNil))) (eAnd (eTest (eOp cNotIn (eVar 6) (eVar 1))) (eTest (eCB (f1 allD) (eCons (eLc (itAny (eVar 5)) (gN 7) tYesM (eOp cIn (eVar 7) (eVar 1)) [7]) eNil)))) (eVar 6) [6, 5])))) 100)
  (sRet (eVar 1)))))
def F_vanishing_by : List D → Out := runF 8 B_vanishing_by
def B_sizes_of : M Fl :=
  (sSeq (sSet 2 (eCB (f1 dictD) (eCons (eVar 0) eNil)))
  (sSeq (sSet 3 (eLst (dCons (eCB (f1 dictD) (eCons (eLc (itAny (eC (.str [97, 98, 99, 100, 101, 102, 103, 104, 105, 106, 107, 108, 109, 110, 111, 112, 113, 114, 115, 116, 117, 118, 119, 120, 121, 122]))) (gN 6) tYesM (eTup (dCons (eVar 6) (dCons (eC (.int 1)) dNil))) [6]) eNil)) dNil)))
  (sSeq (sFor (itRngN 1 (eCons (eVar 1) eNil)) (gN 4)
    (sSeq (sSet 5 (eOp aIx (eVar 3) (eUn aNeg (eC (.int 1)))))
    (sExpr (eAppend 3 (eCB (f1 dictD) (eCons (eLc (itAny (eC (.str [97, 98, 99, 100, 101, 102, 103, 104, 105, 106, 107, 108, 109, 110, 111, 112, 113, 114, 115, 116, 117, 118, 119, 120, 121, 122]))) (gN 6) tYesM (eTup (dCons (eVar 6) (dCons (eCB (f1 sumD) (eCons (eLc (itAny (eGet2 (eVar 2) (eVar 6) (eVar 6))) (gN 7) tYesM (eOp aIx (eVar 5) (eVar 7)) [7]) eNil)) dNil))) [6]) eNil))))))
  (sRet (eVar 3)))))
def F_sizes_of : List D → Out := runF 8 B_sizes_of
def B__law_cell_at : M Fl :=
  (sSeq (sIf (eTest (eOp cLt (eVar 1) (eCB (f1 lenD) (eCons (eVar 0) eNil))))
    (sRet (eOp aIx (eVar 0) (eVar 1)))
    sNx)
  (sRet (eC (.int 0))))
def F__law_cell_at : List D → Out := runF 2 B__law_cell_at
def B__law_draw : M Fl :=
  (sSeq (sSet 3 (eTup (dCons (eC (.int 1000003)) (dCons (eC (.int 1000033)) (dCons (eC (.int 1000037)) (dCons (eC (.int 1000039)) (dCons (eC (.int 1000081)) (dCons (eC (.int 1000099)) (dCons (eC (.int 1000117)) (dCons (eC (.int 1000121)) (dCons (eC (.int 1000133)) (dCons (eC (.int 1000151)) (dCons (eC (.int 1000159)) (dCons (eC (.int 1000171)) (dCons (eC (.int 1000183)) (dCons (eC (.int 1000187)) (dCons (eC (.int 1000193)) (dCons (eC (.int 1000199)) dNil))))))))))))))))))
  (sRet (eOp aMod (eOp aMod (eOp aPlus (eOp aTimes (eVar 0) (eC (.int 48271))) (eOp aTimes (eVar 1) (eC (.int 69621)))) (eOp aIx (eVar 3) (eOp aMod (eVar 1) (eC (.int 16))))) (eVar 2))))
def F__law_draw : List D → Out := runF 4 B__law_draw
def B_check_text : M Fl :=
  (sIf (eNot (eTest (eCall 3 F_is_letters (eCons (eVar 0) (eCons (eC (.int 0)) (eCons (eVar 1) eNil))))))
    (sRaise 2)
    sNx)
def F_check_text : List D → Out := runF 2 B_check_text
def B_is_rule : M Fl :=
  (sSeq (sIf (eOr (eNot (eTest (eCB (f2 isiD) (eCons (eVar 0) (eCons (eC (.ty "tuple")) eNil))))) (eTest (eOp cNe (eCB (f1 lenD) (eCons (eVar 0) eNil)) (eC (.int 2)))))
    (sRet (eC (.bl false)))
    sNx)
  (sRet (eAndT (eCall 3 F_is_letters (eCons (eOp aIx (eVar 0) (eC (.int 0))) (eCons (eC (.int 1)) (eCons (eC (.int 1)) eNil)))) (eCall 3 F_is_letters (eCons (eOp aIx (eVar 0) (eC (.int 1))) (eCons (eC (.int 0)) (eCons (eC (.int (3))) eNil)))))))
def F_is_rule : List D → Out := runF 1 B_is_rule
def B_lasts : M Fl :=
  (sSeq (sSet 2 (eCall 1 F_vanishing_by (eCons (eVar 0) eNil)))
  (sRet (eCB (f1 lenD) (eCons (eLc (itAny (eVar 1)) (gN 3) (eTest (eOp cNotIn (eVar 3) (eVar 2))) (eVar 3) [3]) eNil))))
def F_lasts : List D → Out := runF 4 B_lasts
def B_reached : M Fl :=
  (sSeq (sSet 2 (eUn sortSetA (eVar 0)))
  (sSeq (sSet 3 (eVar 2))
  (sSeq (sWhile (eTest (eOp cNe (eVar 3) (eLst dNil)))
    (sSeq (sSet 4 (eCall 2 F_round_of (eCons (eJoin (eC (.str [])) (eVar 3)) (eCons (eVar 1) eNil))))
    (sSeq (sSet 3 (eUn sortSetA (eLc (itAny (eVar 4)) (gN 5) (eTest (eOp cNotIn (eVar 5) (eVar 2))) (eVar 5) [5])))
    (sSet 2 (eCB (f1 sortedD) (eCons (eOp aPlus (eVar 2) (eVar 3)) eNil))))) 100)
  (sRet (eVar 2)))))
def F_reached : List D → Out := runF 6 B_reached
def B_round_again : M Fl :=
  (sSeq (sSet 2 (eLst (dCons (eVar 0) dNil)))
  (sWhile (eTest (eC (.bl true)))
    (sSeq (sSet 0 (eCall 2 F_round_of (eCons (eVar 0) (eCons (eVar 1) eNil))))
    (sSeq (sIf (eTest (eOp cIn (eVar 0) (eVar 2)))
      (sRet (eTup (dCons (eIdxL (eVar 2) (eVar 0)) (dCons (eOp aSub (eCB (f1 lenD) (eCons (eVar 2) eNil)) (eIdxL (eVar 2) (eVar 0))) dNil))))
      sNx)
    (sExpr (eAppend 2 (eVar 0))))) 100))
def F_round_again : List D → Out := runF 3 B_round_again
def B__law_value : M Fl :=
  (sSeq (sIf (eTest (eOp cGe (eVar 0) (eOp aPow (eC (.int 10)) (eC (.int 18)))))
    (sRet (eOp aShr (eOp aSub (eVar 0) (eOp aPow (eC (.int 10)) (eC (.int 18)))) (eOp aTimes (eC (.int 3)) (eVar 1))))
    sNx)
  (sSeq (sSet 2 (eCall 3 F__law_draw (eCons (eOp aTimes (eOp aPlus (eVar 0) (eOp aTimes (eC (.int 977)) (eVar 1))) (eOp aPlus (eOp aPlus (eVar 0) (eOp aTimes (eC (.int 31)) (eVar 1))) (eC (.int 5)))) (eCons (eOp aPlus (eOp aMod (eVar 1) (eC (.int 9))) (eC (.int 1))) (eCons (eC (.int 999983)) eNil)))))
  (sRet (eOp aPlus (eOp aTimes (eVar 2) (eC (.int 1000003))) (eCall 3 F__law_draw (eCons (eOp aPlus (eOp aTimes (eOp aPlus (eVar 0) (eOp aTimes (eC (.int 31)) (eVar 1))) (eOp aPlus (eVar 0) (eC (.int 7)))) (eOp aTimes (eC (.int 977)) (eVar 1))) (eCons (eOp aPlus (eOp aMod (eVar 1) (eC (.int 7))) (eC (.int 2))) (eCons (eC (.int 1000003)) eNil))))))))
def F__law_value : List D → Out := runF 3 B__law_value
def B_check_rules : M Fl :=
  (sSeq (sIf (eOr (eNot (eTest (eCB (f2 isiD) (eCons (eVar 0) (eCons (eC (.ty "list")) eNil))))) (eOr (eTest (eOp cGt (eCB (f1 lenD) (eCons (eVar 0) eNil)) (eC (.int (4))))) (eNot (eTest (eCB (f1 allD) (eCons (eLc (itAny (eVar 0)) (gN 3) tYesM (eCall 1 F_is_rule (eCons (eVar 3) eNil)) [3]) eNil))))))
    (sRaise 4)
    sNx)
  (sIf (eTest (eCB (f1 anyD) (eCons (eLc (itZip (eVar 0) (eSl (eVar 0) (oSome (eC (.int 1))) oNone)) (gT 2 (gsCons (gN 1) (gsCons (gN 2) gsNil))) tYesM (eOp cGe (eOp aIx (eVar 1) (eC (.int 0))) (eOp aIx (eVar 2) (eC (.int 0)))) [1, 2]) eNil)))
    (sRaise 4)
    sNx))
def F_check_rules : List D → Out := runF 4 B_check_rules
def B_makes_more : M Fl :=
  (sSeq (sSet 3 (eVar 0))
  (sSeq (sFor (itRngN 1 (eCons (eVar 2) eNil)) (gN 4)
    (sSet 3 (eCall 2 F_round_of (eCons (eVar 3) (eCons (eVar 1) eNil)))))
  (sRet (eAndT (eOp cIn (eVar 0) (eVar 3)) (eAndT (eOp cEq (eCall 2 F_lasts (eCons (eVar 1) (eCons (eVar 0) eNil))) (eC (.int 1))) (eOp cGt (eCall 2 F_lasts (eCons (eVar 1) (eCons (eVar 3) eNil))) (eC (.int 1))))))))
def F_makes_more : List D → Out := runF 5 B_makes_more
def B__law_letter : M Fl :=
  (sSeq (sSet 3 (eCall 2 F__law_value (eCons (eCall 2 F__law_cell_at (eCons (eVar 0) (eCons (eVar 1) eNil))) (eCons (eC (.int 9)) eNil))))
  (sSeq (sSet 4 (eOp aIx (eTup (dCons (eC (.int 2)) (dCons (eC (.int 3)) (dCons (eC (.int 5)) (dCons (eC (.int 26)) dNil))))) (eOp aMod (eVar 3) (eC (.int 4)))))
  (sSeq (sSet 5 (eOp aPlus (eOp aTimes (eOp aMod (eVar 2) (eVar 4)) (eOp aPlus (eC (.int 1)) (eOp aMod (eOp aFdiv (eVar 3) (eC (.int 4))) (eC (.int 5))))) (eOp aFdiv (eVar 3) (eC (.int 20)))))
  (sRet (eOp aIx (eC (.str [97, 98, 99, 100, 101, 102, 103, 104, 105, 106, 107, 108, 109, 110, 111, 112, 113, 114, 115, 116, 117, 118, 119, 120, 121, 122])) (eOp aMod (eVar 5) (eC (.int 26))))))))
def F__law_letter : List D → Out := runF 6 B__law_letter
def B_growing : M Fl :=
  (sSeq (sFor (itAny (eCall 2 F_reached (eCons (eVar 0) (eCons (eVar 1) eNil)))) (gN 2)
    (sFor (itRngN 2 (eCons (eC (.int 1)) (eCons (eOp aPlus (eC (.int (4))) (eC (.int 1))) eNil))) (gN 3)
      (sIf (eAnd (eTest (eOp cIn (eVar 2) (eLc (itAny (eVar 1)) (gN 4) tYesM (eOp aIx (eVar 4) (eC (.int 0))) [4]))) (eTest (eCall 3 F_makes_more (eCons (eVar 2) (eCons (eVar 1) (eCons (eVar 3) eNil))))))
        (sRet (eTup (dCons (eVar 2) (dCons (eVar 3) dNil))))
        sNx)))
  (sRet (eC .non)))
def F_growing : List D → Out := runF 5 B_growing
def B_check_far : M Fl :=
  (sSeq (sExpr (eCall 2 F_check_text (eCons (eVar 0) (eCons (eC (.int (30))) eNil))))
  (sSeq (sExpr (eCall 1 F_check_rules (eCons (eVar 1) eNil)))
  (sIf (eOr (eNot (eTest (eCall 1 F_is_whole (eCons (eVar 2) eNil)))) (eNot (eTest (eChain cLe cLe (eC (.int 0)) (eVar 2) (eC (.int (40)))))))
    (sRaise 5)
    sNx)))
def F_check_far : List D → Out := runF 3 B_check_far
def B_gone_round : M Fl :=
  (sSeq (sExpr (eCall 2 F_check_text (eCons (eVar 0) (eCons (eC (.int (30))) eNil))))
  (sSeq (sExpr (eCall 1 F_check_rules (eCons (eVar 1) eNil)))
  (sRet (eCall 2 F_round_of (eCons (eVar 0) (eCons (eVar 1) eNil))))))
def F_gone_round : List D → Out := runF 2 B_gone_round
def B__law_text : M Fl :=
  (sSeq (sPar [4, 5] (pCons (eC (.str [])) (pCons (eCall 2 F__law_cell_at (eCons (eVar 0) (eCons (eVar 1) eNil))) eNil)))
  (sSeq (sFor (itRngN 1 (eCons (eOp aMod (eCall 2 F__law_value (eCons (eVar 5) (eCons (eVar 3) eNil))) (eOp aPlus (eVar 2) (eC (.int 1)))) eNil)) (gN 6)
    (sSeq (sSet 7 (eOp aFdiv (eCall 2 F__law_value (eCons (eOp aPlus (eCall 2 F__law_cell_at (eCons (eVar 0) (eCons (eOp aPlus (eVar 1) (eOp aMod (eVar 6) (eC (.int 5)))) eNil))) (eOp aTimes (eC (.int 13)) (eVar 6))) (eCons (eOp aMod (eOp aPlus (eVar 3) (eVar 6)) (eC (.int 7))) eNil))) (eC (.int 3))))
    (sSet 4 (eOp aPlus (eVar 4) (eCall 3 F__law_letter (eCons (eVar 0) (eCons (eVar 1) (eCons (eVar 7) eNil))))))))
  (sRet (eVar 4))))
def F__law_text : List D → Out := runF 8 B__law_text
def B__law_rules : M Fl :=
  (sSeq (sPar [2, 3] (pCons eDNew (pCons (eCall 2 F__law_value (eCons (eCall 2 F__law_cell_at (eCons (eVar 0) (eCons (eVar 1) eNil))) (eCons (eC (.int 10)) eNil))) eNil)))
  (sSeq (sFor (itRngN 1 (eCons (eOp aMod (eVar 3) (eC (.int 5))) eNil)) (gN 4)
    (sSeq (sSet 5 (eOp aFdiv (eCall 2 F__law_value (eCons (eOp aPlus (eCall 2 F__law_cell_at (eCons (eVar 0) (eCons (eOp aPlus (eVar 1) (eOp aMod (eVar 4) (eC (.int 4)))) eNil))) (eOp aTimes (eC (.int 29)) (eVar 4))) (eCons (eC (.int 3)) eNil))) (eC (.int 3))))
    (sSeq (sSet 6 (eC (.str [])))
    (sSeq (sFor (itRngN 1 (eCons (eOp aMod (eOp aFdiv (eVar 5) (eC (.int 7))) (eOp aIx (eTup (dCons (eC (.int 4)) (dCons (eC (.int 3)) (dCons (eC (.int 2)) dNil)))) (eOp aMod (eOp aFdiv (eVar 3) (eC (.int 5))) (eC (.int 3))))) eNil)) (gN 7)
      (sSet 6 (eOp aPlus (eVar 6) (eCall 3 F__law_letter (eCons (eVar 0) (eCons (eVar 1) (eCons (eOp aFdiv (eVar 5) (eOp aTimes (eC (.int 31)) (eOp aPlus (eOp aTimes (eC (.int 3)) (eVar 7)) (eC (.int 1))))) eNil)))))))
    (sSetK 2 (eCall 3 F__law_letter (eCons (eVar 0) (eCons (eVar 1) (eCons (eVar 5) eNil)))) (eVar 6))))))
  (sRet (eCB (f1 sortedD) (eCons (ePairs 2) eNil)))))
def F__law_rules : List D → Out := runF 9 B__law_rules
def B_Grows_shows : M Fl :=
  (sSeq (sIf (eOr (eNot (eTest (eChain cLe cLe (eC (.int 1)) (eUn (fldD [8] "rounds") (eVar 0)) (eC (.int (4)))))) (eTest (eOp cNotIn (eUn (fldD [8] "letter") (eVar 0)) (eCall 2 F_reached (eCons (eVar 1) (eCons (eVar 2) eNil))))))
    (sRet (eC (.bl false)))
    sNx)
  (sRet (eCall 3 F_makes_more (eCons (eUn (fldD [8] "letter") (eVar 0)) (eCons (eVar 2) (eCons (eUn (fldD [8] "rounds") (eVar 0)) eNil))))))
def F_Grows_shows : List D → Out := runF 3 B_Grows_shows
def B_long_behind : M Fl :=
  (sSeq (sExpr (eCall 3 F_check_far (eCons (eVar 0) (eCons (eVar 1) (eCons (eVar 2) eNil)))))
  (sSeq (sSet 3 (eOp aIx (eCall 2 F_sizes_of (eCons (eVar 1) (eCons (eVar 2) eNil))) (eVar 2)))
  (sRet (eCB (f1 sumD) (eCons (eLc (itAny (eVar 0)) (gN 4) tYesM (eOp aIx (eVar 3) (eVar 4)) [4]) eNil)))))
def F_long_behind : List D → Out := runF 5 B_long_behind
def B_letter_at : M Fl :=
  (sSeq (sExpr (eCall 3 F_check_far (eCons (eVar 0) (eCons (eVar 1) (eCons (eVar 2) eNil)))))
  (sSeq (sIf (eOr (eNot (eTest (eCall 1 F_is_whole (eCons (eVar 3) eNil)))) (eTest (eOp cLt (eVar 3) (eC (.int 0)))))
    (sRaise 3)
    sNx)
  (sSeq (sPar [4, 5, 6] (pCons (eCB (f1 dictD) (eCons (eVar 1) eNil)) (pCons (eCall 2 F_sizes_of (eCons (eVar 1) (eCons (eVar 2) eNil))) (pCons (eVar 3) eNil))))
  (sSeq (sFor (itRngN 3 (eCons (eVar 2) (eCons (eUn aNeg (eC (.int 1))) (eCons (eUn aNeg (eC (.int 1))) eNil)))) (gN 7)
    (sSeq (sSet 8 (eC .non))
    (sSeq (sFor (itAny (eVar 0)) (gN 9)
      (sIf (eAnd (eTest (eOp cIsN (eVar 8) (eC .non))) (eTest (eOp cLt (eVar 6) (eOp aIx (eOp aIx (eVar 5) (eVar 7)) (eVar 9)))))
        (sSet 8 (eVar 9))
        (sIf (eTest (eOp cIsN (eVar 8) (eC .non)))
          (sAug 6 (fun i j => i - j) (eOp aIx (eOp aIx (eVar 5) (eVar 7)) (eVar 9)))
          sNx)))
    (sSeq (sIf (eOr (eTest (eOp cIsN (eVar 8) (eC .non))) (eTest (eOp cEq (eVar 7) (eC (.int 0)))))
      (sRet (eVar 8))
      sNx)
    (sSet 0 (eGet2 (eVar 4) (eVar 8) (eVar 8)))))))
  (sRet (eC .non))))))
def F_letter_at : List D → Out := runF 10 B_letter_at
def B_judged : M Fl :=
  (sSeq (sExpr (eCall 2 F_check_text (eCons (eVar 0) (eCons (eC (.int (30))) eNil))))
  (sSeq (sExpr (eCall 1 F_check_rules (eCons (eVar 1) eNil)))
  (sSeq (sSet 2 (eCall 2 F_growing (eCons (eVar 0) (eCons (eVar 1) eNil))))
  (sSeq (sIf (eTest (eOp cNotN (eVar 2) (eC .non)))
    (sRet (eMk 8 ["letter", "rounds"] (dCons (eOp aIx (eVar 2) (eC (.int 0))) (dCons (eOp aIx (eVar 2) (eC (.int 1))) dNil))))
    sNx)
  (sSeq (sUnp (gT 2 (gsCons (gN 3) (gsCons (gN 4) gsNil))) (eCall 2 F_round_again (eCons (eVar 0) (eCons (eVar 1) eNil))))
  (sRet (eMk 7 ["first", "many"] (dCons (eVar 3) (dCons (eVar 4) dNil)))))))))
def F_judged : List D → Out := runF 5 B_judged
def B_Round_shows : M Fl :=
  (sRet (eAndT (eOp cIsN (eCall 2 F_growing (eCons (eVar 1) (eCons (eVar 2) eNil))) (eC .non)) (eOp cEq (eCall 2 F_round_again (eCons (eVar 1) (eCons (eVar 2) eNil))) (eTup (dCons (eUn (fldD [7] "first") (eVar 0)) (dCons (eUn (fldD [7] "many") (eVar 0)) dNil))))))
def F_Round_shows : List D → Out := runF 3 B_Round_shows
def B_law : M Fl :=
  (sSeq (sSet 0 (eSl (eVar 0) oNone (oSome (eC (.int 63)))))
  (sSeq (sFor (itRngN 3 (eCons (eC (.int 0)) (eCons (eCB (f2 maxD) (eCons (eC (.int 1)) (eCons (eCB (f2 minD) (eCons (eC (.int 6)) (eCons (eCB (f1 lenD) (eCons (eVar 0) eNil)) eNil))) eNil))) (eCons (eC (.int 3)) eNil)))) (gN 1)
    (sSeq (sPar [2, 3, 4] (pCons (eCall 4 F__law_text (eCons (eVar 0) (eCons (eVar 1) (eCons (eC (.int 15)) (eCons (eC (.int 1)) eNil))))) (pCons (eCall 4 F__law_text (eCons (eVar 0) (eCons (eOp aPlus (eVar 1) (eC (.int 1))) (eCons (eC (.int 15)) (eCons (eC (.int 2)) eNil))))) (pCons (eCall 2 F__law_rules (eCons (eVar 0) (eCons (eVar 1) eNil))) eNil))))
    (sSeq (sSet 5 (eCall 2 F__law_value (eCons (eCall 2 F__law_cell_at (eCons (eVar 0) (eCons (eVar 1) eNil))) (eCons (eC (.int 7)) eNil))))
    (sSeq (sSet 6 (eOp aMod (eVar 5) (eC (.int 41))))
    (sSeq (sIf (eTest (eOp cNe (eCall 2 F_gone_round (eCons (eOp aPlus (eVar 2) (eVar 3)) (eCons (eVar 4) eNil))) (eOp aPlus (eCall 2 F_gone_round (eCons (eVar 2) (eCons (eVar 4) eNil))) (eCall 2 F_gone_round (eCons (eVar 3) (eCons (eVar 4) eNil))))))
      (sRet (eC (.bl false)))
      sNx)
    (sSeq (sPar [7, 8] (pCons (eCall 3 F_long_behind (eCons (eVar 2) (eCons (eVar 4) (eCons (eVar 6) eNil)))) (pCons (eCall 3 F_long_behind (eCons (eOp aPlus (eVar 2) (eVar 3)) (eCons (eVar 4) (eCons (eVar 6) eNil)))) eNil)))
    (sSeq (sIf (eTest (eOp cNe (eVar 8) (eOp aPlus (eVar 7) (eCall 3 F_long_behind (eCons (eVar 3) (eCons (eVar 4) (eCons (eVar 6) eNil)))))))
      (sRet (eC (.bl false)))
      sNx)
    (sSeq (sSet 9 (eOp aMod (eOp aFdiv (eVar 5) (eC (.int 41))) (eOp aPlus (eVar 8) (eC (.int 1)))))
    (sSeq (sSet 10 (eCall 4 F_letter_at (eCons (eVar 2) (eCons (eVar 4) (eCons (eVar 6) (eCons (eVar 9) eNil))))))
    (sSeq (sIf (eTest (eOp cGe (eVar 9) (eVar 7)))
      (sSet 10 (eCall 4 F_letter_at (eCons (eVar 3) (eCons (eVar 4) (eCons (eVar 6) (eCons (eOp aSub (eVar 9) (eVar 7)) eNil))))))
      sNx)
    (sSeq (sIf (eTest (eOp cNe (eCall 4 F_letter_at (eCons (eOp aPlus (eVar 2) (eVar 3)) (eCons (eVar 4) (eCons (eVar 6) (eCons (eVar 9) eNil))))) (eVar 10)))
      (sRet (eC (.bl false)))
      sNx)
    (sSeq (sSet 11 (eCall 2 F_gone_round (eCons (eVar 2) (eCons (eVar 4) eNil))))
    (sSeq (sIf (eAnd (eTest (eOp cLe (eCB (f1 lenD) (eCons (eVar 11) eNil)) (eC (.int 30)))) (eTest (eOp cLt (eVar 6) (eC (.int 40)))))
      (sSeq (sIf (eTest (eOp cNe (eCall 3 F_long_behind (eCons (eVar 11) (eCons (eVar 4) (eCons (eVar 6) eNil)))) (eCall 3 F_long_behind (eCons (eVar 2) (eCons (eVar 4) (eCons (eOp aPlus (eVar 6) (eC (.int 1))) eNil))))))
        (sRet (eC (.bl false)))
        sNx)
      (sIf (eTest (eOp cNe (eCall 4 F_letter_at (eCons (eVar 11) (eCons (eVar 4) (eCons (eVar 6) (eCons (eVar 9) eNil))))) (eCall 4 F_letter_at (eCons (eVar 2) (eCons (eVar 4) (eCons (eOp aPlus (eVar 6) (eC (.int 1))) (eCons (eVar 9) eNil)))))))
        (sRet (eC (.bl false)))
        sNx))
      sNx)
    (sSeq (sSet 12 (eCall 2 F_judged (eCons (eVar 2) (eCons (eVar 4) eNil))))
    (sIf (eAnd (eTest (eCB (f2 (isOD objL (lkp osubL))) (eCons (eVar 12) (eCons (eC (.cls 7)) eNil)))) (eTest (eOp cLe (eOp aPlus (eUn (fldD [7] "first") (eVar 12)) (eUn (fldD [7] "many") (eVar 12))) (eC (.int 40)))))
      (sSeq (sIf (eTest (eOp cNe (eCall 3 F_long_behind (eCons (eVar 2) (eCons (eVar 4) (eCons (eUn (fldD [7] "first") (eVar 12)) eNil)))) (eCall 3 F_long_behind (eCons (eVar 2) (eCons (eVar 4) (eCons (eOp aPlus (eUn (fldD [7] "first") (eVar 12)) (eUn (fldD [7] "many") (eVar 12))) eNil))))))
        (sRet (eC (.bl false)))
        sNx)
      (sFor (itRngN 1 (eCons (eC (.int 4)) eNil)) (gN 13)
        (sIf (eTest (eOp cNe (eCall 4 F_letter_at (eCons (eVar 2) (eCons (eVar 4) (eCons (eUn (fldD [7] "first") (eVar 12)) (eCons (eVar 13) eNil))))) (eCall 4 F_letter_at (eCons (eVar 2) (eCons (eVar 4) (eCons (eOp aPlus (eUn (fldD [7] "first") (eVar 12)) (eUn (fldD [7] "many") (eVar 12))) (eCons (eVar 13) eNil)))))))
          (sRet (eC (.bl false)))
          sNx)))
      sNx)))))))))))))))
  (sRet (eAndT (eOp cEq (eCall 2 F_gone_round (eCons (eC (.str [122, 97, 98])) (eCons (eLst (dCons (eTup (dCons (eC (.str [97])) (dCons (eC (.str [122, 122])) dNil))) (dCons (eTup (dCons (eC (.str [98])) (dCons (eC (.str [])) dNil))) dNil))) eNil))) (eC (.str [122, 122, 122]))) (eOp cEq (eCall 3 F_long_behind (eCons (eC (.str [122, 97, 98])) (eCons (eLst (dCons (eTup (dCons (eC (.str [97])) (dCons (eC (.str [122, 122])) dNil))) (dCons (eTup (dCons (eC (.str [98])) (dCons (eC (.str [])) dNil))) dNil))) (eCons (eC (.int 1)) eNil)))) (eC (.int 3)))))))
def F_law : List D → Out := runF 14 B_law
end G

/-! ## S_start -/
set_option Elab.async false
set_option linter.all false
set_option maxRecDepth 100000
set_option maxHeartbeats 400000
namespace G
open PySem L2 Vi
theorem runF_eq (n : Nat) (F : M Fl) (ds : List D) : runF n F ds = endF (F (startS n ds)) := (rfl)
@[simp] theorem endF_rt (s : S) (ρ : List S) : endF (.ok (.rt s) ρ) = .ret s := (rfl)
@[simp] theorem endF_nx (ρ : List S) : endF (.ok .nx ρ) = .ret (.fr .non) := (rfl)
@[simp] theorem endF_exc (k : Nat) (ρ : List S) : endF (.exc k ρ) = .exc k := (rfl)
theorem atI_nat {α : Type} (xs : List α) (i : Nat) : atI xs (i : Int) = xs[i]? := by
  unfold atI ixN
  rw [if_pos (Int.natCast_nonneg i)]
  by_cases h : (i : Int) < xs.length
  · rw [if_pos h]; rfl
  · rw [if_neg h, List.getElem?_eq_none (by omega)]; rfl
theorem cell_at (cs : List Int) (i : Nat) : F__law_cell_at [.lst (cs.map .int), .int (i : Int)] = .ret (.fr (.int (cs.getD i 0))) := by
  unfold F__law_cell_at B__law_cell_at
  by_cases h : i < cs.length
  · simp [runF_eq, startS, paramS, List.replicate, aIx, ixD, atI_nat, h]
  · simp [runF_eq, startS, paramS, List.replicate, aIx, ixD, atI_nat, h]

/-- at most n bits -/
@[irreducible] def Bd (n : Nat) (i : Int) : Prop := i.natAbs < 2 ^ n
theorem bits_le {n : Nat} {i : Int} (h : Bd n i) : Builtin.Int.intBits i ≤ n := by
  unfold Bd at h
  unfold Builtin.Int.intBits
  by_cases e : i = 0
  · subst e; exact Nat.zero_le _
  · have e2 : (i == 0) = false := by simpa using e
    rw [e2]
    have : i.natAbs ≠ 0 := by omega
    exact (Nat.log2_lt this).mpr h
theorem bd_of_bits {n : Nat} {i : Int} (h : Builtin.Int.intBits i ≤ n) : Bd n i := by
  unfold Builtin.Int.intBits at h
  unfold Bd
  by_cases e : i = 0
  · subst e; exact Nat.two_pow_pos n
  · have e2 : (i == 0) = false := by simpa using e
    rw [e2] at h
    have e3 : i.natAbs ≠ 0 := by omega
    exact (Nat.log2_lt e3).mp h
theorem Bd.mono {n m : Nat} {i : Int} (h : Bd n i) (l : n ≤ m) : Bd m i := by
  unfold Bd at *
  exact Nat.lt_of_lt_of_le h (Nat.pow_le_pow_right (by decide) l)
theorem Bd.mul {n m : Nat} {i j : Int} (h : Bd n i) (k : Bd m j) : Bd (n + m) (i * j) := by
  unfold Bd at *
  rw [Int.natAbs_mul, Nat.pow_add]
  exact Nat.mul_lt_mul'' h k
theorem Bd.add {n : Nat} {i j : Int} (h : Bd n i) (k : Bd n j) : Bd (n + 1) (i + j) := by
  unfold Bd at *
  have := Int.natAbs_add_le i j
  rw [Nat.pow_succ]; omega
theorem Bd.small {n : Nat} {i : Int} (h : i.natAbs < 2 ^ 40) (l : 40 ≤ n) : Bd n i := Bd.mono (n := 40) (by unfold Bd; exact h) l
theorem aTimes_i {i j : Int} (h : Builtin.Int.intBits i + Builtin.Int.intBits j ≤ 134217728) : aTimes (.int i) (.int j) = some (.val (.int (i * j))) := by
  show Option.or (if Builtin.Int.intBits i + Builtin.Int.intBits j ≤ 134217728 then okI (i * j) else none) _ = _
  rw [if_pos h]; rfl
theorem aTimes_b {n m : Nat} {i j : Int} (h : Bd n i) (k : Bd m j) (l : n + m ≤ 134217728) : aTimes (.int i) (.int j) = some (.val (.int (i * j))) :=
  aTimes_i (by have := bits_le h; have := bits_le k; omega)
def primes : List Int := [1000003, 1000033, 1000037, 1000039, 1000081, 1000099, 1000117, 1000121, 1000133, 1000151, 1000159, 1000171, 1000183, 1000187, 1000193, 1000199]
theorem primes_at (k : Nat) : ∃ p : Int, 0 < p ∧ atI (primes.map D.int) ((k : Int) % 16) = some (.int p) := by
  have e : ((k : Int) % 16) = ((k % 16 : Nat) : Int) := by omega
  have hk : k % 16 < primes.length := Nat.mod_lt _ (by decide)
  have hp : ∀ x ∈ primes, 0 < x := by decide
  refine ⟨primes[k % 16], hp _ (List.getElem_mem _), ?_⟩
  rw [e, atI_nat, List.getElem?_map, List.getElem?_eq_getElem hk]; rfl
theorem law_draw (c : Int) (k : Nat) (m : Int) (hc : Bd 67000000 c) (hk : k < 1000000) (hm : 0 < m) : ∃ z, F__law_draw [.int c, .int k, .int m] = .ret (.fr (.int z)) ∧ 0 ≤ z ∧ z < m := by
  obtain ⟨p, hp, e⟩ := primes_at k
  unfold primes at e
  have h1 := aTimes_b (j := 48271) hc (Bd.small (n := 40) (by decide) (by decide)) (by decide)
  have h2 := aTimes_b (i := (k : Int)) (j := 69621) (Bd.small (n := 40) (by omega) (by decide)) (Bd.small (n := 40) (by decide) (by decide)) (by decide)
  refine ⟨(c * 48271 + k * 69621) % p % m, ?_, Int.emod_nonneg _ (by omega), Int.emod_lt_of_pos _ hm⟩
  unfold F__law_draw B__law_draw
  simp at e
  simp [runF_eq, startS, paramS, List.replicate, aIx, ixD, h1, h2, aMod_i, e, hp, hm]

theorem aPow_18 : aPow (.int 10) (.int 18) = some (.val (.int 1000000000000000000)) := by
  unfold aPow gI okI
  simp
theorem Bd.div {n : Nat} {i : Int} {j : Nat} (h : Bd n i) (h0 : 0 ≤ i) : Bd n (i / (j : Int)) := by
  unfold Bd at *
  have e : i = (i.natAbs : Int) := by omega
  rw [e, ← Int.natCast_ediv, Int.natAbs_natCast]
  exact Nat.lt_of_le_of_lt (Nat.div_le_self _ _) h
theorem law_value (c : Int) (t : Nat) (hc : Bd 1100000 c) (ht : t < 1000) : ∃ z, F__law_value [.int c, .int t] = .ret (.fr (.int z)) ∧ 0 ≤ z ∧ Bd 1100010 z := by
  have h3 := aTimes_b (i := 3) (j := (t : Int)) (Bd.small (n := 40) (by decide) (by decide)) (Bd.small (n := 40) (by omega) (by decide)) (by decide)
  by_cases h : 1000000000000000000 ≤ c
  · refine ⟨(c - 1000000000000000000) / 2 ^ (3 * (t : Int)).toNat, ?_, ?_, ?_⟩
    · unfold F__law_value B__law_value
      have h4 : 0 ≤ 3 * (t : Int) := by omega
      simp [runF_eq, startS, paramS, List.replicate, aPow_18, h, h3, aShr, gI, okI, h4]
    · exact Int.ediv_nonneg (by omega) (Int.le_of_lt (Int.pow_pos (by decide)))
    · have : Bd 1100000 (c - 1000000000000000000) := by unfold Bd at *; omega
      have := Bd.mono (Bd.div (j := 2 ^ (3 * (t : Int)).toNat) this (by omega)) (show 1100000 ≤ 1100010 by decide)
      rw [Int.natCast_pow] at this
      exact this
  · have b1 : ∀ i : Int, i.natAbs < 2 ^ 40 → Bd 1100001 (c + i) := fun i hi => Bd.add hc (Bd.small hi (by decide))
    have h5 := aTimes_b (i := 977) (j := (t : Int)) (Bd.small (n := 40) (by decide) (by decide)) (Bd.small (n := 40) (by omega) (by decide)) (by decide)
    have h6 := aTimes_b (i := 31) (j := (t : Int)) (Bd.small (n := 40) (by decide) (by decide)) (Bd.small (n := 40) (by omega) (by decide)) (by decide)
    have c1 := b1 (977 * t) (by omega)
    have c2 := b1 (31 * t) (by omega)
    have c3 : Bd 1100002 (c + 31 * t + 5) := Bd.add c2 (Bd.small (by decide) (by decide))
    have c4 : Bd 1100001 (c + 7) := b1 7 (by decide)
    have h7 := aTimes_b c1 c3 (by decide)
    have h8 := aTimes_b c2 c4 (by decide)
    obtain ⟨z1, e1, p1, q1⟩ := law_draw ((c + 977 * t) * (c + 31 * t + 5)) (t % 9 + 1) 999983 (Bd.mono (Bd.mul c1 c3) (by decide)) (by omega) (by decide)
    have c5 : Bd 2200002 ((c + 31 * t) * (c + 7)) := Bd.mono (Bd.mul c2 c4) (by decide)
    have c6 : Bd 2200002 (977 * (t : Int)) := Bd.small (by omega) (by decide)
    have c7 := Bd.mono (m := 67000000) (Bd.add c5 c6) (by decide)
    obtain ⟨z2, e2, p2, q2⟩ := law_draw ((c + 31 * t) * (c + 7) + 977 * t) (t % 7 + 2) 1000003 c7 (by omega) (by decide)
    have h9 := aTimes_b (i := z1) (j := 1000003) (Bd.small (n := 40) (by omega) (by decide)) (Bd.small (n := 40) (by decide) (by decide)) (by decide)
    refine ⟨z1 * 1000003 + z2, ?_, by omega, Bd.small (by omega) (by decide)⟩
    have m9 : aMod (.int (t : Int)) (.int 9) = some (.val (.int ((t % 9 : Nat) : Int))) := aMod_i (by decide)
    have m7 : aMod (.int (t : Int)) (.int 7) = some (.val (.int ((t % 7 : Nat) : Int))) := aMod_i (by decide)
    unfold F__law_value B__law_value
    simp only [Int.natCast_add, Int.cast_ofNat_Int, Int.natCast_one] at e1 e2
    simp [runF_eq, startS, paramS, List.replicate, aPow_18, h, h5, h6, h7, h8, h9, m9, m7, -Int.natCast_emod, e1, e2]

/-! #### loops, goes -/
theorem loop_list {tg : D → M Unit} {body : M Fl} (I : Nat → List S → Prop) {xs : List D} (step : ∀ i d ρ, xs[i]? = some d → I i ρ → ∃ ρ', (tg d ρ).nx.thn (fun _ ρ => body ρ) = .ok .nx ρ' ∧ I (i + 1) ρ') (ρ : List S) (h : I 0 ρ) :
    ∃ ρ', loopS tg body xs ρ = .ok .nx ρ' ∧ I xs.length ρ' := by
  have key : ∀ (k : Nat) (ds : List D) (ρ : List S), xs.drop k = ds → k ≤ xs.length → I k ρ → ∃ ρ', loopS tg body ds ρ = .ok .nx ρ' ∧ I xs.length ρ' := by
    intro k ds
    induction ds generalizing k with
    | nil =>
      intro ρ e hk h
      have : xs.length ≤ k := by simpa using e
      have e2 : k = xs.length := by omega
      subst e2
      exact ⟨ρ, rfl, h⟩
    | cons d ds ih =>
      intro ρ e hk h
      have hk2 : k < xs.length := by
        rcases Nat.lt_or_ge k xs.length with q | q
        · exact q
        · rw [List.drop_eq_nil_of_le q] at e; cases e
      have e1 : xs[k]? = some d := by
        have : (xs.drop k)[0]? = some d := by rw [e]; rfl
        simpa using this
      obtain ⟨ρ1, q1, q2⟩ := step k d ρ e1 h
      have e3 : xs.drop (k + 1) = ds := by
        have : (xs.drop k).drop 1 = ds := by rw [e]; rfl
        simpa [List.drop_drop] using this
      obtain ⟨ρ2, q3, q4⟩ := ih (k + 1) ρ1 e3 hk2 q2
      refine ⟨ρ2, ?_, q4⟩
      rw [loop_cons]
      cases e4 : (tg d ρ).nx with
      | ok a ρ3 => rw [e4] at q1; simp only [thn_ok] at q1 ⊢; rw [q1]; exact q3
      | exc k ρ3 => rw [e4] at q1; cases q1
      | bad => rw [e4] at q1; cases q1
  exact key 0 xs ρ rfl (Nat.zero_le _) h
theorem ints_get {i : Int} {k : Int} {m j : Nat} {d : D} (h : (intsFrom i k m)[j]? = some d) : j < m ∧ d = .int (i + j * k) := intsFrom_get h
theorem loop_ints {tg : D → M Unit} {body : M Fl} (I : Nat → List S → Prop) {n : Nat} (step : ∀ (i : Nat) ρ, i < n → I i ρ → ∃ ρ', (tg (.int (i : Int)) ρ).nx.thn (fun _ ρ => body ρ) = .ok .nx ρ' ∧ I (i + 1) ρ') (ρ : List S) (h : I 0 ρ) :
    ∃ ρ', loopS tg body (intsFrom 0 1 n) ρ = .ok .nx ρ' ∧ I n ρ' := by
  have := loop_list (tg := tg) (body := body) (xs := intsFrom 0 1 n) I (fun i d ρ e hi => by
    obtain ⟨e1, e2⟩ := ints_get e
    have e3 : (0 : Int) + (i : Int) * 1 = (i : Int) := by omega
    rw [e3] at e2
    subst e2
    exact step i ρ e1 hi) ρ h
  rw [intsFrom_len] at this
  exact this
theorem rg1 {n : Nat} (h : n < 2 ^ 60) : rgD [.int (n : Int)] = some (intsFrom 0 1 n) := by
  show (if big62 (n : Int) = true then some (intsFrom 0 1 (n : Int).toNat) else none) = _
  have e : big62 (n : Int) = true := by
    unfold big62
    rw [Bool.and_eq_true, decide_eq_true_eq, decide_eq_true_eq]
    omega
  rw [if_pos e]; rfl
/-! #### the laws' letters and texts -/
abbrev Low (s : List Nat) : Prop := ∀ c ∈ s, 97 ≤ c ∧ c ≤ 122
def abc : List Nat := [97, 98, 99, 100, 101, 102, 103, 104, 105, 106, 107, 108, 109, 110, 111, 112, 113, 114, 115, 116, 117, 118, 119, 120, 121, 122]
theorem abc_at : ∀ j : Nat, j < 26 → abc[j]? = some (97 + j) := by decide
theorem four_at : ∀ j : Nat, j < 4 → ∃ f : Int, 0 < f ∧ f ≤ 26 ∧ ([D.int 2, D.int 3, D.int 5, D.int 26])[j]? = some (.int f)
  | 0, _ => ⟨2, by decide, by decide, rfl⟩
  | 1, _ => ⟨3, by decide, by decide, rfl⟩
  | 2, _ => ⟨5, by decide, by decide, rfl⟩
  | 3, _ => ⟨26, by decide, by decide, rfl⟩
  | n + 4, h => absurd h (by omega)
abbrev Cells (cs : List Int) : Prop := ∀ i : Nat, Bd 1048576 (cs.getD i 0)
theorem emod_nat (z : Int) {m : Nat} (hm : 0 < m) : ∃ j : Nat, z % (m : Int) = (j : Int) ∧ j < m :=
  ⟨(z % (m : Int)).toNat, by have := Int.emod_nonneg z (b := (m : Int)) (by omega); omega, by have := Int.emod_lt_of_pos z (b := (m : Int)) (by omega); have := Int.emod_nonneg z (b := (m : Int)) (by omega); omega⟩
theorem law_letter (cs : List Int) (b : Nat) (x : Int) (hc : Cells cs) : ∃ c : Nat, (97 ≤ c ∧ c ≤ 122) ∧ F__law_letter [.lst (cs.map .int), .int (b : Int), .int x] = .ret (.fr (.str [c])) := by
  obtain ⟨z, e1, hz, _⟩ := law_value (cs.getD b 0) 9 (Bd.mono (hc b) (by decide)) (by decide)
  obtain ⟨j, ej, hj⟩ := emod_nat z (m := 4) (by decide)
  obtain ⟨f, f0, f1, ef⟩ := four_at j hj
  have m1 : aMod (.int z) (.int 4) = some (.val (.int (j : Int))) := by rw [aMod_i (by decide)]; exact congrArg (fun q => some (Hd.val (.int q))) ej
  have m2 : aMod (.int x) (.int f) = some (.val (.int (x % f))) := aMod_i f0
  have x0 := Int.emod_nonneg x (b := f) (by omega)
  have x1 := Int.emod_lt_of_pos x f0
  have y0 := Int.emod_nonneg (z / 4) (b := 5) (by decide)
  have y1 := Int.emod_lt_of_pos (z / 4) (b := 5) (by decide)
  have m3 := aTimes_b (i := x % f) (j := 1 + z / 4 % 5) (n := 40) (m := 40) (Bd.small (by omega) (by decide)) (Bd.small (by omega) (by decide)) (by decide)
  obtain ⟨k, ek, hk⟩ := emod_nat (x % f * (1 + z / 4 % 5) + z / 20) (m := 26) (by decide)
  have m4 : aMod (.int (x % f * (1 + z / 4 % 5) + z / 20)) (.int 26) = some (.val (.int (k : Int))) := by rw [aMod_i (by decide)]; exact congrArg (fun q => some (Hd.val (.int q))) ek
  have a1 := abc_at k hk
  unfold abc at a1
  refine ⟨97 + k, by omega, ?_⟩
  unfold F__law_letter B__law_letter
  have q4 : aMod (.int (z / 4)) (.int 5) = some (.val (.int (z / 4 % 5))) := aMod_i (by decide)
  have q5 : aFdiv (.int z) (.int 4) = some (.val (.int (z / 4))) := aFdiv_i (by decide) (by decide)
  have q6 : aFdiv (.int z) (.int 20) = some (.val (.int (z / 20))) := aFdiv_i (by decide) (by decide)
  have e1 : F__law_value [.int (cs.getD b 0), .int 9] = .ret (.fr (.int z)) := e1
  simp only [List.getD_eq_getElem?_getD] at e1
  simp [runF_eq, startS, paramS, List.replicate, aIx, ixD, atI_nat, cell_at, e1, m1, m2, m3, m4, ef, a1, q4, q5, q6]

theorem bd_cell {i j : Int} (h : Bd 1048576 i) (hj : j.natAbs < 2 ^ 40) : Bd 1100000 (i + j) := Bd.mono (Bd.add h (Bd.small hj (by decide))) (by decide)
theorem aMod_nat (a b : Nat) (h : 0 < b) : aMod (.int (a : Int)) (.int (b : Int)) = some (.val (.int ((a % b : Nat) : Int))) := aMod_i (by omega)
theorem law_text (cs : List Int) (b m t : Nat) (hc : Cells cs) (hm : m ≤ 200) (ht : t < 100) : ∃ s, Low s ∧ s.length ≤ m ∧ F__law_text [.lst (cs.map .int), .int (b : Int), .int (m : Int), .int (t : Int)] = .ret (.fr (.str s)) := by
  obtain ⟨z, e1, hz, _⟩ := law_value (cs.getD b 0) t (Bd.mono (hc b) (by decide)) (by omega)
  obtain ⟨n, en, hn⟩ := emod_nat z (m := m + 1) (by omega)
  have m1 : aMod (.int z) (.int ((m : Int) + 1)) = some (.val (.int (n : Int))) := by rw [aMod_i (by omega)]; exact congrArg (fun q => some (Hd.val (.int q))) (by rw [← en]; rfl)
  have key := loop_ints (n := n) (tg := gN 6)
    (body := sSeq (sSet 7 (eOp aFdiv (eCall 2 F__law_value (eCons (eOp aPlus (eCall 2 F__law_cell_at (eCons (eVar 0) (eCons (eOp aPlus (eVar 1) (eOp aMod (eVar 6) (eC (.int 5)))) eNil))) (eOp aTimes (eC (.int 13)) (eVar 6))) (eCons (eOp aMod (eOp aPlus (eVar 3) (eVar 6)) (eC (.int 7))) eNil))) (eC (.int 3))))
      (sSet 4 (eOp aPlus (eVar 4) (eCall 3 F__law_letter (eCons (eVar 0) (eCons (eVar 1) (eCons (eVar 7) eNil)))))))
    (fun i ρ => ∃ s x y, Low s ∧ s.length = i ∧ ρ = [.bor (.lst (cs.map .int)), .fr (.int (b : Int)), .fr (.int (m : Int)), .fr (.int (t : Int)), .fr (.str s), .fr (.int (cs.getD b 0)), x, y])
    (fun i ρ hi ⟨s, x, y, h1, h2, h3⟩ => by
      subst h3
      have c1 : Bd 1100000 (cs.getD (b + i % 5) 0 + 13 * (i : Int)) := bd_cell (hc _) (by omega)
      obtain ⟨z2, e2, _, _⟩ := law_value (cs.getD (b + i % 5) 0 + 13 * (i : Int)) ((t + i) % 7) c1 (by omega)
      obtain ⟨c, l1, l2⟩ := law_letter cs b (z2 / 3) hc
      refine ⟨_, ?_, s ++ [c], .fr (.int (i : Int)), .fr (.int (z2 / 3)), ?_, by rw [List.length_append, h2]; rfl, rfl⟩
      · have c2 := cell_at cs (b + i % 5)
        have t1 := aTimes_b (i := 13) (j := (i : Int)) (n := 40) (m := 40) (Bd.small (by decide) (by decide)) (Bd.small (by omega) (by decide)) (by decide)
        have q1 := aMod_nat i 5 (by decide)
        have q2 := aMod_nat (t + i) 7 (by decide)
        have q3 : aFdiv (.int z2) (.int 3) = some (.val (.int (z2 / 3))) := aFdiv_i (by decide) (by decide)
        have q4 := aPlus_s (s := s) (t := [c]) (by simp only [List.length_cons, List.length_nil]; omega)
        simp only [Int.natCast_add, Int.cast_ofNat_Int] at c2 q1 q2
        simp only [List.getD_eq_getElem?_getD] at c2 e2
        simp [c2, t1, q1, q2, q3, q4, e2, l2, -Int.natCast_emod]
      · intro d hd
        rcases List.mem_append.mp hd with q | q
        · exact h1 d q
        · rw [List.mem_singleton.mp q]; exact l1)
  obtain ⟨ρ', r1, s, x, y, h1, h2, h3⟩ := key [.bor (.lst (cs.map .int)), .fr (.int (b : Int)), .fr (.int (m : Int)), .fr (.int (t : Int)), .fr (.str []), .fr (.int (cs.getD b 0)), .un, .un] ⟨[], .un, .un, fun c h => (nomatch h), rfl, rfl⟩
  refine ⟨s, h1, by omega, ?_⟩
  subst h3
  have c0 := cell_at cs b
  have g1 := rg1 (n := n) (by omega)
  simp only [List.getD_eq_getElem?_getD] at c0 e1 r1
  unfold F__law_text B__law_text
  simp [runF_eq, startS, paramS, List.replicate, c0, e1, m1, sFor_r, g1, r1]
end G

/-! ## S_data -/
set_option Elab.async false
set_option linter.all false
set_option maxRecDepth 100000
set_option maxHeartbeats 400000
namespace G
open PySem L2 Vi
/-! #### data -/
abbrev nD (i : Nat) : D := .int (i : Int)
theorem sl_lt {n : Nat} (h : n < 1000) : n < SLine := Nat.lt_of_lt_of_le h sline_ge
theorem cut_nat {α : Type} (xs : List α) (i j : Nat) : cut xs (some (i : Int)) (some (j : Int)) = (xs.drop i).take (j - i) := by
  unfold cut
  rw [HT.sIx_nat, HT.sIx_nat]
  by_cases h : i ≤ xs.length
  · rw [Nat.min_eq_left h]
    by_cases h2 : j ≤ xs.length
    · rw [Nat.min_eq_left h2]
    · rw [Nat.min_eq_right (by omega), List.take_of_length_le (by simp), List.take_of_length_le (by simp; omega)]
  · have e1 : min i xs.length = xs.length := Nat.min_eq_right (by omega)
    rw [e1, List.drop_eq_nil_of_le (Nat.le_refl _), List.drop_eq_nil_of_le (by omega : xs.length ≤ i)]; simp
theorem ints_range (n : Nat) : intsFrom 0 1 n = (List.range n).map nD := by
  apply List.ext_getElem?
  intro i
  by_cases h : i < n
  · rw [List.getElem?_map, List.getElem?_range h]
    have : i < (intsFrom 0 1 n).length := by rw [intsFrom_len]; exact h
    obtain ⟨_, e⟩ := ints_get (List.getElem?_eq_getElem this)
    rw [List.getElem?_eq_getElem this, e]
    simp [nD]
  · rw [List.getElem?_eq_none (by rw [intsFrom_len]; omega), List.getElem?_eq_none (by rw [List.length_map, List.length_range]; omega)]
theorem ints_from (a n : Nat) : intsFrom (a : Int) 1 n = (List.range' a n).map nD := by
  apply List.ext_getElem?
  intro i
  by_cases h : i < n
  · rw [List.getElem?_map, List.getElem?_range' h]
    have : i < (intsFrom (a : Int) 1 n).length := by rw [intsFrom_len]; exact h
    obtain ⟨_, e⟩ := ints_get (List.getElem?_eq_getElem this)
    rw [List.getElem?_eq_getElem this, e]
    simp [nD]
  · rw [List.getElem?_eq_none (by rw [intsFrom_len]; omega), List.getElem?_eq_none (by rw [List.length_map, List.length_range']; omega)]
theorem rgi {k : Int} (h : k.natAbs < 2 ^ 60) : rgD [.int k] = some ((List.range k.toNat).map nD) := by
  show (if big62 k = true then some (intsFrom 0 1 k.toNat) else none) = _
  have e : big62 k = true := by
    unfold big62
    rw [Bool.and_eq_true, decide_eq_true_eq, decide_eq_true_eq]
    omega
  rw [if_pos e, ints_range]
theorem rg2 {a b : Nat} (h : a < 2 ^ 60) (h2 : b < 2 ^ 60) : rgD [nD a, nD b] = some ((List.range' a (b - a)).map nD) := by
  show (if (big62 (a : Int) && big62 (b : Int)) = true then some (intsFrom (a : Int) 1 ((b : Int) - (a : Int)).toNat) else none) = _
  have e : (big62 (a : Int) && big62 (b : Int)) = true := by
    unfold big62
    simp only [Bool.and_eq_true, decide_eq_true_eq]
    omega
  have e2 : ((b : Int) - (a : Int)).toNat = b - a := by omega
  rw [if_pos e, e2, ints_from]
theorem bls_map {α : Type} (f : α → Bool) : ∀ s : List α, bls? (s.map fun c => D.bl (f c)) = some (s.map f)
  | [] => rfl
  | x :: s => by
    show (bls? (s.map fun c => D.bl (f c))).map (f x :: ·) = _
    rw [bls_map f s]; rfl
theorem ints_map : ∀ s : List Nat, ints? (s.map nD) = some (s.map fun i : Nat => (i : Int))
  | [] => rfl
  | x :: s => by
    show (ints? (s.map nD)).map ((x : Int) :: ·) = _
    rw [ints_map s]; rfl
theorem okDs_n : ∀ s : List Nat, okDs (s.map nD) = true
  | [] => by unfold okDs; rfl
  | x :: s => by
    show okDs (nD x :: s.map nD) = true
    unfold okDs
    rw [okDs_n s]
    show (okD (.int x) && true) = true
    unfold okD; rfl
theorem depDs_n : ∀ s : List Nat, depDs (s.map nD) = 0
  | [] => by unfold depDs; rfl
  | x :: s => by
    show depDs (nD x :: s.map nD) = 0
    unfold depDs
    rw [depDs_n s]
    show max (depD (.int x)) 0 = 0
    unfold depD; rfl
theorem eqv_n : ∀ s t : List Nat, PyData.eqvAll (toPys (s.map nD)) (toPys (t.map nD)) = (s == t)
  | [], [] => by simp [toPys, PyData.eqvAll]
  | [], y :: t => by simp [toPys, PyData.eqvAll]
  | x :: s, [] => by simp [toPys, PyData.eqvAll]
  | x :: s, y :: t => by
    have := eqv_n s t
    simp only [List.map_cons, toPys, toPy, nD, PyData.eqvAll, PyData.eqv]
    rw [this]
    show ((x : Int) == (y : Int) && s == t) = ((x :: s) == (y :: t))
    rw [List.cons_beq_cons]
    congr 1
    by_cases h : x = y
    · subst h; simp
    · rw [beq_eq_false_iff_ne.mpr h, beq_eq_false_iff_ne.mpr (by omega)]
theorem eqG_n (s t : List Nat) : eqG (.lst (s.map nD)) (.lst (t.map nD)) = some (s == t) := by
  show (if okD (.lst (s.map nD)) = true ∧ okD (.lst (t.map nD)) = true ∧ depD (.lst (s.map nD)) ≤ 60 ∧ depD (.lst (t.map nD)) ≤ 60 then some (eqD (.lst (s.map nD)) (.lst (t.map nD))) else none) = _
  have e : ∀ s : List Nat, okD (.lst (s.map nD)) = true ∧ depD (.lst (s.map nD)) ≤ 60 := fun s => by
    unfold okD depD
    rw [okDs_n, depDs_n]
    exact ⟨rfl, by decide⟩
  rw [if_pos ⟨(e s).1, (e t).1, (e s).2, (e t).2⟩]
  unfold eqD
  simp only [toPy, PyData.eqv]
  rw [eqv_n]
theorem cEq_n (s t : List Nat) : cEq (.lst (s.map nD)) (.lst (t.map nD)) = some (.val (.bl (s == t))) := by unfold cEq; rw [eqG_n]; rfl
theorem cNe_n (s t : List Nat) : cNe (.lst (s.map nD)) (.lst (t.map nD)) = some (.val (.bl !(s == t))) := by unfold cNe; rw [eqG_n]; rfl
theorem in_n (a : Nat) : ∀ s : List Nat, inD (nD a) (s.map nD) = decide (a ∈ s)
  | [] => by simp [inD]
  | x :: s => by
    have := in_n a s
    unfold inD at *
    rw [List.map_cons, List.any_cons, this]
    show ((x : Int) == (a : Int) || decide (a ∈ s)) = _
    by_cases h : a = x
    · subst h; simp
    · rw [beq_eq_false_iff_ne.mpr (by omega)]; simp [h]
theorem flat_n (s : List Nat) : (s.map nD).all flatD = true := by
  rw [List.all_eq_true]
  intro d hd
  obtain ⟨x, _, e⟩ := List.mem_map.mp hd
  subst e; rfl
theorem cIn_n (a : Nat) (s : List Nat) : cIn (nD a) (.lst (s.map nD)) = some (.val (.bl (decide (a ∈ s)))) := by
  unfold cIn
  show (if flatD (nD a) = true ∧ (s.map nD).all flatD = true then some (inD (nD a) (s.map nD)) else none).map _ = _
  rw [if_pos ⟨rfl, flat_n s⟩, in_n]; rfl
theorem cNotIn_n (a : Nat) (s : List Nat) : cNotIn (nD a) (.lst (s.map nD)) = some (.val (.bl !decide (a ∈ s))) := by
  unfold cNotIn
  show (if flatD (nD a) = true ∧ (s.map nD).all flatD = true then some (inD (nD a) (s.map nD)) else none).map _ = _
  rw [if_pos ⟨rfl, flat_n s⟩, in_n]; rfl
@[simp] theorem tYes_r (ρ : List S) : tYesM ρ = .ok true ρ := (rfl)
theorem cIn_ch (c : Nat) (s : List Nat) : cIn (.str [c]) (.str s) = some (.val (.bl (decide (c ∈ s)))) := rfl
theorem slD_n {s : List Nat} (h : s.length ≤ 1000) (i j : Nat) : slD (.str s) (some (i : Int)) (some (j : Int)) = some (.val (.str ((s.drop i).take (j - i)))) := by
  show (if s.length ≤ SLine then some (Hd.val (.str (cut s _ _))) else none) = _
  rw [if_pos (sl_of h), cut_nat]
end G

/-! ## S_more -/
set_option Elab.async false
set_option linter.all false
set_option maxRecDepth 100000
set_option maxHeartbeats 400000
namespace G
open PySem L2 Vi
theorem ixN_nat {n i : Nat} (h : i < n) : ixN n (i : Int) = some i := by
  unfold ixN
  rw [if_pos (by omega), if_pos (by omega), Int.toNat_natCast]
theorem atI_0 {α : Type} (xs : List α) : atI xs 0 = xs[0]? := atI_nat xs 0
theorem rg_down (n : Nat) (h : n ≤ 1000) : rgD [.int ((n : Int) - 1), .int (-1), .int (-1)] = some (intsFrom ((n : Int) - 1) (-1) n) := by
  have e : Builtin.Range.rangeSize ((n : Int) - 1) (-1) (-1) = n := by
    unfold Builtin.Range.rangeSize
    rw [if_neg (by decide)]
    by_cases h0 : n = 0
    · subst h0; rfl
    · rw [if_pos (by omega)]
      show ((n : Int) - 1 - (-1) - 1) / 1 + 1 = n
      omega
  have f : ∀ i : Int, i.natAbs ≤ 2000 → Builtin.Range.rangeFitsLong i = true := fun i hi => by
    unfold Builtin.Range.rangeFitsLong
    rw [Bool.and_eq_true, decide_eq_true_eq, decide_eq_true_eq]
    omega
  have s : Builtin.Range.small ((n : Int) - 1) (-1) (-1) = true := by
    unfold Builtin.Range.small
    rw [e, f _ (by omega), f _ (by decide), f n (by omega), if_neg (by decide), f _ (by decide)]
    simp
  show (rg3 ((n : Int) - 1) (-1) (-1)).map _ = _
  unfold rg3
  rw [if_pos ⟨by decide, by decide, s, by rw [e]; omega⟩, e]
  rfl
theorem rg_two (M : Int) (h : 1 ≤ M) (h2 : M ≤ 9) : ∃ m : Nat, m ≤ 5 ∧ rgD [.int 0, .int M, .int 2] = some (intsFrom 0 2 m) := by
  have e : Builtin.Range.rangeSize 0 M 2 = (M - 1) / 2 + 1 := by
    unfold Builtin.Range.rangeSize
    rw [if_pos (by decide), if_pos (by omega)]
    congr 2; omega
  have f : ∀ i : Int, i.natAbs ≤ 2000 → Builtin.Range.rangeFitsLong i = true := fun i hi => by
    unfold Builtin.Range.rangeFitsLong
    rw [Bool.and_eq_true, decide_eq_true_eq, decide_eq_true_eq]
    omega
  have s : Builtin.Range.small 0 M 2 = true := by
    unfold Builtin.Range.small
    rw [e, f 0 (by decide), f M (by omega), f 2 (by decide), f _ (by omega), if_pos (by decide), f _ (by omega)]
    simp
  refine ⟨((M - 1) / 2 + 1).toNat, by omega, ?_⟩
  show (rg3 0 M 2).map _ = _
  unfold rg3
  rw [if_pos ⟨by decide, by decide, s, by rw [e]; omega⟩, e]
  rfl
theorem aIx_l {xs : List D} {i : Nat} {d : D} (h : xs[i]? = some d) : aIx (.lst xs) (.int (i : Int)) = some (.val d) := by
  show (atI xs (i : Int)).map Hd.val = _
  rw [atI_nat, h]; rfl
theorem all_true {α : Type} (l : List α) : (l.map fun _ => true).all id = true := by
  rw [List.all_eq_true]; intro b hb; obtain ⟨_, _, e⟩ := List.mem_map.mp hb; rw [← e]; rfl
theorem any_false {α : Type} (l : List α) : (l.map fun _ => false).any id = false := by
  rw [List.any_eq_false]; intro b hb; obtain ⟨_, _, e⟩ := List.mem_map.mp hb; rw [← e]; exact Bool.false_ne_true
theorem filt_map {α β γ : Type} (l : List α) (f : α → β) (g : γ) : ((l.map f).filter (fun _ => true)).map (fun _ => g) = l.map fun _ => g := by
  rw [List.filter_eq_self.mpr (fun _ _ => rfl), List.map_map]; rfl
theorem orT_s {a : M Hd} {ρ : List S} {s d : List Nat} (h : a ρ = .ok (.val (.str s)) ρ) (hs : Low s) (hl : s.length ≤ 4) (hd : Low d) (h1 : 1 ≤ d.length) (h2 : d.length ≤ 4) :
    ∃ v, (Low v ∧ 1 ≤ v.length ∧ v.length ≤ 4) ∧ eOrT a (eC (.str d)) ρ = .ok (.val (.str v)) ρ := by
  cases s with
  | nil => exact ⟨d, ⟨hd, h1, h2⟩, by simp [h, truD]⟩
  | cons x s =>
    refine ⟨x :: s, ⟨hs, by simp, hl⟩, ?_⟩
    have : (x :: s).length ≤ SLine := sl_of (by omega)
    simp only [List.length_cons] at this
    simp [h, truD, this]
theorem low_take {s : List Nat} (h : Low s) (i j : Nat) : Low ((s.drop i).take j) := fun c hc => h c (List.mem_of_mem_drop (List.mem_of_mem_take hc))
theorem aRep2 {s : List Nat} (h : s.length ≤ 400) : aTimes (.str s) (.int 2) = some (.val (.str (s ++ s))) := by
  show Option.or none (Option.or (if 0 ≤ (2 : Int) ∧ (2 : Int) ≤ 1000 ∧ s.length * (2 : Int).toNat ≤ SLine then some (Hd.val (.str (repL s 2))) else none) _) = _
  rw [if_pos ⟨by decide, by decide, sl_of (by show s.length * 2 ≤ 1000; omega)⟩]
  show some (Hd.val (.str (s ++ (s ++ [])))) = _
  rw [List.append_nil]
theorem cut63 (ns : List Int) (h : ns.length ≤ 63) : cut ns none (some 63) = ns := by
  have := cut_nat ns 0 63
  have e : cut ns (some ((0 : Nat) : Int)) (some ((63 : Nat) : Int)) = cut ns none (some 63) := rfl
  rw [← e, this, List.drop_zero, List.take_of_length_le (by omega)]
theorem slD_scr (ns : List Int) (h : ns.length ≤ 63) : slD (.scr ns) none (some 63) = some (.new (.lst (ns.map .int))) := by
  show (if ns.length ≤ SLine then some (Hd.new (.lst ((cut ns none (some 63)).map .int))) else none) = _
  rw [if_pos (sl_of (by omega)), cut63 ns h]
end G

/-! ## S_low -/
set_option Elab.async false
set_option linter.all false
set_option maxRecDepth 100000
set_option maxHeartbeats 400000
namespace G
open PySem L2 Vi
theorem low_abc {c : Nat} (h : 97 ≤ c ∧ c ≤ 122) : c ∈ abc := by
  have := abc_at (c - 97) (by omega)
  have e : 97 + (c - 97) = c := by omega
  rw [e] at this
  exact List.mem_of_getElem? this
theorem nodup_len : ∀ {l m : List Nat}, l.Nodup → (∀ x ∈ l, x ∈ m) → l.length ≤ m.length
  | [], m, _, _ => Nat.zero_le _
  | a :: l, m, nd, h => by
    have nd := List.nodup_cons.mp nd
    have ha := h a List.mem_cons_self
    have := nodup_len (l := l) (m := m.erase a) nd.2 fun x hx => (List.mem_erase_of_ne (fun e : x = a => nd.1 (by rw [← e]; exact hx))).mpr (h x (List.mem_cons_of_mem _ hx))
    rw [List.length_erase_of_mem ha] at this
    have : 0 < m.length := List.length_pos_of_mem ha
    rw [List.length_cons]; omega
end G

/-! ## S_text -/
set_option Elab.async false
set_option linter.all false
set_option maxRecDepth 100000
set_option maxHeartbeats 400000
namespace G
open PySem L2 Vi
theorem is_letters (s : List Nat) (lo hi : Int) (h : Low s) (h1 : lo ≤ s.length) (h2 : (s.length : Int) ≤ hi) (hl : s.length ≤ 1000) : F_is_letters [.str s, .int lo, .int hi] = .ret (.fr (.bl true)) := by
  have k := eLc_one (it := itAny (eVar 0)) (v := 3) (cond := tYesM) (elt := eOp cIn (eVar 3) (eC (.str abc))) (ρ := [.fr (.str s), .fr (.int lo), .fr (.int hi), .un]) (xs := s.map fun c => .str [c]) (fun _ => true) (fun _ => .bl true)
    (by simp) (by simp) rfl (fun x hx => by
      obtain ⟨c, hc, e⟩ := List.mem_map.mp hx
      subst e
      have := low_abc (h c hc)
      refine ⟨by simp, fun _ => ?_⟩
      simp [cIn_ch, this]) (by rw [List.length_map]; exact sl_of hl)
  have e2 : ((s.map fun c => D.str [c]).filter fun _ => true).map (fun _ => D.bl true) = s.map fun _ => D.bl true := by
    rw [List.filter_eq_self.mpr (fun _ _ => rfl), List.map_map]; rfl
  rw [e2] at k
  unfold abc at k
  have b := bls_map (fun _ : Nat => true) s
  have a1 : tyD (.str s) = some "str" := rfl
  unfold F_is_letters B_is_letters
  simp [runF_eq, startS, paramS, List.replicate, isiD, tyD, isiT, isiB, okB, lenD_s hl, h1, h2, k, allD, b]
theorem check_text (s : List Nat) (hi : Int) (h : Low s) (h2 : (s.length : Int) ≤ hi) (hl : s.length ≤ 1000) : F_check_text [.str s, .int hi] = .ret (.fr .non) := by
  have k := is_letters s 0 hi h (by omega) h2 hl
  unfold F_check_text B_check_text
  simp [runF_eq, startS, paramS, List.replicate, k]
end G

/-! ## S_cells -/
set_option Elab.async false
set_option linter.all false
set_option maxRecDepth 100000
set_option maxHeartbeats 400000
namespace G
open PySem L2 Vi
theorem cell_bits {ns : List Int} (h : ∀ z ∈ ns, Builtin.Int.intBits z ≤ 1048576) : Cells ns := fun i => by
  rw [List.getD_eq_getElem?_getD]
  cases e : ns[i]? with
  | none => exact Bd.small (by decide) (by decide)
  | some z => exact bd_of_bits (h z (List.mem_of_getElem? e))
end G

/-! ## S_rules -/
set_option Elab.async false
set_option linter.all false
set_option maxRecDepth 100000
set_option maxHeartbeats 400000
namespace G
open PySem L2 Vi
/-! #### rules -/
abbrev Rule := Nat × List Nat
abbrev ruD (r : Rule) : D := .tup [.str [r.1], .str r.2]
structure RuleOk (r : Rule) : Prop where
  c : 97 ≤ r.1 ∧ r.1 ≤ 122
  p : Low r.2
  l : r.2.length ≤ 3
structure RulesOk (rs : List Rule) : Prop where
  all : ∀ r ∈ rs, RuleOk r
  len : rs.length ≤ 4
  up : rs.Pairwise fun a b => a.1 < b.1
@[simp] theorem eDNew_r (ρ : List S) : eDNew ρ = .ok (.new (.dic [] [])) ρ := (rfl)
@[simp] theorem ownK_d (ks : List (List Nat)) (xs : List D) : ownK (.own (.dic ks xs)) = some (ks, xs) := (rfl)
@[simp] theorem getOwnK_r (i : Nat) (ρ : List S) : getOwnK i ρ = M.lift (ownK (at_ ρ i)) ρ := by
  show (match ownK (at_ ρ i) with | some xs => R.ok xs ρ | none => .bad) = _
  cases ownK (at_ ρ i) <;> rfl
@[simp] theorem setOwnK_r (i : Nat) (p : List (List Nat) × List D) (ρ : List S) : setOwnK i p ρ = .ok () (ρ.set i (.own (.dic p.1 p.2))) := (rfl)
@[simp] theorem str_q (s : List Nat) : str? (.str s) = some s := (rfl)
@[simp] theorem sSetK_r (i : Nat) (fj fe : M Hd) (ρ : List S) : sSetK i fj fe ρ = thnK (fun h ρ => thnK (fun d ρ => thnK (fun _ ρ => thnK (fun hj ρ => thnK (fun dj ρ => thnK (fun k ρ => thnK (fun p ρ => guardM (decide (p.1.length < SLine)) (setOwnK i (kput p.1 p.2 k d) >>= fun _ => pure .nx) ρ) ((getOwnK i ρ)) ⟨⟩) ((M.lift (str? dj) ρ)) ⟨⟩) ((rd hj ρ)) ⟨⟩) ((fj ρ)) ⟨⟩) ((getOwnK i ρ)) ⟨⟩) ((fz h ρ)) ⟨⟩) ((fe ρ)) ⟨⟩ := (rfl)
@[simp] theorem ePairs_r (i : Nat) (ρ : List S) : ePairs i ρ = thnK (fun p ρ => guardM (decide (p.1.length < SLine ∧ p.1.Nodup)) (pure (.new (.lst (pairsD p.1 p.2)))) ρ) ((getOwnK i ρ)) ⟨⟩ := (rfl)
/-- a dict of texts by letters -/
abbrev dcK (F : List Rule) : List (List Nat) := F.map fun p => [p.1]
abbrev dcX (F : List Rule) : List D := F.map fun p => .str p.2
def putF (F : List Rule) (c : Nat) (p : List Nat) : List Rule := if (F.map (·.1)).contains c = true then F.map (fun r => if r.1 = c then (c, p) else r) else F ++ [(c, p)]
theorem dc_has (c : Nat) : ∀ F : List Rule, (dcK F).contains [c] = (F.map (·.1)).contains c
  | [] => rfl
  | r :: F => by
    show ([r.1] :: dcK F).contains [c] = (r.1 :: F.map (·.1)).contains c
    rw [List.contains_cons, List.contains_cons, dc_has c F]
    congr 1
    by_cases e : c = r.1
    · subst e; simp
    · rw [beq_eq_false_iff_ne.mpr e, beq_eq_false_iff_ne.mpr (fun h => e (List.cons.inj h).1)]
theorem dc_zip (c : Nat) (p : List Nat) : ∀ F : List Rule, List.zipWith (fun k' x => if k' = [c] then D.str p else x) (dcK F) (dcX F) = dcX (F.map (fun r => if r.1 = c then (c, p) else r))
  | [] => rfl
  | r :: F => by
    show (if [r.1] = [c] then D.str p else .str r.2) :: List.zipWith (fun k' x => if k' = [c] then D.str p else x) (dcK F) (dcX F) = D.str (if r.1 = c then (c, p) else r).2 :: dcX (F.map _)
    rw [dc_zip c p F]
    congr 1
    by_cases e : r.1 = c
    · rw [if_pos e, if_pos (by rw [e])]
    · rw [if_neg e, if_neg (fun h => e (List.cons.inj h).1)]
theorem dc_keys (c : Nat) (p : List Nat) : ∀ F : List Rule, dcK (F.map (fun r => if r.1 = c then (c, p) else r)) = dcK F
  | [] => rfl
  | r :: F => by
    show [(if r.1 = c then (c, p) else r).1] :: dcK (F.map _) = [r.1] :: dcK F
    rw [dc_keys c p F]
    congr 2
    by_cases e : r.1 = c
    · rw [if_pos e]; exact e.symm
    · rw [if_neg e]
theorem dc_put (F : List Rule) (c : Nat) (p : List Nat) : kput (dcK F) (dcX F) [c] (.str p) = (dcK (putF F c p), dcX (putF F c p)) := by
  unfold kput putF
  rw [dc_has]
  by_cases h : (F.map (·.1)).contains c = true
  · rw [if_pos h, if_pos h, dc_keys, dc_zip]
  · rw [if_neg h, if_neg h]
    show (dcK F ++ [[c]], dcX F ++ [D.str p]) = (List.map _ (F ++ [(c, p)]), List.map _ (F ++ [(c, p)]))
    rw [List.map_append, List.map_append]; rfl
theorem putF_keys (F : List Rule) (c : Nat) (p : List Nat) (h : (F.map (·.1)).Nodup) : ((putF F c p).map (·.1)).Nodup := by
  unfold putF
  by_cases q : (F.map (·.1)).contains c = true
  · rw [if_pos q]
    have : (F.map (fun r => if r.1 = c then (c, p) else r)).map (·.1) = F.map (·.1) := by
      rw [List.map_map]
      refine List.map_congr_left fun r hr => ?_
      show (if r.1 = c then (c, p) else r).1 = r.1
      by_cases e : r.1 = c
      · rw [if_pos e]; exact e.symm
      · rw [if_neg e]
    rw [this]; exact h
  · rw [if_neg q, List.map_append]
    refine List.nodup_append.mpr ⟨h, by simp, fun a ha b hb e => ?_⟩
    simp at hb
    subst hb
    subst e
    exact q (List.contains_iff_mem.mpr ha)
theorem putF_len (F : List Rule) (c : Nat) (p : List Nat) : (putF F c p).length ≤ F.length + 1 := by
  unfold putF
  split
  · rw [List.length_map]; omega
  · rw [List.length_append]; exact Nat.le_refl _
theorem putF_ok {F : List Rule} {c : Nat} {p : List Nat} (h : ∀ r ∈ F, RuleOk r) (hr : RuleOk (c, p)) : ∀ r ∈ putF F c p, RuleOk r := by
  unfold putF
  split
  · intro r hm
    obtain ⟨q, hq, e⟩ := List.mem_map.mp hm
    by_cases z : q.1 = c
    · rw [if_pos z] at e; rw [← e]; exact hr
    · rw [if_neg z] at e; rw [← e]; exact h q hq
  · intro r hm
    rcases List.mem_append.mp hm with q | q
    · exact h r q
    · rw [List.mem_singleton.mp q]; exact hr
theorem insL_map {α β : Type} (f : α → β) (le : β → β → Bool) (x : α) : ∀ l : List α, insL le (f x) (l.map f) = (insL (fun a b => le (f a) (f b)) x l).map f
  | [] => rfl
  | y :: l => by
    show (if le (f x) (f y) = true then f x :: f y :: l.map f else f y :: insL le (f x) (l.map f)) = (if le (f x) (f y) = true then x :: y :: l else y :: insL _ x l).map f
    split
    · rfl
    · rw [insL_map f le x l]; rfl
theorem isortL_map {α β : Type} (f : α → β) (le : β → β → Bool) : ∀ l : List α, isortL le (l.map f) = (isortL (fun a b => le (f a) (f b)) l).map f
  | [] => rfl
  | x :: l => by
    show insL le (f x) (isortL le (l.map f)) = (insL _ x (isortL _ l)).map f
    rw [isortL_map f le l, insL_map]
theorem leT_one (a b : Nat) : leT [a] [b] = decide (a ≤ b) := by
  unfold leT
  have : ([b] < [a]) ↔ b < a := by
    constructor
    · intro h
      rcases Nat.lt_or_ge b a with q | q
      · exact q
      · exfalso
        cases h with
        | cons h => exact absurd h (by simp)
        | rel h => omega
    · intro h; exact List.Lex.rel h
  by_cases h : b < a
  · rw [decide_eq_true (this.mpr h), decide_eq_false (by omega)]; rfl
  · rw [decide_eq_false (fun q => h (this.mp q)), decide_eq_true (by omega)]; rfl
/-- the rules, sorted -/
def sortR (F : List Rule) : List Rule := isortL (fun a b => decide (a.1 ≤ b.1)) F
theorem sortR_perm (F : List Rule) : (sortR F).Perm F := isortL_perm _ F
theorem sortR_up (F : List Rule) (h : (F.map (·.1)).Nodup) : (sortR F).Pairwise fun a b => a.1 < b.1 := by
  have h1 : (sortR F).Pairwise fun a b => decide (a.1 ≤ b.1) = true := isortL_pw (le := fun a b : Rule => decide (a.1 ≤ b.1)) (fun a b q => by simp at *; omega) (fun a b c q r => by simp at *; omega) F
  have h2 : ((sortR F).map (·.1)).Nodup := ((sortR_perm F).map (·.1)).nodup_iff.mpr h
  have h3 : (sortR F).Pairwise fun a b => a.1 ≠ b.1 := List.pairwise_map.mp h2
  exact h1.imp₂ (fun a b q r => by simp at q; omega) h3
theorem pairsF (F : List Rule) : pairsD (dcK F) (dcX F) = F.map ruD := by
  unfold pairsD dcK dcX
  induction F with
  | nil => rfl
  | cons r F ih => rw [List.map_cons, List.map_cons, List.zipWith_cons_cons, ih]; rfl
theorem strs_ru (r : Rule) (F : List Rule) : strs? ((r :: F).map ruD) = none := rfl
theorem sorted_ru (F : List Rule) (h : (F.map (·.1)).Nodup) : sortedD (.lst (F.map ruD)) = some (.new (.lst ((sortR F).map ruD))) := by
  have e1 : isortL leK (F.map ruD) = (sortR F).map ruD := by
    rw [isortL_map]
    have : (fun a b : Rule => leK (ruD a) (ruD b)) = fun a b => decide (a.1 ≤ b.1) := funext fun a => funext fun b => leT_one a.1 b.1
    rw [this]; rfl
  cases F with
  | nil => rfl
  | cons r F =>
    show (match strs? ((r :: F).map ruD) with
      | some xs => if xs.length < 64 then some (Hd.new (.lst ((isortL leT xs).map .str))) else none
      | none => if (((r :: F).map ruD).all fun d => (fstD d).isSome) = true ∧ (((r :: F).map ruD).map keyD).Nodup then some (.new (.lst (isortL leK ((r :: F).map ruD)))) else none) = _
    rw [strs_ru]
    show (if (((r :: F).map ruD).all fun d => (fstD d).isSome) = true ∧ (((r :: F).map ruD).map keyD).Nodup then some (Hd.new (.lst (isortL leK ((r :: F).map ruD)))) else none) = _
    have h1 : (((r :: F).map ruD).all fun d => (fstD d).isSome) = true := List.all_eq_true.mpr fun d hd => by
      obtain ⟨q, _, e⟩ := List.mem_map.mp hd
      rw [← e]; rfl
    have h2 : (((r :: F).map ruD).map keyD).Nodup := by
      rw [List.map_map]
      have : keyD ∘ ruD = fun r : Rule => [r.1] := rfl
      rw [this]
      have h3 : (r :: F).Pairwise fun a b => a.1 ≠ b.1 := List.pairwise_map.mp h
      exact List.pairwise_map.mpr (h3.imp fun h e => h (List.cons.inj e).1)
    rw [if_pos ⟨h1, h2⟩, e1]
theorem three_at : ∀ j : Nat, j < 3 → ∃ f : Int, 0 < f ∧ f ≤ 4 ∧ ([D.int 4, D.int 3, D.int 2])[j]? = some (.int f)
  | 0, _ => ⟨4, by decide, by decide, rfl⟩
  | 1, _ => ⟨3, by decide, by decide, rfl⟩
  | 2, _ => ⟨2, by decide, by decide, rfl⟩
  | n + 3, h => absurd h (by omega)
def putBody : M Fl := (sSet 6 (eOp aPlus (eVar 6) (eCall 3 F__law_letter (eCons (eVar 0) (eCons (eVar 1) (eCons (eOp aFdiv (eVar 5) (eOp aTimes (eC (.int 31)) (eOp aPlus (eOp aTimes (eC (.int 3)) (eVar 7)) (eC (.int 1))))) eNil))))))
def ruleBody : M Fl := (sSeq (sSet 5 (eOp aFdiv (eCall 2 F__law_value (eCons (eOp aPlus (eCall 2 F__law_cell_at (eCons (eVar 0) (eCons (eOp aPlus (eVar 1) (eOp aMod (eVar 4) (eC (.int 4)))) eNil))) (eOp aTimes (eC (.int 29)) (eVar 4))) (eCons (eC (.int 3)) eNil))) (eC (.int 3))))
    (sSeq (sSet 6 (eC (.str [])))
    (sSeq (sFor (itRngN 1 (eCons (eOp aMod (eOp aFdiv (eVar 5) (eC (.int 7))) (eOp aIx (eTup (dCons (eC (.int 4)) (dCons (eC (.int 3)) (dCons (eC (.int 2)) dNil)))) (eOp aMod (eOp aFdiv (eVar 3) (eC (.int 5))) (eC (.int 3))))) eNil)) (gN 7)
      putBody)
    (sSetK 2 (eCall 3 F__law_letter (eCons (eVar 0) (eCons (eVar 1) (eCons (eVar 5) eNil)))) (eVar 6)))))
theorem nodup_dcK {F : List Rule} (h : (F.map (·.1)).Nodup) : (dcK F).Nodup := by
  have h3 : F.Pairwise fun a b => a.1 ≠ b.1 := List.pairwise_map.mp h
  exact List.pairwise_map.mpr (h3.imp fun h e => h (List.cons.inj e).1)
theorem rule_turn (cs : List Int) (hc : Cells cs) (b i : Nat) (z : Int) (hi : i < 5) (F : List Rule) (hF : F.length ≤ 5) (x5 x6 x7 x8 : S) :
    ∃ c p y5 y6 y7, RuleOk (c, p) ∧ ruleBody [.bor (.lst (cs.map .int)), .fr (nD b), .own (.dic (dcK F) (dcX F)), .fr (.int z), .fr (nD i), x5, x6, x7, x8] = .ok .nx [.bor (.lst (cs.map .int)), .fr (nD b), .own (.dic (dcK (putF F c p)) (dcX (putF F c p))), .fr (.int z), .fr (nD i), y5, y6, y7, x8] := by
  have c1 : Bd 1100000 (cs.getD (b + i % 4) 0 + 29 * (i : Int)) := bd_cell (hc _) (by omega)
  obtain ⟨v, e1, v0, _⟩ := law_value (cs.getD (b + i % 4) 0 + 29 * (i : Int)) 3 c1 (by decide)
  have c2 := cell_at cs (b + i % 4)
  have t1 := aTimes_b (i := 29) (j := (i : Int)) (n := 40) (m := 40) (Bd.small (by decide) (by decide)) (Bd.small (by omega) (by decide)) (by decide)
  have q1 := aMod_nat i 4 (by decide)
  have q3 : aFdiv (.int v) (.int 3) = some (.val (.int (v / 3))) := aFdiv_i (by decide) (by decide)
  obtain ⟨j, ej, hj⟩ := emod_nat (z / 5) (m := 3) (by decide)
  obtain ⟨f, f0, f1, ef⟩ := three_at j hj
  have m1 : aFdiv (.int z) (.int 5) = some (.val (.int (z / 5))) := aFdiv_i (by decide) (by decide)
  have m2 : aMod (.int (z / 5)) (.int 3) = some (.val (.int (j : Int))) := by rw [aMod_i (by decide)]; exact congrArg (fun q => some (Hd.val (.int q))) ej
  have m3 : aFdiv (.int (v / 3)) (.int 7) = some (.val (.int (v / 3 / 7))) := aFdiv_i (by decide) (by decide)
  have fn : f = ((f.toNat : Nat) : Int) := by omega
  obtain ⟨n, en, hn⟩ := emod_nat (v / 3 / 7) (m := f.toNat) (by omega)
  have m4 : aMod (.int (v / 3 / 7)) (.int f) = some (.val (.int (n : Int))) := by rw [aMod_i f0]; rw [← fn] at en; exact congrArg (fun q => some (Hd.val (.int q))) en
  have rg := rg1 (n := n) (by omega)
  obtain ⟨c, l1, l2⟩ := law_letter cs b (v / 3) hc
  obtain ⟨ρ', k1, p, y7, p1, p2, p3⟩ := loop_ints (n := n) (tg := gN 7) (body := putBody) (fun i' ρ => ∃ (p : List Nat) (y7 : S), Low p ∧ p.length = i' ∧ ρ = [.bor (.lst (cs.map .int)), .fr (nD b), .own (.dic (dcK F) (dcX F)), .fr (.int z), .fr (nD i), .fr (.int (v / 3)), .fr (.str p), y7, x8])
    (fun i' ρ hi' ⟨p, y7, h1, h2, h3⟩ => by
      subst h3
      obtain ⟨c', l3, l4⟩ := law_letter cs b (v / 3 / (31 * (3 * (i' : Int) + 1))) hc
      have t2 := aTimes_b (i := 3) (j := (i' : Int)) (n := 40) (m := 40) (Bd.small (by decide) (by decide)) (Bd.small (by omega) (by decide)) (by decide)
      have t3 := aTimes_b (i := 31) (j := 3 * (i' : Int) + 1) (n := 40) (m := 40) (Bd.small (by decide) (by decide)) (Bd.small (by omega) (by decide)) (by decide)
      have t4 : aFdiv (.int (v / 3)) (.int (31 * (3 * (i' : Int) + 1))) = some (.val (.int (v / 3 / (31 * (3 * (i' : Int) + 1))))) := aFdiv_i (by omega) (by omega)
      have q4 := aPlus_s (s := p) (t := [c']) (by simp only [List.length_cons, List.length_nil]; omega)
      refine ⟨[.bor (.lst (cs.map .int)), .fr (nD b), .own (.dic (dcK F) (dcX F)), .fr (.int z), .fr (nD i), .fr (.int (v / 3)), .fr (.str (p ++ [c'])), .fr (nD i'), x8], ?_, p ++ [c'], .fr (nD i'), ?_, by rw [List.length_append, h2]; rfl, rfl⟩
      · unfold putBody
        simp [t2, t3, t4, l4, q4]
      · intro d hd
        rcases List.mem_append.mp hd with q | q
        · exact h1 d q
        · rw [List.mem_singleton.mp q]; exact l3) [.bor (.lst (cs.map .int)), .fr (nD b), .own (.dic (dcK F) (dcX F)), .fr (.int z), .fr (nD i), .fr (.int (v / 3)), .fr (.str []), x7, x8] ⟨[], x7, fun _ h => (nomatch h), rfl, rfl⟩
  subst p3
  refine ⟨c, p, .fr (.int (v / 3)), .fr (.str p), y7, ⟨l1, p1, by show p.length ≤ 3; omega⟩, ?_⟩
  have kp := dc_put F c p
  have hs : F.length < SLine := sl_lt (by omega)
  have c2 : F__law_cell_at [.lst (cs.map .int), .int ((b : Int) + ((i % 4 : Nat) : Int))] = .ret (.fr (.int (cs.getD (b + i % 4) 0))) := by
    rw [← Int.natCast_add]; exact c2
  have e1 : F__law_value [.int (cs.getD (b + i % 4) 0 + 29 * (i : Int)), .int 3] = .ret (.fr (.int v)) := e1
  simp only [List.getD_eq_getElem?_getD] at c2 e1
  simp only [Int.cast_ofNat_Int] at q1
  unfold ruleBody
  simp [c2, t1, q1, q3, e1, m1, m2, m3, m4, ef, aIx, ixD, atI_nat, sFor_r, rg, k1, l2, kp, hs, -Int.natCast_emod]
theorem law_rules (cs : List Int) (b : Nat) (hc : Cells cs) : ∃ rs, RulesOk rs ∧ F__law_rules [.lst (cs.map .int), .int (b : Int)] = .ret (.own (.lst (rs.map ruD))) := by
  obtain ⟨z, e1, hz, _⟩ := law_value (cs.getD b 0) 10 (Bd.mono (hc b) (by decide)) (by decide)
  obtain ⟨n, en, hn⟩ := emod_nat z (m := 5) (by omega)
  have m1 : aMod (.int z) (.int 5) = some (.val (nD n)) := by rw [aMod_i (by omega)]; exact congrArg (fun q => some (Hd.val (.int q))) en
  have rg := rg1 (n := n) (by omega)
  obtain ⟨ρ', k1, F, x4, x5, x6, x7, f1, f2, f3, f4⟩ := loop_ints (n := n) (tg := gN 4) (body := ruleBody) (fun i ρ => ∃ (F : List Rule) (x4 x5 x6 x7 : S), (∀ r ∈ F, RuleOk r) ∧ (F.map (·.1)).Nodup ∧ F.length ≤ i ∧ ρ = [.bor (.lst (cs.map .int)), .fr (nD b), .own (.dic (dcK F) (dcX F)), .fr (.int z), x4, x5, x6, x7, .un])
    (fun i ρ hi ⟨F, x4, x5, x6, x7, h1, h2, h3, h4⟩ => by
      subst h4
      obtain ⟨c, p, y5, y6, y7, g1, g2⟩ := rule_turn cs hc b i z (by omega) F (by omega) x5 x6 x7 .un
      exact ⟨_, by simp only [gN_r, nx_ok, thn_ok, List.set_cons_succ, List.set_cons_zero]; exact g2, putF F c p, _, _, _, _, putF_ok h1 g1, putF_keys F c p h2, by have := putF_len F c p; omega, rfl⟩)
    [.bor (.lst (cs.map .int)), .fr (nD b), .own (.dic [] []), .fr (.int z), .un, .un, .un, .un, .un] ⟨[], _, _, _, _, fun _ h => (nomatch h), List.nodup_nil, Nat.le_refl _, rfl⟩
  subst f4
  refine ⟨sortR F, ⟨fun r hr => f1 r ((sortR_perm F).mem_iff.mp hr), by rw [(sortR_perm F).length_eq]; omega, sortR_up F f2⟩, ?_⟩
  have c0 := cell_at cs b
  have e1 : F__law_value [.int (cs.getD b 0), .int 10] = .ret (.fr (.int z)) := e1
  have s1 := sorted_ru F f2
  have s2 := pairsF F
  have s3 : (F.length < SLine ∧ (dcK F).Nodup) := ⟨sl_lt (by omega), nodup_dcK f2⟩
  simp only [nD] at k1 m1
  simp only [List.getD_eq_getElem?_getD] at c0 e1
  unfold F__law_rules B__law_rules
  show runF 9 (sSeq _ (sSeq (sFor _ _ ruleBody) _)) _ = _
  simp [runF_eq, startS, paramS, List.replicate, c0, e1, m1, sFor_r, rg, k1, s1, s2, s3]
end G

/-! ## P_chk -/
set_option Elab.async false
set_option linter.all false
set_option maxRecDepth 100000
set_option maxHeartbeats 400000
namespace G
open PySem L2 Vi
/-! #### rules, rounds -/
theorem is_rule (r : Rule) (h : RuleOk r) : F_is_rule [ruD r] = .ret (.fr (.bl true)) := by
  have k1 := is_letters [r.1] 1 1 (fun c hc => by rw [List.mem_singleton.mp hc]; exact h.c) (by simp) (by simp) (by simp)
  have k2 := is_letters r.2 0 3 h.p (by omega) (by have := h.l; omega) (by have := h.l; omega)
  unfold F_is_rule B_is_rule
  simp [runF_eq, startS, paramS, List.replicate, isiD, tyD, isiT, isiB, okB, aIx, ixD, atI, ixN, k1, k2, truD]
theorem cGe_one (a b : Nat) : cGe (.str [a]) (.str [b]) = some (.val (.bl (decide (b ≤ a)))) := by
  show some (Hd.val (.bl (!decide ([a] < [b])))) = _
  have := leT_one b a
  unfold leT at this
  rw [this]
theorem zip_rules : ∀ rs : List Rule, zipD (rs.map ruD) ((rs.map ruD).drop 1) = (rs.zip (rs.drop 1)).map fun p => .tup [ruD p.1, ruD p.2]
  | [] => rfl
  | [r] => rfl
  | r :: q :: rs => by
    have ih := zip_rules (q :: rs)
    show D.tup [ruD r, ruD q] :: zipD ((q :: rs).map ruD) (((q :: rs).map ruD).drop 1) = D.tup [ruD r, ruD q] :: ((q :: rs).zip ((q :: rs).drop 1)).map _
    rw [ih]
theorem up_zip : ∀ {rs : List Rule}, (rs.Pairwise fun a b => a.1 < b.1) → ∀ p ∈ rs.zip (rs.drop 1), p.1.1 < p.2.1
  | [], _, p, h => by simp at h
  | [r], _, p, h => by simp at h
  | r :: q :: rs, h, p, hp => by
    have h := List.pairwise_cons.mp h
    have hp : p ∈ (r, q) :: (q :: rs).zip ((q :: rs).drop 1) := hp
    rcases List.mem_cons.mp hp with e | e
    · rw [e]; exact h.1 q List.mem_cons_self
    · exact up_zip h.2 p e
theorem slD_l1 {xs : List D} : slD (.lst xs) (some 1) none = some (.new (.lst (xs.drop 1))) := by
  show some (Hd.new (.lst (cut xs (some ((1 : Nat) : Int)) none))) = _
  have : cut xs (some ((1 : Nat) : Int)) none = xs.drop 1 := by
    unfold cut
    rw [HT.sIx_nat]
    show (xs.drop (min 1 xs.length)).take (xs.length - min 1 xs.length) = _
    by_cases h : 1 ≤ xs.length
    · rw [Nat.min_eq_left h, List.take_of_length_le (by simp)]
    · have : xs = [] := List.eq_nil_of_length_eq_zero (by omega)
      subst this; rfl
  rw [this]
theorem check_rules (rs : List Rule) (h : RulesOk rs) : F_check_rules [.lst (rs.map ruD)] = .ret (.fr .non) := by
  have a1 : ¬ (4 : Int) < rs.length := by have := h.len; omega
  have hl := h.len
  have c2 := eLc_one (it := itAny (eVar 0)) (v := 3) (cond := tYesM) (elt := eCall 1 F_is_rule (eCons (eVar 3) eNil)) (ρ := [.bor (.lst (rs.map ruD)), .un, .un, .un]) (xs := rs.map ruD) (fun _ => true) (fun _ => .bl true)
    (by simp) (by simp) rfl (fun x hx => by
      obtain ⟨r, hr, e⟩ := List.mem_map.mp hx
      subst e
      have := is_rule r (h.all r hr)
      refine ⟨by simp, fun _ => ?_⟩
      simp [this]) (by rw [List.length_map]; exact sl_of (by omega))
  have e1 : ((rs.map ruD).filter fun _ => true).map (fun _ => D.bl true) = rs.map fun _ => D.bl true := by
    rw [List.filter_eq_self.mpr (fun _ _ => rfl), List.map_map]; rfl
  rw [e1] at c2
  have b := bls_map (fun _ : Rule => true) rs
  have tt : (rs.all fun _ => true) = true := List.all_eq_true.mpr fun _ _ => rfl
  have sl := slD_l1 (xs := rs.map ruD)
  have zr := zip_rules rs
  have c3 := eLc_gen (it := itZip (eVar 0) (eSl (eVar 0) (oSome (eC (.int 1))) oNone)) (tg := gT 2 (gsCons (gN 1) (gsCons (gN 2) gsNil))) (cond := tYesM) (elt := eOp cGe (eOp aIx (eVar 1) (eC (.int 0))) (eOp aIx (eVar 2) (eC (.int 0)))) (vs := [1, 2])
    (ρ := [.bor (.lst (rs.map ruD)), .un, .un, .un]) (xs := (rs.zip (rs.drop 1)).map fun p => .tup [ruD p.1, ruD p.2]) (fun _ => true) (fun _ => .bl false)
    (by simp [sl]; simpa using zr) rfl rfl (fun x hx => by
      obtain ⟨p, hp, e⟩ := List.mem_map.mp hx
      subst e
      have lt := up_zip h.up p hp
      have ge := cGe_one p.1.1 p.2.1
      rw [decide_eq_false (by omega)] at ge
      refine ⟨[.bor (.lst (rs.map ruD)), .fr (ruD p.1), .fr (ruD p.2), .un], by simp [wipeS], rfl, fun _ => ?_, rfl⟩
      simp [aIx, ixD, atI, ixN, ge]) (by rw [List.length_map, List.length_zip]; exact sl_of (by omega))
  rw [filt_map] at c3
  have b3 := bls_map (fun _ : Rule × Rule => false) (rs.zip (rs.drop 1))
  have ff : ((rs.zip rs.tail).any fun _ => false) = false := List.any_eq_false.mpr fun _ _ => Bool.false_ne_true
  unfold F_check_rules B_check_rules
  simp [runF_eq, startS, paramS, List.replicate, isiD, tyD, isiT, isiB, okB, a1, c2, allD, b, tt]
  simp at c3 b3
  simp [c3, anyD, b3, -List.any_eq_true, ff]
end G

/-! ## P_round -/
set_option Elab.async false
set_option linter.all false
set_option maxRecDepth 100000
set_option maxHeartbeats 400000
namespace G
open PySem L2 Vi
/-! #### rules, rounds -/
def putR (rs : List Rule) (c : Nat) : List Nat := ((rs.find? fun r => r.1 == c).map (·.2)).getD [c]
def roundL (rs : List Rule) (t : List Nat) : List Nat := t.flatMap (putR rs)
theorem putR_len {rs : List Rule} (h : RulesOk rs) (c : Nat) : (putR rs c).length ≤ 3 := by
  unfold putR
  cases e : rs.find? fun r => r.1 == c with
  | none => show ([c] : List Nat).length ≤ 3; simp
  | some r => exact (h.all r (List.mem_of_find?_eq_some e)).l
theorem putR_low {rs : List Rule} (h : RulesOk rs) {c : Nat} (hc : 97 ≤ c ∧ c ≤ 122) : Low (putR rs c) := by
  unfold putR
  cases e : rs.find? fun r => r.1 == c with
  | none => exact fun d hd => by rw [List.mem_singleton.mp hd]; exact hc
  | some r => exact (h.all r (List.mem_of_find?_eq_some e)).p
theorem round_len {rs : List Rule} (h : RulesOk rs) : ∀ t : List Nat, (roundL rs t).length ≤ 3 * t.length
  | [] => Nat.le_refl _
  | c :: t => by
    have := round_len h t
    have h1 := putR_len h c
    show (putR rs c ++ roundL rs t).length ≤ _
    rw [List.length_append, List.length_cons]; omega
theorem round_low {rs : List Rule} (h : RulesOk rs) {t : List Nat} (ht : Low t) : Low (roundL rs t) := fun d hd => by
  obtain ⟨c, hc, q⟩ := List.mem_flatMap.mp hd
  exact putR_low h (ht c hc) d q
theorem round_app (rs : List Rule) (s t : List Nat) : roundL rs (s ++ t) = roundL rs s ++ roundL rs t := List.flatMap_append
theorem prs_ru : ∀ rs : List Rule, prs? (rs.map ruD) = some (rs.map fun r => ([r.1], .str r.2))
  | [] => rfl
  | r :: rs => by
    show (prs? (rs.map ruD)).map (([r.1], D.str r.2) :: ·) = _
    rw [prs_ru rs]; rfl
theorem mk_ru : ∀ (rs A : List Rule), ((A ++ rs).map (·.1)).Nodup → (rs.map fun r => (([r.1] : List Nat), D.str r.2)).foldl (fun a p => kput a.1 a.2 p.1 p.2) (dcK A, dcX A) = (dcK (A ++ rs), dcX (A ++ rs))
  | [], A, _ => by rw [List.append_nil]; rfl
  | r :: rs, A, h => by
    show (rs.map _).foldl _ (kput (dcK A) (dcX A) [r.1] (.str r.2)) = _
    rw [dc_put]
    have no : ¬ (A.map (·.1)).contains r.1 = true := fun q => by
      rw [List.map_append] at h
      exact (List.nodup_append.mp h).2.2 r.1 (List.contains_iff_mem.mp q) r.1 (by simp) rfl
    have e : putF A r.1 r.2 = A ++ [r] := by unfold putF; rw [if_neg no]
    rw [e, mk_ru rs (A ++ [r]) (by rw [List.append_assoc]; exact h), List.append_assoc]; rfl
theorem dict_ru (rs : List Rule) (h : RulesOk rs) : dictD (.lst (rs.map ruD)) = some (.new (.dic (dcK rs) (dcX rs))) := by
  have nd : (rs.map (·.1)).Nodup := List.pairwise_map.mpr (h.up.imp fun h => by omega)
  show (prs? (rs.map ruD)).map (fun ps => Hd.new (.dic (mkDic ps).1 (mkDic ps).2)) = _
  rw [prs_ru]
  have := mk_ru rs [] nd
  show some (Hd.new (.dic (mkDic _).1 (mkDic _).2)) = _
  unfold mkDic
  rw [List.nil_append] at this
  have e : (([] : List (List Nat)), ([] : List D)) = (dcK [], dcX []) := rfl
  rw [e, this]
theorem kget_ru (c : Nat) : ∀ rs : List Rule, kget (dcK rs) (dcX rs) [c] = (rs.find? fun r => r.1 == c).map fun r => .str r.2
  | [] => rfl
  | r :: rs => by
    show (if [r.1] = [c] then some (D.str r.2) else kget (dcK rs) (dcX rs) [c]) = _
    rw [kget_ru c rs, List.find?_cons]
    by_cases e : r.1 = c
    · rw [if_pos (by rw [e])]; simp [e]
    · rw [if_neg (fun h => e (List.cons.inj h).1), beq_eq_false_iff_ne.mpr e]
def getO (o : Option D) (h : Hd) : Hd := match o with | some v => .val v | none => h
@[simp] theorem isDic_d (ks : List (List Nat)) (xs : List D) : isDic (.dic ks xs) = true := (rfl)
@[simp] theorem getD2_d (ks : List (List Nat)) (xs : List D) (s : List Nat) : getD2 (.dic ks xs) (.str s) = some (kget ks xs s) := (rfl)
@[simp] theorem eGet2_r (fd fk fx : M Hd) (ρ : List S) : eGet2 fd fk fx ρ = thnK (fun hd ρ => thnK (fun d0 ρ => bif isDic d0 then thnK (fun hk ρ => thnK (fun hx ρ => thnK (fun d ρ => thnK (fun k ρ => thnK (fun o ρ => .ok (getO o hx) ρ) ((M.lift (getD2 d k) ρ)) ⟨⟩) ((rd hk ρ)) ⟨⟩) ((rd hd ρ)) ⟨⟩) ((fx ρ)) ⟨⟩) ((fk ρ)) ⟨⟩ else .bad) ((rd hd ρ)) ⟨⟩) ((fd ρ)) ⟨⟩ := by
  show (fd >>= fun hd => rd hd >>= fun d0 => guardM (isDic d0) (fk >>= fun hk => fx >>= fun hx => rd hd >>= fun d => rd hk >>= fun k => M.lift (getD2 d k) >>= fun o => match o with | some v => pure (.val v) | none => pure hx)) ρ = _
  simp only [bind_thn, guardM_r]
  refine thn_fun fun hd ρ => thn_fun fun d0 ρ => ?_
  cases isDic d0 with
  | false => rfl
  | true =>
    simp only [cond_true]
    refine thn_fun fun hk ρ => thn_fun fun hx ρ => thn_fun fun d ρ => thn_fun fun k ρ => thn_fun fun o ρ => ?_
    cases o <;> rfl
theorem getO_put (rs : List Rule) (c : Nat) : getO ((rs.find? fun r => r.1 == c).map fun r => D.str r.2) (.val (.str [c])) = .val (.str (putR rs c)) := by
  unfold putR
  cases rs.find? fun r => r.1 == c <;> rfl
@[simp] theorem eJoin_r (fo fl : M Hd) (ρ : List S) : eJoin fo fl ρ = thnK (fun ho ρ => thnK (fun d ρ => thnK (fun sep ρ => thnK (fun hl ρ => thnK (fun dl ρ => M.lift (joinD sep dl) ρ) ((rd hl ρ)) ⟨⟩) ((fl ρ)) ⟨⟩) ((M.lift (str? d) ρ)) ⟨⟩) ((rd ho ρ)) ⟨⟩) ((fo ρ)) ⟨⟩ := (rfl)
theorem strs_map {α : Type} (f : α → List Nat) : ∀ t : List α, strs? (t.map fun c => .str (f c)) = some (t.map f)
  | [] => rfl
  | c :: t => by
    show (strs? (t.map fun c => D.str (f c))).map (f c :: ·) = _
    rw [strs_map f t]; rfl
theorem joinL_nil : ∀ xs : List (List Nat), TL.joinL [] xs = xs.flatten
  | [] => rfl
  | [p] => by show p = _; simp
  | p :: q :: r => by
    show p ++ ([] ++ TL.joinL [] (q :: r)) = _
    rw [joinL_nil (q :: r)]; rfl
theorem sum_le {α : Type} (f : α → List Nat) (h : ∀ c, (f c).length ≤ 3) : ∀ t : List α, ((t.map f).map (·.length)).sum ≤ 3 * t.length
  | [] => Nat.le_refl _
  | c :: t => by
    have := sum_le f h t
    have h1 := h c
    show (f c).length + ((t.map f).map (·.length)).sum ≤ _
    rw [List.length_cons]; omega
theorem join_put {rs : List Rule} (h : RulesOk rs) (t : List Nat) (ht : t.length ≤ 300000) : joinD [] (.lst (t.map fun c => .str (putR rs c))) = some (.val (.str (roundL rs t))) := by
  show (strs? (t.map fun c => D.str (putR rs c))).bind (fun xs => if (xs.map (·.length)).sum + xs.length * ([] : List Nat).length ≤ SLine then some (Hd.val (.str (TL.joinL [] xs))) else none) = _
  rw [strs_map]
  have := sum_le (putR rs) (putR_len h) t
  show (if ((t.map (putR rs)).map (·.length)).sum + (t.map (putR rs)).length * 0 ≤ SLine then some (Hd.val (.str (TL.joinL [] (t.map (putR rs))))) else none) = _
  rw [if_pos (sl_le (by omega)), joinL_nil]
  rfl
end G

/-! ## P_roundb -/
set_option Elab.async false
set_option linter.all false
set_option maxRecDepth 100000
set_option maxHeartbeats 400000
namespace G
open PySem L2 Vi
theorem round_of (t : List Nat) (rs : List Rule) (h : RulesOk rs) (ht : t.length ≤ 300000) : F_round_of [.str t, .lst (rs.map ruD)] = .ret (.fr (.str (roundL rs t))) := by
  have k := eLc_one (it := itAny (eVar 0)) (v := 3) (cond := tYesM) (elt := eGet2 (eVar 2) (eVar 3) (eVar 3)) (ρ := [.fr (.str t), .bor (.lst (rs.map ruD)), .own (.dic (dcK rs) (dcX rs)), .un]) (xs := t.map fun c => .str [c]) (fun _ => true) (fun d => match d with | .str [c] => D.str (putR rs c) | _ => .non)
    (by simp) (by simp) rfl (fun x hx => by
      obtain ⟨c, hc, e⟩ := List.mem_map.mp hx
      subst e
      have g := kget_ru c rs
      have g2 := getO_put rs c
      refine ⟨by simp, fun _ => ?_⟩
      simp [g, g2]) (by rw [List.length_map]; exact sl_le (by omega))
  have e2 : ((t.map fun c => D.str [c]).filter fun _ => true).map (fun d => match d with | .str [c] => D.str (putR rs c) | _ => .non) = t.map fun c => D.str (putR rs c) := by
    rw [List.filter_eq_self.mpr (fun _ _ => rfl), List.map_map]; rfl
  rw [e2] at k
  have d := dict_ru rs h
  have j := join_put h t ht
  unfold F_round_of B_round_of
  simp [runF_eq, startS, paramS, List.replicate, d, k, j]
end G

/-! ## P_gone -/
set_option Elab.async false
set_option linter.all false
set_option maxRecDepth 100000
set_option maxHeartbeats 400000
namespace G
open PySem L2 Vi
theorem gone_round (t : List Nat) (rs : List Rule) (ht : Low t) (h1 : t.length ≤ 30) (h : RulesOk rs) : F_gone_round [.str t, .lst (rs.map ruD)] = .ret (.fr (.str (roundL rs t))) := by
  unfold F_gone_round B_gone_round
  simp [runF_eq, startS, paramS, List.replicate, check_text t 30 ht (by omega) (by omega), check_rules rs h, round_of t rs h (by omega)]
end G

/-! ## P_ev -/
set_option Elab.async false
set_option linter.all false
set_option maxRecDepth 100000
set_option maxHeartbeats 400000
namespace G
open PySem L2 Vi
/-! #### letters that vanish -/
/-- whether nothing is left of a letter behind m rounds -/
def Ev (rs : List Rule) : Nat → Nat → Bool
  | 0, _ => false
  | m + 1, c => (putR rs c).all (Ev rs m)
theorem ev_up (rs : List Rule) : ∀ (m c : Nat), Ev rs m c = true → Ev rs (m + 1) c = true
  | 0, c, h => by cases h
  | m + 1, c, h => by
    unfold Ev at h ⊢
    exact List.all_eq_true.mpr fun s hs => ev_up rs m s (List.all_eq_true.mp h s hs)
theorem ev_le (rs : List Rule) {m n : Nat} (h : m ≤ n) {c : Nat} (e : Ev rs m c = true) : Ev rs n c = true := by
  induction n with
  | zero => have : m = 0 := by omega
            subst this; exact e
  | succ n ih =>
    by_cases q : m = n + 1
    · subst q; exact e
    · exact ev_up rs n c (ih (by omega))
theorem putR_none {rs : List Rule} {c : Nat} (h : ∀ r ∈ rs, r.1 ≠ c) : putR rs c = [c] := by
  unfold putR
  have : rs.find? (fun r => r.1 == c) = none := List.find?_eq_none.mpr fun r hr => by simpa using h r hr
  rw [this]; rfl
theorem ev_rule {rs : List Rule} : ∀ {m c : Nat}, Ev rs m c = true → ∃ r ∈ rs, r.1 = c
  | 0, c, h => by cases h
  | m + 1, c, h => by
    by_cases q : ∃ r ∈ rs, r.1 = c
    · exact q
    · have e := putR_none (rs := rs) (c := c) fun r hr e => q ⟨r, hr, e⟩
      unfold Ev at h
      rw [e] at h
      exact ev_rule (m := m) (by simpa using h)
abbrev Keys (rs : List Rule) : Prop := (rs.map (·.1)).Nodup
theorem RulesOk.keys {rs : List Rule} (h : RulesOk rs) : Keys rs := List.pairwise_map.mpr (h.up.imp fun h => by omega)
theorem putR_mem : ∀ {rs : List Rule} {r : Rule}, Keys rs → r ∈ rs → putR rs r.1 = r.2
  | q :: rs, r, h, hr => by
    have h := List.nodup_cons.mp h
    unfold putR
    rw [List.find?_cons]
    rcases List.mem_cons.mp hr with e | e
    · subst e; simp
    · have ne : q.1 ≠ r.1 := fun z => h.1 (List.mem_map.mpr ⟨r, e, z.symm⟩)
      rw [beq_eq_false_iff_ne.mpr ne]
      exact putR_mem h.2 e
theorem okD_strs {xs : List (List Nat)} (h : ∀ x ∈ xs, Low x) : okD (.lst (xs.map .str)) = true ∧ depD (.lst (xs.map .str)) ≤ 60 := by
  refine ⟨okDs_all fun d hd => ?_, ?_⟩
  · obtain ⟨x, hx, e⟩ := List.mem_map.mp hd
    rw [← e]
    show x.all (· < 0x110000) = true
    exact List.all_eq_true.mpr fun c hc => by have := h x hx c hc; simp; omega
  · have := depDs_all (k := 0) (ds := xs.map .str) fun d hd => by obtain ⟨o, ho, e⟩ := List.mem_map.mp hd; rw [← e]; exact Nat.le_refl 0
    show depDs (xs.map .str) + 1 ≤ 60
    omega
theorem cNe_nil {xs : List (List Nat)} (h : ∀ x ∈ xs, Low x) : cNe (.lst (xs.map .str)) (.lst []) = some (.val (.bl !xs.isEmpty)) := by
  obtain ⟨h1, h2⟩ := okD_strs h
  unfold cNe
  have e : eqG (.lst (xs.map .str)) (.lst []) = some xs.isEmpty := by
    show (if okD (.lst (xs.map .str)) = true ∧ okD (.lst []) = true ∧ depD (.lst (xs.map .str)) ≤ 60 ∧ depD (.lst []) ≤ 60 then some (eqD (.lst (xs.map .str)) (.lst [])) else none) = _
    rw [if_pos ⟨h1, rfl, h2, by decide⟩]
    cases xs with
    | nil => rfl
    | cons x xs => rfl
  rw [e]; rfl
theorem low_one {c : Nat} (h : 97 ≤ c ∧ c ≤ 122) : Low [c] := fun d hd => by rw [List.mem_singleton.mp hd]; exact h
theorem ne_letters {ms : List Nat} (h : ∀ c ∈ ms, 97 ≤ c ∧ c ≤ 122) : cNe (.lst (ms.map fun c => .str [c])) (.lst []) = some (.val (.bl !ms.isEmpty)) := by
  have := cNe_nil (xs := ms.map fun c => [c]) fun x hx => by
    obtain ⟨c, hc, e⟩ := List.mem_map.mp hx
    rw [← e]; exact low_one (h c hc)
  rw [List.map_map] at this
  have e : ms.isEmpty = (ms.map fun c => [c]).isEmpty := by cases ms <;> rfl
  rw [e]; exact this
end G

/-! ## P_van -/
set_option Elab.async false
set_option linter.all false
set_option maxRecDepth 100000
set_option maxHeartbeats 400000
namespace G
open PySem L2 Vi
/-! the program's way -/
abbrev Lev := Nat × Nat
def vK (F : List Lev) : List (List Nat) := F.map fun p => [p.1]
def vX (F : List Lev) : List D := F.map fun p => nD p.2
def hasL (F : List Lev) (c : Nat) : Bool := (F.map (·.1)).contains c
theorem vK_has (c : Nat) : ∀ F : List Lev, (vK F).contains [c] = hasL F c
  | [] => rfl
  | r :: F => by
    show ([r.1] :: vK F).contains [c] = (r.1 :: F.map (·.1)).contains c
    rw [List.contains_cons, List.contains_cons, vK_has c F]
    congr 1
    by_cases e : c = r.1
    · subst e; simp
    · rw [beq_eq_false_iff_ne.mpr e, beq_eq_false_iff_ne.mpr (fun h => e (List.cons.inj h).1)]
theorem vK_put (F : List Lev) (c m : Nat) (h : hasL F c = false) : kput (vK F) (vX F) [c] (nD m) = (vK (F ++ [(c, m)]), vX (F ++ [(c, m)])) := by
  unfold kput
  rw [vK_has, h, if_neg Bool.false_ne_true]
  show _ = (List.map _ (F ++ [(c, m)]), List.map _ (F ++ [(c, m)]))
  rw [List.map_append, List.map_append]; rfl
theorem cIn_v (F : List Lev) (c : Nat) : cIn (.str [c]) (.dic (vK F) (vX F)) = some (.val (.bl (hasL F c))) := by
  show some (Hd.val (.bl ((vK F).contains [c]))) = _
  rw [vK_has]
theorem cNotIn_v (F : List Lev) (c : Nat) : cNotIn (.str [c]) (.dic (vK F) (vX F)) = some (.val (.bl !(hasL F c))) := by
  show some (Hd.val (.bl !((vK F).contains [c]))) = _
  rw [vK_has]
def nextV (rs : List Rule) (F : List Lev) : List Nat := (rs.filter fun r => !(hasL F r.1) && r.2.all fun s => hasL F s).map (·.1)
def firstV (rs : List Rule) : List Nat := (rs.filter fun r => r.2 == []).map (·.1)
def vanG (rs : List Rule) : Nat → List Lev → List Nat → Nat → List Lev
  | 0, F, _, _ => F
  | n + 1, F, more, m => if more.isEmpty = true then F else vanG rs n (F ++ more.map fun c => (c, m + 1)) (nextV rs (F ++ more.map fun c => (c, m + 1))) (m + 1)
def vanL (rs : List Rule) : List Lev := vanG rs 5 [] (firstV rs) 0
/-- what holds at the k-th turn -/
structure Jv (rs : List Rule) (F : List Lev) (more : List Nat) (k : Nat) : Prop where
  nd : (F.map (·.1)).Nodup
  key : ∀ c, hasL F c = Ev rs k c
  val : ∀ p ∈ F, 1 ≤ p.2 ∧ p.2 ≤ k ∧ Ev rs p.2 p.1 = true ∧ Ev rs (p.2 - 1) p.1 = false
  more : more = (rs.filter fun r => Ev rs (k + 1) r.1 && !(Ev rs k r.1)).map (·.1)
  le : k ≤ F.length
theorem jv_start {rs : List Rule} (h : Keys rs) : Jv rs [] (firstV rs) 0 := by
  refine ⟨List.nodup_nil, fun c => rfl, fun p hp => (nomatch hp), ?_, Nat.le_refl _⟩
  unfold firstV
  congr 1
  refine List.filter_congr fun r hr => ?_
  have : Ev rs 1 r.1 = (putR rs r.1).all (Ev rs 0) := rfl
  rw [this, putR_mem h hr]
  have e0 : Ev rs 0 r.1 = false := rfl
  rw [e0]
  cases r.2 with
  | nil => rfl
  | cons a l =>
    have : Ev rs 0 a = false := rfl
    rw [List.all_cons, this]; rfl
theorem sub_len {F : List Lev} {rs : List Rule} (nd : (F.map (·.1)).Nodup) (h : ∀ c, hasL F c = true → ∃ r ∈ rs, r.1 = c) : F.length ≤ rs.length := by
  have : (F.map (·.1)).length ≤ (rs.map (·.1)).length := nodup_len nd fun c hc => by
    obtain ⟨r, hr, e⟩ := h c (List.contains_iff_mem.mpr hc)
    exact List.mem_map.mpr ⟨r, hr, e⟩
  simpa using this
theorem jv_len {rs : List Rule} {F : List Lev} {more : List Nat} {k : Nat} (j : Jv rs F more k) : F.length ≤ rs.length := sub_len j.nd fun c hc => ev_rule (m := k) (by rw [← j.key]; exact hc)
theorem has_app (F : List Lev) (ms : List Nat) (m c : Nat) : hasL (F ++ ms.map fun c => (c, m)) c = (hasL F c || ms.contains c) := by
  unfold hasL
  rw [List.map_append, List.map_map, List.contains_append]
  have : ((fun p : Lev => p.1) ∘ fun c => (c, m)) = id := rfl
  rw [this, List.map_id]
theorem jv_more {rs : List Rule} {F : List Lev} {more : List Nat} {k : Nat} (j : Jv rs F more k) (c : Nat) : c ∈ more ↔ Ev rs (k + 1) c = true ∧ Ev rs k c = false := by
  rw [j.more, List.mem_map]
  constructor
  · rintro ⟨r, hr, e⟩
    have := (List.mem_filter.mp hr).2
    rw [e, Bool.and_eq_true] at this
    exact ⟨this.1, by simpa using this.2⟩
  · rintro ⟨h1, h2⟩
    obtain ⟨r, hr, e⟩ := ev_rule h1
    exact ⟨r, List.mem_filter.mpr ⟨hr, by rw [e, h1, h2]; rfl⟩, e⟩
theorem jv_next {rs : List Rule} (h : Keys rs) {F : List Lev} {more : List Nat} {k : Nat} (j : Jv rs F more k) (ne : more.isEmpty = false) : Jv rs (F ++ more.map fun c => (c, k + 1)) (nextV rs (F ++ more.map fun c => (c, k + 1))) (k + 1) := by
  have key : ∀ c, hasL (F ++ more.map fun c => (c, k + 1)) c = Ev rs (k + 1) c := fun c => by
    rw [has_app, j.key]
    cases e1 : Ev rs k c with
    | true => rw [ev_up rs k c e1]; rfl
    | false =>
      rw [Bool.false_or]
      cases e2 : Ev rs (k + 1) c with
      | true => exact List.contains_iff_mem.mpr ((jv_more j c).mpr ⟨e2, e1⟩)
      | false =>
        cases e3 : more.contains c with
        | false => rfl
        | true => rw [((jv_more j c).mp (List.contains_iff_mem.mp e3)).1] at e2; cases e2
  have mnd : more.Nodup := by
    rw [j.more]
    exact (List.Pairwise.sublist (List.Sublist.map _ List.filter_sublist) h)
  refine ⟨?_, key, fun p hp => ?_, ?_, ?_⟩
  · rw [List.map_append, List.map_map]
    have : ((fun p : Lev => p.1) ∘ fun c => (c, k + 1)) = id := rfl
    rw [this, List.map_id]
    refine List.nodup_append.mpr ⟨j.nd, mnd, fun a ha b hb e => ?_⟩
    subst e
    have h1 := ((jv_more j a).mp hb).2
    rw [← j.key] at h1
    have h2 : hasL F a = true := List.contains_iff_mem.mpr ha
    rw [h1] at h2; cases h2
  · rcases List.mem_append.mp hp with q | q
    · obtain ⟨h1, h2, h3, h4⟩ := j.val p q
      exact ⟨h1, by omega, h3, h4⟩
    · obtain ⟨c, hc, e⟩ := List.mem_map.mp q
      rw [← e]
      obtain ⟨h1, h2⟩ := (jv_more j c).mp hc
      exact ⟨Nat.succ_le_succ (Nat.zero_le _), Nat.le_refl _, h1, h2⟩
  · unfold nextV
    congr 1
    refine List.filter_congr fun r hr => ?_
    have e1 : Ev rs (k + 1 + 1) r.1 = (putR rs r.1).all (Ev rs (k + 1)) := rfl
    rw [e1, putR_mem h hr, key, Bool.and_comm]
    congr 1
    exact List.all_congr rfl fun s => key s
  · rw [List.length_append, List.length_map]
    have := j.le
    cases more with
    | nil => cases ne
    | cons a l => rw [List.length_cons]; omega
/-- .. at the end -/
theorem jv_end {rs : List Rule} (h : Keys rs) : ∀ (n : Nat) (F : List Lev) (more : List Nat) (k : Nat), Jv rs F more k → rs.length < n + F.length → ∃ k', Jv rs (vanG rs n F more k) [] k'
  | 0, F, more, k, j, hn => by have := jv_len j; omega
  | n + 1, F, more, k, j, hn => by
    unfold vanG
    cases e : more.isEmpty with
    | true =>
      rw [if_pos rfl]
      have : more = [] := List.isEmpty_iff.mp e
      subst this
      exact ⟨k, j⟩
    | false =>
      rw [if_neg Bool.false_ne_true]
      have j' := jv_next h j e
      refine jv_end h n _ _ _ j' ?_
      rw [List.length_append, List.length_map]
      cases more with
      | nil => cases e
      | cons a l => rw [List.length_cons]; omega
theorem ev_stop {rs : List Rule} {k : Nat} (h : ∀ c, Ev rs (k + 1) c = Ev rs k c) : ∀ m, k ≤ m → ∀ c, Ev rs m c = Ev rs k c := by
  intro m hm
  induction m with
  | zero => intro c; have : k = 0 := by omega
            subst this; rfl
  | succ m ih =>
    intro c
    by_cases q : k = m + 1
    · subst q; rfl
    · have e1 : Ev rs (m + 1) c = (putR rs c).all (Ev rs m) := rfl
      have e2 : Ev rs (k + 1) c = (putR rs c).all (Ev rs k) := rfl
      rw [← h c, e1, e2]
      exact List.all_congr rfl fun s => ih (by omega) s
/-- the letters that vanish, with their counts -/
structure Van (rs : List Rule) (F : List Lev) : Prop where
  nd : (F.map (·.1)).Nodup
  key : ∀ c m, 4 ≤ m → hasL F c = Ev rs m c
  val : ∀ p ∈ F, 1 ≤ p.2 ∧ p.2 ≤ 4 ∧ Ev rs p.2 p.1 = true ∧ Ev rs (p.2 - 1) p.1 = false
  len : F.length ≤ rs.length
theorem van_ok {rs : List Rule} (h : Keys rs) (h4 : rs.length ≤ 4) : Van rs (vanL rs) := by
  obtain ⟨k, j⟩ := jv_end h 5 [] (firstV rs) 0 (jv_start h) (by simp only [List.length_nil]; omega)
  have hk : k ≤ 4 := by have := j.le; have := jv_len j; omega
  have stop : ∀ c, Ev rs (k + 1) c = Ev rs k c := fun c => by
    cases e1 : Ev rs k c with
    | true => exact ev_up rs k c e1
    | false =>
      cases e2 : Ev rs (k + 1) c with
      | false => rfl
      | true => exact nomatch (jv_more j c).mpr ⟨e2, e1⟩
  refine ⟨j.nd, fun c m hm => ?_, fun p hp => ?_, jv_len j⟩
  · rw [ev_stop stop m (by omega) c]; exact j.key c
  · obtain ⟨h1, h2, h3, h4⟩ := j.val p hp
    exact ⟨h1, by omega, h3, h4⟩
/-! the loop -/
theorem put_loop (d : D) (k : Nat) (s4 : S) (s5 s6 s7 : S) : ∀ (ms : List Nat) (F : List Lev) (x : S), ms.Nodup → (∀ c ∈ ms, hasL F c = false) → F.length + ms.length ≤ 900 → ∃ x', loopS (gN 4) (sSetK 1 (eVar 4) (eVar 2)) (ms.map fun c => .str [c]) [.bor d, .own (.dic (vK F) (vX F)), .fr (nD k), s4, x, s5, s6, s7] =
    .ok .nx [.bor d, .own (.dic (vK (F ++ ms.map fun c => (c, k))) (vX (F ++ ms.map fun c => (c, k)))), .fr (nD k), s4, x', s5, s6, s7]
  | [], F, x, _, _, _ => ⟨x, by simp only [List.map_nil, List.append_nil]; rfl⟩
  | c :: ms, F, x, nd, h, hl => by
    have nd := List.nodup_cons.mp nd
    have hl : F.length + (ms.length + 1) ≤ 900 := hl
    have h0 := h c List.mem_cons_self
    obtain ⟨x', e⟩ := put_loop d k s4 s5 s6 s7 ms (F ++ [(c, k)]) (.fr (.str [c])) nd.2 (fun a ha => by
      have := has_app F [c] k a
      rw [show ([c].map fun c => (c, k)) = [(c, k)] from rfl] at this
      rw [this, h a (List.mem_cons_of_mem _ ha), Bool.false_or]
      cases q : [c].contains a with
      | false => rfl
      | true =>
        have := List.mem_singleton.mp (List.contains_iff_mem.mp q)
        subst this
        exact absurd ha nd.1) (by rw [List.length_append]; simp only [List.length_cons, List.length_nil]; omega)
    refine ⟨x', ?_⟩
    have kp := vK_put F c k h0
    have hs : (vK F).length < SLine := by unfold vK; rw [List.length_map]; exact sl_lt (by omega)
    rw [List.map_cons, loop_cons]
    rw [List.append_assoc] at e
    simp only [nD] at e kp
    simp [kp, hs]
    exact e
theorem next_comp (rs : List Rule) (F : List Lev) (hr : rs.length ≤ 4) (hp : ∀ r ∈ rs, r.2.length ≤ 3) (s2 s3 s4 : S) (s5 s6 s7 : S) (n5 : s5 = .un) (n6 : s6 = .un) (n7 : s7 = .un) :
    eLc (itAny (eVar 0)) (gT 2 (gsCons (gN 6) (gsCons (gN 5) gsNil))) (eAnd (eTest (eOp cNotIn (eVar 6) (eVar 1))) (eTest (eCB (f1 allD) (eCons (eLc (itAny (eVar 5)) (gN 7) tYesM (eOp cIn (eVar 7) (eVar 1)) [7]) eNil)))) (eVar 6) [6, 5]
      [.bor (.lst (rs.map ruD)), .own (.dic (vK F) (vX F)), s2, s3, s4, s5, s6, s7] = .ok (.new (.lst ((nextV rs F).map fun c => .str [c]))) [.bor (.lst (rs.map ruD)), .own (.dic (vK F) (vX F)), s2, s3, s4, s5, s6, s7] := by
  subst n5 n6 n7
  have k := eLc_gen (it := itAny (eVar 0)) (tg := gT 2 (gsCons (gN 6) (gsCons (gN 5) gsNil))) (cond := eAnd (eTest (eOp cNotIn (eVar 6) (eVar 1))) (eTest (eCB (f1 allD) (eCons (eLc (itAny (eVar 5)) (gN 7) tYesM (eOp cIn (eVar 7) (eVar 1)) [7]) eNil)))) (elt := eVar 6) (vs := [6, 5])
    (ρ := [.bor (.lst (rs.map ruD)), .own (.dic (vK F) (vX F)), s2, s3, s4, .un, .un, .un]) (xs := rs.map ruD)
    (fun d => match d with | .tup [.str [c], .str p] => !(hasL F c) && p.all fun s => hasL F s | _ => false) (fun d => match d with | .tup [.str [c], .str p] => D.str [c] | _ => .non)
    (by simp) rfl rfl (fun x hx => by
      obtain ⟨r, hr, e⟩ := List.mem_map.mp hx
      subst e
      have pl := hp r hr
      have n := cNotIn_v F r.1
      have k2 := eLc_one (it := itAny (eVar 5)) (v := 7) (cond := tYesM) (elt := eOp cIn (eVar 7) (eVar 1)) (ρ := [.bor (.lst (rs.map ruD)), .own (.dic (vK F) (vX F)), s2, s3, s4, .fr (.str r.2), .fr (.str [r.1]), .un]) (xs := r.2.map fun c => .str [c]) (fun _ => true) (fun d => match d with | .str [c] => D.bl (hasL F c) | _ => .non)
        (by simp) (by simp) rfl (fun x hx => by
          obtain ⟨c, hc, e⟩ := List.mem_map.mp hx
          subst e
          have m := cIn_v F c
          refine ⟨by simp, fun _ => ?_⟩
          simp [m]) (by rw [List.length_map]; exact sl_of (by omega))
      have e2 : ((r.2.map fun c => D.str [c]).filter fun _ => true).map (fun d => match d with | .str [c] => D.bl (hasL F c) | _ => .non) = r.2.map fun c => D.bl (hasL F c) := by
        rw [List.filter_eq_self.mpr (fun _ _ => rfl), List.map_map]; rfl
      rw [e2] at k2
      have b := bls_map (hasL F) r.2
      refine ⟨[.bor (.lst (rs.map ruD)), .own (.dic (vK F) (vX F)), s2, s3, s4, .fr (.str r.2), .fr (.str [r.1]), .un], by simp [wipeS], ?_, fun _ => by simp, rfl⟩
      cases q : hasL F r.1 with
      | true =>
        rw [q] at n
        simp only [eAnd_r, eTest_r, eOp_r, eVar_r, at_s, at_z, asHd_fr, asHd_own, rd_val, rd_slot, Srd_own, thn_ok, n, lift_s, bl_some, cond_false, Bool.not_true, Bool.false_and, q]
      | false =>
        rw [q] at n
        have e3 : (r.2.map (hasL F)).all id = r.2.all fun s => hasL F s := by rw [List.all_map]; rfl
        simp only [eAnd_r, eTest_r, eOp_r, eVar_r, at_s, at_z, asHd_fr, asHd_own, rd_val, rd_slot, Srd_own, thn_ok, n, lift_s, bl_some, cond_true, eCB_r, eCons_r, k2, eNil_r, rds_cons, rds_nil, rd_new, f1_r, allD, b, Option.map_some, e3, q, Bool.not_false, Bool.true_and]) (by rw [List.length_map]; exact sl_of (by omega))
  rw [k]
  congr 3
  unfold nextV
  rw [List.filter_map, List.map_map, List.map_map]
  rfl
theorem first_comp (rs : List Rule) (hr : rs.length ≤ 4) : eLc (itAny (eVar 0)) (gT 2 (gsCons (gN 4) (gsCons (gN 5) gsNil))) (eTest (eOp cEq (eVar 5) (eC (.str [])))) (eVar 4) [4, 5]
      [.bor (.lst (rs.map ruD)), s1, s2, .un, .un, .un, .un, .un] = .ok (.new (.lst ((firstV rs).map fun c => .str [c]))) [.bor (.lst (rs.map ruD)), s1, s2, .un, .un, .un, .un, .un] := by
  have k := eLc_gen (it := itAny (eVar 0)) (tg := gT 2 (gsCons (gN 4) (gsCons (gN 5) gsNil))) (cond := eTest (eOp cEq (eVar 5) (eC (.str [])))) (elt := eVar 4) (vs := [4, 5])
    (ρ := [.bor (.lst (rs.map ruD)), s1, s2, .un, .un, .un, .un, .un]) (xs := rs.map ruD)
    (fun d => match d with | .tup [.str [c], .str p] => p == [] | _ => false) (fun d => match d with | .tup [.str [c], .str p] => D.str [c] | _ => .non)
    (by simp) rfl rfl (fun x hx => by
      obtain ⟨r, hr, e⟩ := List.mem_map.mp hx
      subst e
      exact ⟨[.bor (.lst (rs.map ruD)), s1, s2, .un, .fr (.str [r.1]), .fr (.str r.2), .un, .un], by simp [wipeS], by simp, fun _ => by simp, rfl⟩) (by rw [List.length_map]; exact sl_of (by omega))
  rw [k]
  congr 3
  unfold firstV
  rw [List.filter_map, List.map_map, List.map_map]
  rfl
theorem van_loop (rs : List Rule) (h : RulesOk rs) : ∀ (n : Nat) (F : List Lev) (more : List Nat) (k : Nat) (x : S), Jv rs F more k → rs.length < n + F.length → ∃ y2 y3 y4, sWhile (eTest (eOp cNe (eVar 3) (eLst dNil)))
    (sSeq (sAug 2 (fun i j => i + j) (eC (.int 1)))
    (sSeq (sFor (itAny (eVar 3)) (gN 4)
      (sSetK 1 (eVar 4) (eVar 2)))
    (sSet 3 (eLc (itAny (eVar 0)) (gT 2 (gsCons (gN 6) (gsCons (gN 5) gsNil))) (eAnd (eTest (eOp cNotIn (eVar 6) (eVar 1))) (eTest (eCB (f1 allD) (eCons (eLc (itAny (eVar 5)) (gN 7) tYesM (eOp cIn (eVar 7) (eVar 1)) [7]) eNil)))) (eVar 6) [6, 5])))) n
    [.bor (.lst (rs.map ruD)), .own (.dic (vK F) (vX F)), .fr (nD k), .own (.lst (more.map fun c => .str [c])), x, .un, .un, .un] = .ok .nx [.bor (.lst (rs.map ruD)), .own (.dic (vK (vanG rs n F more k)) (vX (vanG rs n F more k))), y2, y3, y4, .un, .un, .un]
  | 0, F, more, k, x, j, hn => by have := jv_len j; omega
  | n + 1, F, more, k, x, j, hn => by
    have rl := h.len
    have fl := jv_len j
    have ml : ∀ c ∈ more, 97 ≤ c ∧ c ≤ 122 := fun c hc => by
      obtain ⟨r, hr, e⟩ := ev_rule ((jv_more j c).mp hc).1
      rw [← e]; exact (h.all r hr).c
    have ne := ne_letters ml
    rw [while_s]
    unfold vanG
    cases e : more.isEmpty with
    | true =>
      rw [e] at ne
      refine ⟨.fr (nD k), .own (.lst (more.map fun c => .str [c])), x, ?_⟩
      simp [ne]
    | false =>
      rw [e] at ne
      have j' := jv_next h.keys j e
      have mnd : more.Nodup := by
        rw [j.more]
        exact (List.Pairwise.sublist (List.Sublist.map _ List.filter_sublist) h.keys)
      have mlen : more.length ≤ 4 := by
        rw [j.more, List.length_map]
        exact Nat.le_trans (List.length_filter_le _ _) rl
      obtain ⟨x', p⟩ := put_loop (.lst (rs.map ruD)) (k + 1) (.bor (.lst (more.map fun c => .str [c]))) .un .un .un more F x mnd (fun c hc => by rw [j.key]; exact ((jv_more j c).mp hc).2) (by omega)
      obtain ⟨y2, y3, y4, ih⟩ := van_loop rs h n (F ++ more.map fun c => (c, k + 1)) (nextV rs (F ++ more.map fun c => (c, k + 1))) (k + 1) x' j' (by
        rw [List.length_append, List.length_map]
        cases more with
        | nil => cases e
        | cons a l => rw [List.length_cons]; omega)
      have nc := next_comp rs (F ++ more.map fun c => (c, k + 1)) rl (fun r hr => (h.all r hr).l) (.fr (nD (k + 1))) (.own (.lst (more.map fun c => .str [c]))) x' .un .un .un rfl rfl rfl
      refine ⟨y2, y3, y4, ?_⟩
      simp only [nD, Int.natCast_add, Int.natCast_one] at p nc ih
      simp [ne, sFor_r, lentF_s, p, backF_s, nc, ih]
theorem vanishing_by (rs : List Rule) (h : RulesOk rs) : F_vanishing_by [.lst (rs.map ruD)] = .ret (.own (.dic (vK (vanL rs)) (vX (vanL rs)))) := by
  have rl := h.len
  have key : ∀ n, 5 ≤ n → vanG rs n [] (firstV rs) 0 = vanL rs := by
    intro n hn
    have : ∀ (n m : Nat) (F : List Lev) (more : List Nat) (k : Nat), Jv rs F more k → rs.length < n + F.length → rs.length < m + F.length → vanG rs n F more k = vanG rs m F more k := by
      intro n
      induction n with
      | zero => intro m F more k j h1 _; have := jv_len j; omega
      | succ n ih =>
        intro m F more k j h1 h2
        cases m with
        | zero => have := jv_len j; omega
        | succ m =>
          unfold vanG
          cases e : more.isEmpty with
          | true => rfl
          | false =>
            rw [if_neg Bool.false_ne_true, if_neg Bool.false_ne_true]
            have lx : rs.length < n + (F ++ more.map fun c => (c, k + 1)).length ∧ rs.length < m + (F ++ more.map fun c => (c, k + 1)).length := by
              rw [List.length_append, List.length_map]
              cases more with
              | nil => cases e
              | cons a l => rw [List.length_cons]; omega
            exact ih m _ _ _ (jv_next h.keys j e) lx.1 lx.2
    exact this n 5 [] (firstV rs) 0 (jv_start h.keys) (by simp only [List.length_nil]; omega) (by simp only [List.length_nil]; omega)
  obtain ⟨y2, y3, y4, k⟩ := van_loop rs h 100 [] (firstV rs) 0 .un (jv_start h.keys) (by simp only [List.length_nil]; omega)
  rw [key 100 (by decide)] at k
  have fc := first_comp (s1 := .own (.dic [] [])) (s2 := .fr (nD 0)) rs rl
  have z1 : vK [] = [] := rfl
  have z2 : vX [] = [] := rfl
  rw [z1, z2] at k
  simp only [nD, Int.natCast_zero, List.map_nil] at k fc
  unfold F_vanishing_by B_vanishing_by
  simp [runF_eq, startS, paramS, List.replicate, fc, k]
end G

/-! ## P_it -/
set_option Elab.async false
set_option linter.all false
set_option maxRecDepth 100000
set_option maxHeartbeats 400000
namespace G
open PySem L2 Vi
/-! #### rounds by rounds -/
theorem aPlus_sM {s t : List Nat} (h : s.length + t.length ≤ 1000000) : aPlus (.str s) (.str t) = some (.val (.str (s ++ t))) := by
  show Option.or none (Option.or (if s.length + t.length ≤ SLine then some (Hd.val (.str (s ++ t))) else none) none) = _
  rw [if_pos (sl_le h)]; rfl
def itR (rs : List Rule) : Nat → List Nat → List Nat
  | 0, t => t
  | m + 1, t => itR rs m (roundL rs t)
theorem itR_succ (rs : List Rule) : ∀ (m : Nat) (t : List Nat), itR rs (m + 1) t = roundL rs (itR rs m t)
  | 0, t => rfl
  | m + 1, t => itR_succ rs m (roundL rs t)
theorem ev_it (rs : List Rule) : ∀ (m : Nat) (t : List Nat), (itR rs m t == []) = t.all (Ev rs m)
  | 0, [] => rfl
  | 0, c :: t => rfl
  | m + 1, t => by
    show (itR rs m (roundL rs t) == []) = _
    rw [ev_it rs m]
    show (t.flatMap (putR rs)).all (Ev rs m) = t.all fun c => (putR rs c).all (Ev rs m)
    rw [List.all_flatMap]
theorem itR_len {rs : List Rule} (h : RulesOk rs) : ∀ (m : Nat) (t : List Nat), (itR rs m t).length ≤ 3 ^ m * t.length
  | 0, t => by show t.length ≤ _; omega
  | m + 1, t => by
    have h1 := itR_len h m (roundL rs t)
    have h2 := round_len h t
    have : 3 ^ (m + 1) * t.length = 3 ^ m * (3 * t.length) := by rw [Nat.pow_succ, Nat.mul_assoc]
    rw [this]
    exact Nat.le_trans h1 (Nat.mul_le_mul_left _ h2)
theorem itR_low {rs : List Rule} (h : RulesOk rs) : ∀ (m : Nat) {t : List Nat}, Low t → Low (itR rs m t)
  | 0, t, ht => ht
  | m + 1, t, ht => itR_low h m (round_low h ht)
end G

/-! ## P_sz -/
set_option Elab.async false
set_option linter.all false
set_option maxRecDepth 100000
set_option maxHeartbeats 400000
namespace G
open PySem L2 Vi
/-! #### counts of letters -/
def szL (rs : List Rule) : Nat → Nat → Nat
  | 0, _ => 1
  | m + 1, c => ((putR rs c).map (szL rs m)).sum
theorem itR_app (rs : List Rule) : ∀ (m : Nat) (s t : List Nat), itR rs m (s ++ t) = itR rs m s ++ itR rs m t
  | 0, s, t => rfl
  | m + 1, s, t => by
    show itR rs m (roundL rs (s ++ t)) = _
    rw [round_app, itR_app rs m]; rfl
theorem itR_nil (rs : List Rule) : ∀ m : Nat, itR rs m [] = []
  | 0 => rfl
  | m + 1 => itR_nil rs m
theorem itR_one (rs : List Rule) (m c : Nat) : itR rs (m + 1) [c] = itR rs m (putR rs c) := by
  show itR rs m (roundL rs [c]) = _
  have : roundL rs [c] = putR rs c := by
    show putR rs c ++ roundL rs [] = _
    rw [show roundL rs [] = [] from rfl, List.append_nil]
  rw [this]
theorem it_sz (rs : List Rule) : ∀ (m : Nat) (t : List Nat), (itR rs m t).length = (t.map (szL rs m)).sum
  | m, [] => by rw [itR_nil]; rfl
  | 0, c :: t => by
    have := it_sz rs 0 t
    show (c :: t).length = 1 + (t.map (szL rs 0)).sum
    rw [← this]
    show (c :: t).length = 1 + t.length
    rw [List.length_cons]; omega
  | m + 1, c :: t => by
    have h1 := it_sz rs (m + 1) t
    have h2 := it_sz rs m (putR rs c)
    rw [← List.singleton_append, itR_app, List.length_append, itR_one, h1, h2]
    rfl
theorem sz_one (rs : List Rule) (m c : Nat) : (itR rs m [c]).length = szL rs m c := by
  rw [it_sz]; simp
/-- going down -/
def scanL (rs : List Rule) (m : Nat) : List Nat → Nat → Option Nat × Nat
  | [], p => (none, p)
  | c :: t, p => if p < szL rs m c then (some c, p) else scanL rs m t (p - szL rs m c)
def downL (rs : List Rule) : Nat → List Nat → Nat → Option Nat
  | 0, t, p => (scanL rs 0 t p).1
  | m + 1, t, p => match scanL rs (m + 1) t p with
    | (none, _) => none
    | (some c, q) => downL rs m (putR rs c) q
theorem scan_it (rs : List Rule) (m : Nat) : ∀ (t : List Nat) (p : Nat), (itR rs m t)[p]? = (match scanL rs m t p with | (none, _) => none | (some c, q) => (itR rs m [c])[q]?)
  | [], p => by rw [itR_nil]; rfl
  | c :: t, p => by
    have ih := scan_it rs m t (p - szL rs m c)
    unfold scanL
    rw [← List.singleton_append, itR_app]
    by_cases h : p < szL rs m c
    · rw [if_pos h, List.getElem?_append_left (by rw [sz_one]; exact h)]
    · rw [if_neg h, List.getElem?_append_right (by rw [sz_one]; omega), sz_one]
      exact ih
theorem scan_lt (rs : List Rule) (m : Nat) : ∀ (t : List Nat) (p c q : Nat), scanL rs m t p = (some c, q) → q < szL rs m c ∧ c ∈ t
  | [], p, c, q, h => by cases h
  | a :: t, p, c, q, h => by
    unfold scanL at h
    by_cases e : p < szL rs m a
    · rw [if_pos e] at h; cases h; exact ⟨e, List.mem_cons_self⟩
    · rw [if_neg e] at h
      obtain ⟨h1, h2⟩ := scan_lt rs m t _ c q h
      exact ⟨h1, List.mem_cons_of_mem _ h2⟩
theorem down_it (rs : List Rule) : ∀ (m : Nat) (t : List Nat) (p : Nat), downL rs m t p = (itR rs m t)[p]?
  | 0, t, p => by
    rw [scan_it]
    unfold downL
    cases e : scanL rs 0 t p with
    | mk o q =>
      cases o with
      | none => rfl
      | some c =>
        have h := (scan_lt rs 0 t p c q e).1
        have h : q < 1 := h
        have : q = 0 := by omega
        subst this; rfl
  | m + 1, t, p => by
    rw [scan_it]
    unfold downL
    cases e : scanL rs (m + 1) t p with
    | mk o q =>
      cases o with
      | none => rfl
      | some c => show downL rs m (putR rs c) q = (itR rs (m + 1) [c])[q]?; rw [itR_one, down_it rs m]
abbrev lK (cs : List Nat) : List (List Nat) := cs.map fun c => [c]
end G

/-! ## P_far -/
set_option Elab.async false
set_option linter.all false
set_option maxRecDepth 100000
set_option maxHeartbeats 400000
namespace G
open PySem L2 Vi
/-! dicts by letters -/
theorem prs_of (f : Nat → D) : ∀ cs : List Nat, prs? (cs.map fun c => .tup [.str [c], f c]) = some (cs.map fun c => ([c], f c))
  | [] => rfl
  | c :: cs => by
    show (prs? (cs.map fun c => D.tup [.str [c], f c])).map (([c], f c) :: ·) = _
    rw [prs_of f cs]; rfl
theorem lK_has (c : Nat) : ∀ cs : List Nat, (lK cs).contains [c] = cs.contains c
  | [] => rfl
  | a :: cs => by
    show ([a] :: lK cs).contains [c] = (a :: cs).contains c
    rw [List.contains_cons, List.contains_cons, lK_has c cs]
    congr 1
    by_cases e : c = a
    · subst e; simp
    · rw [beq_eq_false_iff_ne.mpr e, beq_eq_false_iff_ne.mpr (fun h => e (List.cons.inj h).1)]
theorem lK_put (cs : List Nat) (xs : List D) (c : Nat) (d : D) (h : c ∉ cs) : kput (lK cs) xs [c] d = (lK (cs ++ [c]), xs ++ [d]) := by
  unfold kput
  rw [lK_has, if_neg (fun q => h (List.contains_iff_mem.mp q))]
  show _ = (List.map _ (cs ++ [c]), _)
  rw [List.map_append]; rfl
theorem mk_of (f : Nat → D) : ∀ (cs A : List Nat), (A ++ cs).Nodup → (cs.map fun c => (([c] : List Nat), f c)).foldl (fun a p => kput a.1 a.2 p.1 p.2) (lK A, A.map f) = (lK (A ++ cs), (A ++ cs).map f)
  | [], A, _ => by rw [List.append_nil]; rfl
  | c :: cs, A, h => by
    show (cs.map _).foldl _ (kput (lK A) (A.map f) [c] (f c)) = _
    have no : c ∉ A := fun q => (List.nodup_append.mp h).2.2 c q c List.mem_cons_self rfl
    rw [lK_put A _ c _ no]
    have e : A.map f ++ [f c] = (A ++ [c]).map f := by rw [List.map_append]; rfl
    rw [e, mk_of f cs (A ++ [c]) (by rw [List.append_assoc]; exact h), List.append_assoc]; rfl
theorem dict_of (f : Nat → D) {cs : List Nat} (h : cs.Nodup) : dictD (.lst (cs.map fun c => .tup [.str [c], f c])) = some (.new (.dic (lK cs) (cs.map f))) := by
  show (prs? (cs.map fun c => D.tup [.str [c], f c])).map (fun ps => Hd.new (.dic (mkDic ps).1 (mkDic ps).2)) = _
  rw [prs_of]
  have := mk_of f cs [] (by rw [List.nil_append]; exact h)
  show some (Hd.new (.dic (mkDic _).1 (mkDic _).2)) = _
  unfold mkDic
  rw [List.nil_append] at this
  have e : (([] : List (List Nat)), ([] : List D)) = (lK [], [].map f) := rfl
  rw [e, this]
theorem kget_of (f : Nat → D) (c : Nat) : ∀ cs : List Nat, c ∈ cs → kget (lK cs) (cs.map f) [c] = some (f c)
  | [], h => (nomatch h)
  | a :: cs, h => by
    show (if [a] = [c] then some (f a) else kget (lK cs) (cs.map f) [c]) = _
    by_cases e : a = c
    · subst e; rw [if_pos rfl]
    · rw [if_neg (fun q => e (List.cons.inj q).1)]
      exact kget_of f c cs ((List.mem_cons.mp h).resolve_left fun q => e q.symm)
theorem sum_nat : ∀ xs : List Nat, (xs.map fun i : Nat => (i : Int)).sum = ((xs.sum : Nat) : Int)
  | [] => rfl
  | x :: xs => by
    rw [List.map_cons, List.sum_cons, List.sum_cons, sum_nat xs, Int.natCast_add]
theorem sum_of {α : Type} (g : α → Nat) (t : List α) : sumD (.lst (t.map fun c => nD (g c))) = some (.val (nD (t.map g).sum)) := by
  show (ints? (t.map fun c => nD (g c))).map (fun bs => Hd.val (.int bs.sum)) = _
  have : (t.map fun c => nD (g c)) = (t.map g).map nD := by rw [List.map_map]; rfl
  rw [this, ints_map, Option.map_some, sum_nat]
theorem atI_last {α : Type} (xs : List α) (x : α) : atI (xs ++ [x]) (-1) = some x := by
  unfold atI ixN
  rw [if_neg (by decide)]
  have h : ((xs ++ [x]).length : Int) = xs.length + 1 := by rw [List.length_append]; rfl
  rw [h]
  rw [if_pos (by omega)]
  show (xs ++ [x])[((xs.length : Int) + 1 + -1).toNat]? = _
  have e : ((xs.length : Int) + 1 + -1).toNat = xs.length := by omega
  rw [e, List.getElem?_append_right (Nat.le_refl _), Nat.sub_self]; rfl
theorem abc_nd : abc.Nodup := by decide
/-- the sizes of all letters behind k rounds -/
def szD (rs : List Rule) (cs : List Nat) (k : Nat) : D := .dic (lK cs) (cs.map fun c => nD (szL rs k c))
theorem szD_get (rs : List Rule) {cs : List Nat} {c : Nat} (k : Nat) (h : c ∈ cs) : aIx (szD rs cs k) (.str [c]) = some (.val (nD (szL rs k c))) := by
  show (kget (lK cs) (cs.map fun c => nD (szL rs k c)) [c]).map Hd.val = _
  rw [kget_of (fun c => nD (szL rs k c)) c cs h]; rfl
theorem abc_low {c : Nat} (h : c ∈ abc) : 97 ≤ c ∧ c ≤ 122 := by
  have : ∀ c ∈ abc, 97 ≤ c ∧ c ≤ 122 := by decide
  exact this c h
theorem sz_comp (rs : List Rule) (h : RulesOk rs) (k : Nat) (s0 s1 s3 s4 : S) : eLc (itAny (eC (.str [97, 98, 99, 100, 101, 102, 103, 104, 105, 106, 107, 108, 109, 110, 111, 112, 113, 114, 115, 116, 117, 118, 119, 120, 121, 122]))) (gN 6) tYesM (eTup (dCons (eVar 6) (dCons (eCB (f1 sumD) (eCons (eLc (itAny (eGet2 (eVar 2) (eVar 6) (eVar 6))) (gN 7) tYesM (eOp aIx (eVar 5) (eVar 7)) [7]) eNil)) dNil))) [6]
    [s0, s1, .own (.dic (dcK rs) (dcX rs)), s3, s4, .fr (szD rs abc k), .un, .un] = .ok (.new (.lst (abc.map fun c => .tup [.str [c], nD (szL rs (k + 1) c)]))) [s0, s1, .own (.dic (dcK rs) (dcX rs)), s3, s4, .fr (szD rs abc k), .un, .un] := by
  have q := eLc_one (it := itAny (eC (.str [97, 98, 99, 100, 101, 102, 103, 104, 105, 106, 107, 108, 109, 110, 111, 112, 113, 114, 115, 116, 117, 118, 119, 120, 121, 122]))) (v := 6) (cond := tYesM)
    (elt := eTup (dCons (eVar 6) (dCons (eCB (f1 sumD) (eCons (eLc (itAny (eGet2 (eVar 2) (eVar 6) (eVar 6))) (gN 7) tYesM (eOp aIx (eVar 5) (eVar 7)) [7]) eNil)) dNil)))
    (ρ := [s0, s1, .own (.dic (dcK rs) (dcX rs)), s3, s4, .fr (szD rs abc k), .un, .un]) (xs := abc.map fun c => .str [c]) (fun _ => true) (fun d => match d with | .str [c] => .tup [.str [c], nD (szL rs (k + 1) c)] | _ => .non)
    (by unfold abc; simp) (by simp) rfl (fun x hx => by
      obtain ⟨c, hc, e⟩ := List.mem_map.mp hx
      subst e
      have g := kget_ru c rs
      have g2 := getO_put rs c
      have lo := putR_low h (abc_low hc)
      have pl := putR_len h c
      have k2 := eLc_one (it := itAny (eGet2 (eVar 2) (eVar 6) (eVar 6))) (v := 7) (cond := tYesM) (elt := eOp aIx (eVar 5) (eVar 7)) (ρ := [s0, s1, .own (.dic (dcK rs) (dcX rs)), s3, s4, .fr (szD rs abc k), .fr (.str [c]), .un]) (xs := (putR rs c).map fun c => .str [c]) (fun _ => true) (fun d => match d with | .str [c] => nD (szL rs k c) | _ => .non)
        (by simp [g, g2]) (by simp) rfl (fun x hx => by
          obtain ⟨a, ha, e⟩ := List.mem_map.mp hx
          subst e
          have z := szD_get rs k (low_abc (lo a ha))
          refine ⟨by simp, fun _ => ?_⟩
          simp [z]) (by rw [List.length_map]; exact sl_of (by omega))
      have e2 : (((putR rs c).map fun c => D.str [c]).filter fun _ => true).map (fun d => match d with | .str [c] => nD (szL rs k c) | _ => .non) = (putR rs c).map fun c => nD (szL rs k c) := by
        rw [List.filter_eq_self.mpr (fun _ _ => rfl), List.map_map]; rfl
      rw [e2] at k2
      have sm := sum_of (szL rs k) (putR rs c)
      have e4 : szL rs (k + 1) c = ((putR rs c).map (szL rs k)).sum := rfl
      refine ⟨by simp, fun _ => ?_⟩
      rw [← e4] at sm
      simp only [nD] at k2 sm
      simp [k2, sm]) (by rw [List.length_map]; exact sl_of (by decide))
  rw [q]
  congr 3
theorem sizes_loop (rs : List Rule) (h : RulesOk rs) (s0 s1 : S) : ∀ (n k : Nat) (x4 x5 : S), k + n ≤ 900 → ∃ y4 y5, loopS (gN 4)
    (sSeq (sSet 5 (eOp aIx (eVar 3) (eUn aNeg (eC (.int 1)))))
    (sExpr (eAppend 3 (eCB (f1 dictD) (eCons (eLc (itAny (eC (.str [97, 98, 99, 100, 101, 102, 103, 104, 105, 106, 107, 108, 109, 110, 111, 112, 113, 114, 115, 116, 117, 118, 119, 120, 121, 122]))) (gN 6) tYesM (eTup (dCons (eVar 6) (dCons (eCB (f1 sumD) (eCons (eLc (itAny (eGet2 (eVar 2) (eVar 6) (eVar 6))) (gN 7) tYesM (eOp aIx (eVar 5) (eVar 7)) [7]) eNil)) dNil))) [6]) eNil))))) ((List.range' k n).map nD) [s0, s1, .own (.dic (dcK rs) (dcX rs)), .own (.lst ((List.range (k + 1)).map (szD rs abc))), x4, x5, .un, .un] =
    .ok .nx [s0, s1, .own (.dic (dcK rs) (dcX rs)), .own (.lst ((List.range (k + n + 1)).map (szD rs abc))), y4, y5, .un, .un]
  | 0, k, x4, x5, hn => ⟨x4, x5, rfl⟩
  | n + 1, k, x4, x5, hn => by
    obtain ⟨y4, y5, ih⟩ := sizes_loop rs h s0 s1 n (k + 1) (.fr (nD k)) (.fr (szD rs abc k)) (by omega)
    have e1 : (List.range (k + 1)).map (szD rs abc) = (List.range k).map (szD rs abc) ++ [szD rs abc k] := by rw [List.range_succ, List.map_append]; rfl
    have e2 : (List.range (k + 1 + 1)).map (szD rs abc) = (List.range (k + 1)).map (szD rs abc) ++ [szD rs abc (k + 1)] := by rw [List.range_succ, List.map_append]; rfl
    have la : aIx (.lst ((List.range (k + 1)).map (szD rs abc))) (.int (-1)) = some (.val (szD rs abc k)) := by
      rw [e1]
      show (atI ((List.range k).map (szD rs abc) ++ [szD rs abc k]) (-1)).map Hd.val = _
      rw [atI_last]; rfl
    have sc := sz_comp rs h k s0 s1 (.own (.lst ((List.range (k + 1)).map (szD rs abc)))) (.fr (nD k))
    have di := dict_of (fun c => nD (szL rs (k + 1) c)) abc_nd
    have sl : ((List.range (k + 1)).map (szD rs abc)).length < SLine := by rw [List.length_map, List.length_range]; exact sl_lt (by omega)
    refine ⟨y4, y5, ?_⟩
    have e3 : k + (n + 1) + 1 = k + 1 + n + 1 := by omega
    rw [e3, List.range'_succ, List.map_cons, loop_cons]
    rw [e2] at ih
    generalize (List.range (k + 1)).map (szD rs abc) = A at la sc sl ih ⊢
    have di2 : dictD (.lst (abc.map fun c => D.tup [.str [c], nD (szL rs (k + 1) c)])) = some (.new (szD rs abc (k + 1))) := di
    generalize abc.map (fun c => D.tup [.str [c], nD (szL rs (k + 1) c)]) = B at di2 sc
    simp only [gN_r, nx_ok, thn_ok, List.set_cons_succ, List.set_cons_zero, sSeq_r, sSet_r, eOp_r, eVar_r, at_s, at_z, asHd_own, asHd_fr, eUn_r, eC_r, rd_val, aNeg_i, lift_s, rd_slot, Srd_own, la, put_val, seq_nx, sExpr_r, eAppend_r, getOwn_r, ownL_l, eCB_r, eCons_r, sc, eNil_r, rds_cons, rds_nil, rd_new, f1_r, di2, fz_new, guardM_r, decide_eq_true sl, cond_true, bind_thn, setOwn_r, pure_thn, turn_nx]
    exact ih
theorem sizes_of (rs : List Rule) (m : Nat) (h : RulesOk rs) (hm : m ≤ 800) : F_sizes_of [.lst (rs.map ruD), nD m] = .ret (.own (.lst ((List.range (m + 1)).map (szD rs abc)))) := by
  obtain ⟨y4, y5, k⟩ := sizes_loop rs h (.bor (.lst (rs.map ruD))) (.fr (nD m)) m 0 .un .un (by omega)
  rw [Nat.zero_add] at k
  have q := eLc_one (it := itAny (eC (.str [97, 98, 99, 100, 101, 102, 103, 104, 105, 106, 107, 108, 109, 110, 111, 112, 113, 114, 115, 116, 117, 118, 119, 120, 121, 122]))) (v := 6) (cond := tYesM) (elt := eTup (dCons (eVar 6) (dCons (eC (.int 1)) dNil)))
    (ρ := [.bor (.lst (rs.map ruD)), .fr (nD m), .own (.dic (dcK rs) (dcX rs)), .un, .un, .un, .un, .un]) (xs := abc.map fun c => .str [c]) (fun _ => true) (fun d => match d with | .str [c] => .tup [.str [c], nD (szL rs 0 c)] | _ => .non)
    (by unfold abc; simp) (by simp) rfl (fun x hx => by
      obtain ⟨c, hc, e⟩ := List.mem_map.mp hx
      subst e
      have : szL rs 0 c = 1 := rfl
      refine ⟨by simp, fun _ => ?_⟩
      simp [this]) (by rw [List.length_map]; exact sl_of (by decide))
  have e2 : ((abc.map fun c => D.str [c]).filter fun _ => true).map (fun d => match d with | .str [c] => D.tup [.str [c], nD (szL rs 0 c)] | _ => .non) = abc.map fun c => .tup [.str [c], nD (szL rs 0 c)] := by
    rw [List.filter_eq_self.mpr (fun _ _ => rfl), List.map_map]; rfl
  rw [e2] at q
  have di : dictD (.lst (abc.map fun c => D.tup [.str [c], nD (szL rs 0 c)])) = some (.new (szD rs abc 0)) := dict_of (fun c => nD (szL rs 0 c)) abc_nd
  generalize abc.map (fun c => D.tup [.str [c], nD (szL rs 0 c)]) = B at di q
  have d := dict_ru rs h
  have rg := rgi (k := (m : Int)) (by omega)
  rw [Int.toNat_natCast, List.range_eq_range'] at rg
  have e0 : (List.range (0 + 1)).map (szD rs abc) = [szD rs abc 0] := rfl
  rw [e0] at k
  simp only [nD] at q k rg
  generalize (List.range' 0 m).map (fun i : Nat => D.int (i : Int)) = xs at k rg
  unfold F_sizes_of B_sizes_of
  simp [runF_eq, startS, paramS, List.replicate, d, q, di, sFor_r, rg, k]
theorem is_whole_n (i : Int) : F_is_whole [.int i] = .ret (.fr (.bl true)) := by
  unfold F_is_whole B_is_whole
  simp [runF_eq, startS, paramS, List.replicate, isiD, tyD, isiT, isiB, okB, truD]
theorem check_far (t : List Nat) (rs : List Rule) (m : Nat) (ht : Low t) (h1 : t.length ≤ 30) (h : RulesOk rs) (hm : m ≤ 40) : F_check_far [.str t, .lst (rs.map ruD), nD m] = .ret (.fr .non) := by
  have a1 : (0 : Int) ≤ m := by omega
  have a2 : (m : Int) ≤ 40 := by omega
  unfold F_check_far B_check_far
  simp [runF_eq, startS, paramS, List.replicate, check_text t 30 ht (by omega) (by omega), check_rules rs h, is_whole_n, a1, a2]
theorem ix_range (rs : List Rule) (cs : List Nat) {m k : Nat} (h : k ≤ m) : aIx (.lst ((List.range (m + 1)).map (szD rs cs))) (.int (k : Int)) = some (.val (szD rs cs k)) := by
  show (atI ((List.range (m + 1)).map (szD rs cs)) (k : Int)).map Hd.val = _
  rw [atI_nat, List.getElem?_map, List.getElem?_range (by omega)]; rfl
/-- how long a text is behind m rounds -/
def lenL (rs : List Rule) (m : Nat) (t : List Nat) : Nat := (t.map (szL rs m)).sum
theorem long_behind (t : List Nat) (rs : List Rule) (m : Nat) (ht : Low t) (h1 : t.length ≤ 30) (h : RulesOk rs) (hm : m ≤ 40) : F_long_behind [.str t, .lst (rs.map ruD), nD m] = .ret (.fr (nD (lenL rs m t))) := by
  have c1 := check_far t rs m ht h1 h hm
  have c2 := sizes_of rs m h (by omega)
  have c3 := ix_range rs abc (Nat.le_refl m)
  have k := eLc_one (it := itAny (eVar 0)) (v := 4) (cond := tYesM) (elt := eOp aIx (eVar 3) (eVar 4)) (ρ := [.fr (.str t), .bor (.lst (rs.map ruD)), .fr (nD m), .fr (szD rs abc m), .un]) (xs := t.map fun c => .str [c]) (fun _ => true) (fun d => match d with | .str [c] => nD (szL rs m c) | _ => .non)
    (by simp) (by simp) rfl (fun x hx => by
      obtain ⟨c, hc, e⟩ := List.mem_map.mp hx
      subst e
      have g := szD_get rs m (low_abc (ht c hc))
      refine ⟨by simp, fun _ => ?_⟩
      simp [g]) (by rw [List.length_map]; exact sl_of (by omega))
  have e2 : ((t.map fun c => D.str [c]).filter fun _ => true).map (fun d => match d with | .str [c] => nD (szL rs m c) | _ => .non) = t.map fun c => nD (szL rs m c) := by
    rw [List.filter_eq_self.mpr (fun _ _ => rfl), List.map_map]; rfl
  rw [e2] at k
  have sm := sum_of (szL rs m) t
  unfold F_long_behind B_long_behind lenL
  generalize (List.range (m + 1)).map (szD rs abc) = A at c2 c3
  simp only [nD] at c1 c2 c3 k sm
  simp [runF_eq, startS, paramS, List.replicate, c1, c2, c3, k, sm]
abbrev oS : Option Nat → D
  | none => .non
  | some c => .str [c]
theorem scan_loop (rs : List Rule) (m M : Nat) (hm : m ≤ M) (s0 s1 s2 s3 s4 : S) : ∀ (t : List Nat) (p : Nat) (x9 : S), Low t → ∃ y9, loopS (gN 9)
    (sIf (eAnd (eTest (eOp cIsN (eVar 8) (eC .non))) (eTest (eOp cLt (eVar 6) (eOp aIx (eOp aIx (eVar 5) (eVar 7)) (eVar 9)))))
        (sSet 8 (eVar 9))
        (sIf (eTest (eOp cIsN (eVar 8) (eC .non)))
          (sAug 6 (fun i j => i - j) (eOp aIx (eOp aIx (eVar 5) (eVar 7)) (eVar 9)))
          sNx)) (t.map fun c => .str [c]) [s0, s1, s2, s3, s4, .own (.lst ((List.range (M + 1)).map (szD rs abc))), .fr (nD p), .fr (nD m), .fr .non, x9] =
      .ok .nx [s0, s1, s2, s3, s4, .own (.lst ((List.range (M + 1)).map (szD rs abc))), .fr (nD (scanL rs m t p).2), .fr (nD m), .fr (oS (scanL rs m t p).1), y9]
  | [], p, x9, _ => ⟨x9, rfl⟩
  | c :: t, p, x9, ht => by
    have ix := ix_range rs abc hm
    have g := szD_get rs m (low_abc (ht c List.mem_cons_self))
    have lo : Low t := fun a ha => ht a (List.mem_cons_of_mem _ ha)
    rw [List.map_cons, loop_cons]
    unfold scanL
    by_cases q : p < szL rs m c
    · have a1 : (p : Int) < szL rs m c := by omega
      rw [if_pos q]
      -- what is found stays
      have stay : ∀ (t : List Nat) (y9 : S), ∃ z9, loopS (gN 9)
          (sIf (eAnd (eTest (eOp cIsN (eVar 8) (eC .non))) (eTest (eOp cLt (eVar 6) (eOp aIx (eOp aIx (eVar 5) (eVar 7)) (eVar 9)))))
            (sSet 8 (eVar 9))
            (sIf (eTest (eOp cIsN (eVar 8) (eC .non)))
              (sAug 6 (fun i j => i - j) (eOp aIx (eOp aIx (eVar 5) (eVar 7)) (eVar 9)))
              sNx)) (t.map fun c => .str [c]) [s0, s1, s2, s3, s4, .own (.lst ((List.range (M + 1)).map (szD rs abc))), .fr (nD p), .fr (nD m), .fr (.str [c]), y9] =
          .ok .nx [s0, s1, s2, s3, s4, .own (.lst ((List.range (M + 1)).map (szD rs abc))), .fr (nD p), .fr (nD m), .fr (.str [c]), z9] := by
        intro t
        induction t with
        | nil => exact fun y9 => ⟨y9, rfl⟩
        | cons a t ih =>
          intro y9
          obtain ⟨z9, e⟩ := ih (.fr (.str [a]))
          refine ⟨z9, ?_⟩
          rw [List.map_cons, loop_cons]
          generalize (List.range (M + 1)).map (szD rs abc) = A at e ⊢
          simp [cIsN, okB, e]
      obtain ⟨z9, e⟩ := stay t (.fr (.str [c]))
      refine ⟨z9, ?_⟩
      generalize (List.range (M + 1)).map (szD rs abc) = A at e ix ⊢
      simp only [nD] at e ix g
      simp [cIsN, okB, ix, g, a1, e]
    · have a1 : ¬ (p : Int) < szL rs m c := by omega
      obtain ⟨y9, e⟩ := scan_loop rs m M hm s0 s1 s2 s3 s4 t (p - szL rs m c) (.fr (.str [c])) lo
      refine ⟨y9, ?_⟩
      rw [if_neg q]
      have e2 : ((p - szL rs m c : Nat) : Int) = (p : Int) - szL rs m c := by omega
      generalize (List.range (M + 1)).map (szD rs abc) = A at e ix ⊢
      simp only [nD] at e ix g
      rw [e2] at e
      simp [cIsN, okB, ix, g, a1, e]
def dnL : Nat → List D
  | 0 => [nD 0]
  | m + 1 => nD (m + 1) :: dnL m
theorem ints_dn : ∀ m : Nat, Vi.intsFrom (m : Int) (-1) (m + 1) = dnL m
  | 0 => rfl
  | m + 1 => by
    show D.int ((m + 1 : Nat) : Int) :: Vi.intsFrom (((m + 1 : Nat) : Int) + -1) (-1) (m + 1) = nD (m + 1) :: dnL m
    have e : ((m + 1 : Nat) : Int) + -1 = (m : Int) := by omega
    rw [e, ints_dn m]
theorem rg_dn (m : Nat) (h : m ≤ 900) : rgD [.int (m : Int), .int (-1), .int (-1)] = some (dnL m) := by
  have := rg_down (m + 1) (by omega)
  have e : ((m + 1 : Nat) : Int) - 1 = (m : Int) := by omega
  rw [e, ints_dn] at this
  exact this
theorem down_loop (rs : List Rule) (h : RulesOk rs) (M : Nat) (s2 s3 : S) : ∀ (m : Nat) (t : List Nat) (p : Nat) (x7 x8 x9 : S), m ≤ M → Low t → t.length ≤ 900 → ∃ ρ', loopS (gN 7)
    (sSeq (sSet 8 (eC .non))
    (sSeq (sFor (itAny (eVar 0)) (gN 9)
      (sIf (eAnd (eTest (eOp cIsN (eVar 8) (eC .non))) (eTest (eOp cLt (eVar 6) (eOp aIx (eOp aIx (eVar 5) (eVar 7)) (eVar 9)))))
        (sSet 8 (eVar 9))
        (sIf (eTest (eOp cIsN (eVar 8) (eC .non)))
          (sAug 6 (fun i j => i - j) (eOp aIx (eOp aIx (eVar 5) (eVar 7)) (eVar 9)))
          sNx)))
    (sSeq (sIf (eOr (eTest (eOp cIsN (eVar 8) (eC .non))) (eTest (eOp cEq (eVar 7) (eC (.int 0)))))
      (sRet (eVar 8))
      sNx)
    (sSet 0 (eGet2 (eVar 4) (eVar 8) (eVar 8)))))) (dnL m) [.fr (.str t), .bor (.lst (rs.map ruD)), s2, s3, .own (.dic (dcK rs) (dcX rs)), .own (.lst ((List.range (M + 1)).map (szD rs abc))), .fr (nD p), x7, x8, x9] = .ok (.rt (.fr (oS (downL rs m t p)))) ρ'
  | 0, t, p, x7, x8, x9, hm, ht, hl => by
    obtain ⟨y9, k⟩ := scan_loop rs 0 M (Nat.zero_le _) (.fr (.str t)) (.bor (.lst (rs.map ruD))) s2 s3 (.own (.dic (dcK rs) (dcX rs))) t p x9 ht
    refine ⟨[.fr (.str t), .bor (.lst (rs.map ruD)), s2, s3, .own (.dic (dcK rs) (dcX rs)), .own (.lst ((List.range (M + 1)).map (szD rs abc))), .fr (nD (scanL rs 0 t p).2), .fr (nD 0), .fr (oS (scanL rs 0 t p).1), y9], ?_⟩
    unfold dnL downL
    rw [loop_cons]
    generalize (List.range (M + 1)).map (szD rs abc) = A at k ⊢
    simp only [nD, Int.natCast_zero] at k ⊢
    cases e : (scanL rs 0 t p).1 with
    | none =>
      rw [e] at k
      simp [sFor_r, k, cIsN, okB]
    | some c =>
      rw [e] at k
      simp [sFor_r, k, cIsN, okB]
  | m + 1, t, p, x7, x8, x9, hm, ht, hl => by
    obtain ⟨y9, k⟩ := scan_loop rs (m + 1) M hm (.fr (.str t)) (.bor (.lst (rs.map ruD))) s2 s3 (.own (.dic (dcK rs) (dcX rs))) t p x9 ht
    have dn : downL rs (m + 1) t p = match scanL rs (m + 1) t p with | (none, _) => none | (some c, q) => downL rs m (putR rs c) q := rfl
    rw [dn]
    unfold dnL
    rw [loop_cons]
    cases e : scanL rs (m + 1) t p with
    | mk o q =>
      rw [e] at k
      cases o with
      | none =>
        refine ⟨[.fr (.str t), .bor (.lst (rs.map ruD)), s2, s3, .own (.dic (dcK rs) (dcX rs)), .own (.lst ((List.range (M + 1)).map (szD rs abc))), .fr (nD q), .fr (nD (m + 1)), .fr .non, y9], ?_⟩
        generalize (List.range (M + 1)).map (szD rs abc) = A at k ⊢
        generalize hz : ((m + 1 : Nat) : Int) = z
        simp only [nD, hz] at k ⊢
        simp [sFor_r, k, cIsN, okB]
      | some c =>
        have lt := scan_lt rs (m + 1) t p c q e
        have lc := ht c lt.2
        obtain ⟨ρ', ih⟩ := down_loop rs h M s2 s3 m (putR rs c) q (.fr (nD (m + 1))) (.fr (.str [c])) y9 (by omega) (putR_low h lc) (by have := putR_len h c; omega)
        refine ⟨ρ', ?_⟩
        have g := kget_ru c rs
        have g2 := getO_put rs c
        have ne : ((((m + 1 : Nat) : Int)) == 0) = false := beq_eq_false_iff_ne.mpr (by omega)
        generalize (List.range (M + 1)).map (szD rs abc) = A at k ih ⊢
        generalize hz : ((m + 1 : Nat) : Int) = z at ne
        simp only [nD, hz] at k ih ⊢
        simp [sFor_r, k, cIsN, okB, ne, g, g2, ih]
theorem letter_at (t : List Nat) (rs : List Rule) (m p : Nat) (ht : Low t) (h1 : t.length ≤ 30) (h : RulesOk rs) (hm : m ≤ 40) : F_letter_at [.str t, .lst (rs.map ruD), nD m, nD p] = .ret (.fr (oS ((itR rs m t)[p]?))) := by
  obtain ⟨ρ', k⟩ := down_loop rs h m (.fr (nD m)) (.fr (nD p)) m t p .un .un .un (Nat.le_refl m) ht (by omega)
  rw [down_it] at k
  have c1 := check_far t rs m ht h1 h hm
  have c2 := sizes_of rs m h (by omega)
  have d := dict_ru rs h
  have rg := rg_dn m (by omega)
  have a1 : ¬ (p : Int) < 0 := by omega
  unfold F_letter_at B_letter_at
  generalize (List.range (m + 1)).map (szD rs abc) = A at c2 k
  simp only [nD] at c1 c2 k
  simp [runF_eq, startS, paramS, List.replicate, c1, c2, d, is_whole_n, a1, sFor_r, rg, k]
end G

/-! ## P_cyc -/
set_option Elab.async false
set_option linter.all false
set_option maxRecDepth 100000
set_option maxHeartbeats 400000
namespace G
open PySem L2 Vi
/-! #### what becomes of a letter -/
theorem fm_congr {t : List Nat} {f g : Nat → List Nat} (h : ∀ c ∈ t, f c = g c) : t.flatMap f = t.flatMap g := by
  induction t with
  | nil => rfl
  | cons a t ih => rw [List.flatMap_cons, List.flatMap_cons, h a List.mem_cons_self, ih fun c hc => h c (List.mem_cons_of_mem _ hc)]
theorem it_flat (rs : List Rule) (m : Nat) : ∀ t : List Nat, itR rs m t = t.flatMap fun c => itR rs m [c]
  | [] => itR_nil rs m
  | c :: t => by
    rw [← List.singleton_append, itR_app, it_flat rs m t]; rfl
theorem it_add (rs : List Rule) : ∀ (m n : Nat) (t : List Nat), itR rs (m + n) t = itR rs n (itR rs m t)
  | 0, n, t => by rw [Nat.zero_add]; rfl
  | m + 1, n, t => by
    have e : m + 1 + n = m + n + 1 := by omega
    rw [e]
    show itR rs (m + n) (roundL rs t) = itR rs n (itR rs m (roundL rs t))
    exact it_add rs m n _
theorem mem_it {rs : List Rule} {a b : Nat} {t : List Nat} {d e : Nat} (h : d ∈ itR rs a t) (h2 : e ∈ itR rs b [d]) : e ∈ itR rs (a + b) t := by
  rw [it_add, it_flat]
  exact List.mem_flatMap.mpr ⟨d, h, h2⟩
theorem ev_one (rs : List Rule) (m c : Nat) : itR rs m [c] = [] ↔ Ev rs m c = true := by
  have := ev_it rs m [c]
  rw [List.all_cons, List.all_nil, Bool.and_true] at this
  rw [← this]
  exact ⟨fun h => by rw [h]; rfl, fun h => eq_of_beq h⟩
structure Small (rs : List Rule) : Prop where
  keys : Keys rs
  len : rs.length ≤ 4
  put : ∀ c, (putR rs c).length ≤ 3
theorem RulesOk.small {rs : List Rule} (h : RulesOk rs) : Small rs := ⟨h.keys, h.len, putR_len h⟩
theorem ev_stab {rs : List Rule} (h : Small rs) {m c : Nat} (e : Ev rs m c = true) : Ev rs 4 c = true := by
  by_cases q : m ≤ 4
  · exact ev_le rs q e
  · have v := (van_ok h.keys h.len).key c
    rw [← v 4 (Nat.le_refl _), v m (by omega)]; exact e
/-- the letters that last -/
def la (rs : List Rule) (t : List Nat) : List Nat := t.filter fun s => !Ev rs 4 s
theorem la_app (rs : List Rule) (s t : List Nat) : la rs (s ++ t) = la rs s ++ la rs t := List.filter_append ..
theorem la_mem {rs : List Rule} {c : Nat} {t : List Nat} : c ∈ la rs t ↔ c ∈ t ∧ Ev rs 4 c = false := by
  unfold la
  rw [List.mem_filter]
  constructor
  · exact fun h => ⟨h.1, by simpa using h.2⟩
  · exact fun h => ⟨h.1, by rw [h.2]; rfl⟩
theorem gone_la {rs : List Rule} (h : Small rs) {c : Nat} (g : Ev rs 4 c = true) (n : Nat) : la rs (itR rs n [c]) = [] := by
  refine List.eq_nil_iff_forall_not_mem.mpr fun e he => ?_
  obtain ⟨h1, h2⟩ := la_mem.mp he
  have : Ev rs (n + 4) c = true := ev_le rs (by omega) g
  have z : itR rs (n + 4) [c] = [] := (ev_one rs _ c).mpr this
  cases q : itR rs 4 [e] with
  | nil => rw [(ev_one rs 4 e).mp q] at h2; cases h2
  | cons x l =>
    have : x ∈ itR rs (n + 4) [c] := mem_it h1 (by rw [q]; exact List.mem_cons_self)
    rw [z] at this; cases this
theorem last_one {rs : List Rule} (h : Small rs) {c : Nat} (g : Ev rs 4 c = false) (m : Nat) : 1 ≤ (la rs (itR rs m [c])).length := by
  cases q : la rs (itR rs m [c]) with
  | cons x l => rw [List.length_cons]; omega
  | nil =>
    exfalso
    have all : ∀ e ∈ itR rs m [c], Ev rs 4 e = true := fun e he => by
      cases z : Ev rs 4 e with
      | true => rfl
      | false =>
        have : e ∈ la rs (itR rs m [c]) := la_mem.mpr ⟨he, z⟩
        rw [q] at this; cases this
    have : itR rs (m + 4) [c] = [] := by
      rw [it_add]
      have := ev_it rs 4 (itR rs m [c])
      rw [List.all_eq_true.mpr all] at this
      exact eq_of_beq this
    have := ev_stab h ((ev_one rs _ c).mp this)
    rw [g] at this; cases this
theorem la_it {rs : List Rule} (h : Small rs) (n : Nat) : ∀ t : List Nat, la rs (itR rs n t) = la rs (itR rs n (la rs t))
  | [] => rfl
  | c :: t => by
    have ih := la_it h n t
    rw [← List.singleton_append, itR_app, la_app, la_app, itR_app, la_app, ih]
    congr 1
    cases g : Ev rs 4 c with
    | true =>
      rw [gone_la h g]
      have : la rs [c] = [] := by unfold la; rw [List.filter_cons_of_neg (by rw [g]; exact Bool.false_ne_true)]; rfl
      rw [this, itR_nil]; rfl
    | false =>
      have : la rs [c] = [c] := by unfold la; rw [List.filter_cons_of_pos (by rw [g]; rfl)]; rfl
      rw [this]
theorem la_len {rs : List Rule} (h : Small rs) (m : Nat) : ∀ t : List Nat, (la rs t).length ≤ (la rs (itR rs m t)).length
  | [] => Nat.zero_le _
  | c :: t => by
    have ih := la_len h m t
    rw [← List.singleton_append, itR_app, la_app, la_app, List.length_append, List.length_append]
    refine Nat.add_le_add ?_ ih
    cases g : Ev rs 4 c with
    | true =>
      have : la rs [c] = [] := by unfold la; rw [List.filter_cons_of_neg (by rw [g]; exact Bool.false_ne_true)]; rfl
      rw [this]; exact Nat.zero_le _
    | false =>
      have : la rs [c] = [c] := by unfold la; rw [List.filter_cons_of_pos (by rw [g]; rfl)]; rfl
      rw [this]; exact last_one h g m
theorem it_la {rs : List Rule} {m : Nat} (hm : 4 ≤ m) : ∀ t : List Nat, itR rs m t = itR rs m (la rs t)
  | [] => rfl
  | c :: t => by
    have ih := it_la (rs := rs) hm t
    rw [← List.singleton_append, itR_app, la_app, itR_app, ih]
    congr 1
    cases g : Ev rs 4 c with
    | true =>
      rw [(ev_one rs m c).mpr (ev_le rs hm g)]
      have : la rs [c] = [] := by unfold la; rw [List.filter_cons_of_neg (by rw [g]; exact Bool.false_ne_true)]; rfl
      rw [this, itR_nil]
    | false =>
      have : la rs [c] = [c] := by unfold la; rw [List.filter_cons_of_pos (by rw [g]; rfl)]; rfl
      rw [this]
/-! a letter that makes itself, alone -/
theorem cyc_mul {rs : List Rule} {c r : Nat} (h : c ∈ itR rs r [c]) : ∀ k : Nat, c ∈ itR rs (r * k) [c]
  | 0 => List.mem_singleton.mpr rfl
  | k + 1 => by rw [Nat.mul_succ]; exact mem_it (cyc_mul h k) h
theorem cyc_last {rs : List Rule} (h : Small rs) {c r : Nat} (hr : 1 ≤ r) (hc : c ∈ itR rs r [c]) : Ev rs 4 c = false := by
  cases g : Ev rs 4 c with
  | false => rfl
  | true =>
    have m := cyc_mul hc 4
    rw [(ev_one rs _ c).mpr (ev_le rs (by omega) g)] at m
    cases m
theorem cyc_la {rs : List Rule} (h : Small rs) {c r : Nat} (hr : 1 ≤ r) (hc : c ∈ itR rs r [c]) (hn : (la rs (itR rs r [c])).length ≤ 1) : la rs (itR rs r [c]) = [c] := by
  have m : c ∈ la rs (itR rs r [c]) := la_mem.mpr ⟨hc, cyc_last h hr hc⟩
  cases q : la rs (itR rs r [c]) with
  | nil => rw [q] at m; cases m
  | cons x l =>
    rw [q, List.length_cons] at hn
    have : l = [] := List.eq_nil_of_length_eq_zero (by omega)
    subst this
    rw [q, List.mem_singleton] at m
    rw [m]
theorem cyc_la_mul {rs : List Rule} (h : Small rs) {c r : Nat} (hl : la rs (itR rs r [c]) = [c]) (g : Ev rs 4 c = false) : ∀ k : Nat, la rs (itR rs (r * k) [c]) = [c]
  | 0 => by
    show la rs [c] = [c]
    unfold la; rw [List.filter_cons_of_pos (by rw [g]; rfl)]; rfl
  | k + 1 => by rw [Nat.mul_succ, it_add, la_it h, cyc_la_mul h hl g k, hl]
structure Sgl (rs : List Rule) (c : Nat) : Prop where
  l : Ev rs 4 c = false
  one : ∀ i, (la rs (itR rs i [c])).length ≤ 1
theorem cyc_sgl {rs : List Rule} (h : Small rs) {c r : Nat} (hr : 1 ≤ r) (hc : c ∈ itR rs r [c]) (hn : (la rs (itR rs r [c])).length ≤ 1) : Sgl rs c := by
  have g := cyc_last h hr hc
  have hl := cyc_la h hr hc hn
  refine ⟨g, fun i => ?_⟩
  have m := cyc_la_mul h hl g (i + 1)
  have le : i ≤ r * (i + 1) := by
    have : 1 * (i + 1) ≤ r * (i + 1) := Nat.mul_le_mul_right _ hr
    omega
  have e : r * (i + 1) = i + (r * (i + 1) - i) := by omega
  rw [e, it_add] at m
  have := la_len h (r * (i + 1) - i) (itR rs i [c])
  rw [m] at this
  exact this
theorem cyc_per {rs : List Rule} (h : Small rs) {c r : Nat} (hr : 1 ≤ r) (hr4 : r ≤ 4) (hc : c ∈ itR rs r [c]) (hn : (la rs (itR rs r [c])).length ≤ 1) {m : Nat} (hm : 4 ≤ m) : itR rs (m + 12) [c] = itR rs m [c] := by
  have g := cyc_last h hr hc
  have hl := cyc_la h hr hc hn
  have e : la rs (itR rs 12 [c]) = [c] := by
    have : r = 1 ∨ r = 2 ∨ r = 3 ∨ r = 4 := by omega
    rcases this with q | q | q | q
    · subst q; exact cyc_la_mul h hl g 12
    · subst q; exact cyc_la_mul h hl g 6
    · subst q; exact cyc_la_mul h hl g 4
    · subst q; exact cyc_la_mul h hl g 3
  have e2 : m + 12 = 12 + m := by omega
  rw [e2, it_add, it_la hm, e]
/-! how long -/
def gB (m : Nat) : Nat := if m < 4 then 3 ^ m else 0
def bB : Nat → Nat
  | 0 => 1
  | m + 1 => bB m + 2 * gB m
theorem bB_le : ∀ m : Nat, bB m ≤ 81
  | 0 => by decide
  | 1 => by decide
  | 2 => by decide
  | 3 => by decide
  | m + 4 => by
    induction m with
    | zero => decide
    | succ m ih =>
      show bB (m + 4) + 2 * gB (m + 4) ≤ 81
      have : gB (m + 4) = 0 := if_neg (by omega)
      rw [this]; exact ih
theorem sz_pow {rs : List Rule} (h : Small rs) : ∀ (m c : Nat), szL rs m c ≤ 3 ^ m
  | 0, c => by show 1 ≤ 1; omega
  | m + 1, c => by
    have : ∀ t : List Nat, (t.map (szL rs m)).sum ≤ t.length * 3 ^ m := fun t => by
      induction t with
      | nil => exact Nat.zero_le _
      | cons a t ih =>
        have := sz_pow h m a
        rw [List.map_cons, List.sum_cons, List.length_cons, Nat.succ_mul]; omega
    have q := this (putR rs c)
    have p := h.put c
    have : (putR rs c).length * 3 ^ m ≤ 3 * 3 ^ m := Nat.mul_le_mul_right _ p
    show ((putR rs c).map (szL rs m)).sum ≤ _
    rw [Nat.pow_succ]; omega
theorem gone_sz {rs : List Rule} (h : Small rs) {c : Nat} (g : Ev rs 4 c = true) (m : Nat) : szL rs m c ≤ gB m := by
  unfold gB
  by_cases q : m < 4
  · rw [if_pos q]; exact sz_pow h m c
  · rw [if_neg q, ← sz_one, (ev_one rs m c).mpr (ev_le rs (by omega) g)]; exact Nat.le_refl _
theorem sum_la {rs : List Rule} (f : Nat → Nat) (A B : Nat) : ∀ t : List Nat, (∀ c ∈ t, Ev rs 4 c = true → f c ≤ B) → (∀ c ∈ t, Ev rs 4 c = false → f c ≤ A) → (t.map f).sum ≤ (la rs t).length * A + (t.length - (la rs t).length) * B ∧ (la rs t).length ≤ t.length
  | [], _, _ => ⟨Nat.zero_le _, Nat.le_refl _⟩
  | c :: t, h1, h2 => by
    obtain ⟨i1, i2⟩ := sum_la f A B t (fun d hd => h1 d (List.mem_cons_of_mem _ hd)) (fun d hd => h2 d (List.mem_cons_of_mem _ hd))
    rw [List.map_cons, List.sum_cons, List.length_cons]
    cases g : Ev rs 4 c with
    | true =>
      have : la rs (c :: t) = la rs t := by unfold la; rw [List.filter_cons_of_neg (by rw [g]; exact Bool.false_ne_true)]
      rw [this]
      have a := h1 c List.mem_cons_self g
      have e : t.length + 1 - (la rs t).length = (t.length - (la rs t).length) + 1 := by omega
      rw [e, Nat.succ_mul]
      exact ⟨by omega, by omega⟩
    | false =>
      have : la rs (c :: t) = c :: la rs t := by unfold la; rw [List.filter_cons_of_pos (by rw [g]; rfl)]
      rw [this, List.length_cons]
      have a := h2 c List.mem_cons_self g
      have e : t.length + 1 - ((la rs t).length + 1) = t.length - (la rs t).length := by omega
      rw [e, Nat.succ_mul]
      exact ⟨by omega, by omega⟩
theorem sgl_put {rs : List Rule} (h : Small rs) {c d : Nat} (s : Sgl rs c) (hd : d ∈ putR rs c) (g : Ev rs 4 d = false) : Sgl rs d := by
  refine ⟨g, fun i => ?_⟩
  have q := s.one (i + 1)
  rw [itR_one, la_it h] at q
  have m : d ∈ la rs (putR rs c) := la_mem.mpr ⟨hd, g⟩
  have o := s.one 1
  have e1 : itR rs 1 [c] = putR rs c := by rw [itR_one]; rfl
  rw [e1] at o
  cases z : la rs (putR rs c) with
  | nil => rw [z] at m; cases m
  | cons x l =>
    rw [z, List.length_cons] at o
    have : l = [] := List.eq_nil_of_length_eq_zero (by omega)
    subst this
    rw [z] at m q
    rw [List.mem_singleton.mp m]; exact q
theorem sgl_sz {rs : List Rule} (h : Small rs) : ∀ (m c : Nat), Sgl rs c → szL rs m c ≤ bB m
  | 0, c, _ => Nat.le_refl _
  | m + 1, c, s => by
    obtain ⟨q1, q2⟩ := sum_la (rs := rs) (szL rs m) (bB m) (gB m) (putR rs c) (fun d _ g => gone_sz h g m) (fun d hd g => sgl_sz h m d (sgl_put h s hd g))
    have o := s.one 1
    have e1 : itR rs 1 [c] = putR rs c := by rw [itR_one]; rfl
    have l1 := last_one h s.l 1
    rw [e1] at o l1
    have e2 : (la rs (putR rs c)).length = 1 := by omega
    rw [e2] at q1 q2
    have p := h.put c
    have : ((putR rs c).length - 1) * gB m ≤ 2 * gB m := Nat.mul_le_mul_right _ (by omega)
    show ((putR rs c).map (szL rs m)).sum ≤ bB m + 2 * gB m
    omega
/-! letters that don't come again -/
def Good (rs : List Rule) (c : Nat) : Prop := (∀ r ∈ rs, r.1 ≠ c) ∨ Ev rs 4 c = true ∨ ∃ r, 1 ≤ r ∧ r ≤ 4 ∧ c ∈ itR rs r [c]
def Tr (rs : List Rule) : Nat → Nat → Prop
  | 0, c => Good rs c
  | n + 1, c => Good rs c ∨ ∀ d ∈ putR rs c, Tr rs n d
def Ch (rs : List Rule) : List Nat → Prop
  | c :: d :: l => d ∈ putR rs c ∧ Ch rs (d :: l)
  | _ => True
theorem not_tr {rs : List Rule} : ∀ (n c : Nat), ¬ Tr rs n c → ∃ l, l.length = n ∧ Ch rs (c :: l) ∧ ∀ x ∈ c :: l, ¬ Good rs x
  | 0, c, h => ⟨[], rfl, trivial, fun x hx => by rw [List.mem_singleton.mp hx]; exact h⟩
  | n + 1, c, h => by
    have h1 : ¬ Good rs c := fun q => h (.inl q)
    have h2 : ∃ d, d ∈ putR rs c ∧ ¬ Tr rs n d := Classical.byContradiction fun q => h (.inr fun d hd => Classical.byContradiction fun z => q ⟨d, hd, z⟩)
    obtain ⟨d, hd, z⟩ := h2
    obtain ⟨l, l1, l2, l3⟩ := not_tr n d z
    refine ⟨d :: l, by rw [List.length_cons, l1], ⟨hd, l2⟩, fun x hx => ?_⟩
    rcases List.mem_cons.mp hx with e | e
    · rw [e]; exact h1
    · exact l3 x e
theorem ch_mem {rs : List Rule} : ∀ (l : List Nat) (c i d : Nat), Ch rs (c :: l) → l[i]? = some d → d ∈ itR rs (i + 1) [c]
  | [], c, i, d, _, e => by cases e
  | x :: l, c, 0, d, h, e => by
    have : x = d := by simpa using e
    subst this
    rw [itR_one]; exact h.1
  | x :: l, c, i + 1, d, h, e => by
    have ih := ch_mem l x i d h.2 (by simpa using e)
    have e2 : i + 1 + 1 = 1 + (i + 1) := by omega
    rw [e2]
    exact mem_it (d := x) (by rw [itR_one]; exact h.1) ih
theorem ch_nd {rs : List Rule} : ∀ L : List Nat, Ch rs L → (∀ x ∈ L, ¬ Good rs x) → L.length ≤ 5 → L.Nodup
  | [], _, _, _ => List.nodup_nil
  | c :: l, h, g, hl => by
    rw [List.length_cons] at hl
    have hl2 : Ch rs l := by
      cases l with
      | nil => trivial
      | cons d l => exact h.2
    refine List.nodup_cons.mpr ⟨fun m => ?_, ch_nd l hl2 (fun x hx => g x (List.mem_cons_of_mem _ hx)) (by omega)⟩
    obtain ⟨i, hi, e⟩ := List.mem_iff_getElem.mp m
    have := ch_mem l c i c h (by rw [List.getElem?_eq_getElem hi, e])
    exact g c List.mem_cons_self (.inr (.inr ⟨i + 1, by omega, by omega, this⟩))
theorem tr_all {rs : List Rule} (h : Small rs) (c : Nat) : Tr rs 4 c := Classical.byContradiction fun q => by
  obtain ⟨l, l1, l2, l3⟩ := not_tr 4 c q
  have nd := ch_nd (c :: l) l2 l3 (by rw [List.length_cons, l1]; omega)
  have := nodup_len (m := rs.map (·.1)) nd fun x hx => by
    have g := l3 x hx
    exact Classical.byContradiction fun z => g (.inl fun r hr e => z (List.mem_map.mpr ⟨r, hr, e⟩))
  rw [List.length_cons, l1, List.length_map] at this
  have := h.len
  omega
/-! the whole -/
def moreB (rs : List Rule) (r c : Nat) : Bool := (itR rs r [c]).contains c && decide (1 < (la rs (itR rs r [c])).length)
def NG (rs : List Rule) (c : Nat) : Prop := ∀ (m d : Nat), d ∈ itR rs m [c] → ∀ r, 1 ≤ r → r ≤ 4 → moreB rs r d = false
theorem ng_put {rs : List Rule} {c d : Nat} (h : NG rs c) (hd : d ∈ putR rs c) : NG rs d := fun m e he r h1 h2 => by
  refine h (1 + m) e (mem_it (d := d) (by rw [itR_one]; exact hd) he) r h1 h2
theorem fix_it {rs : List Rule} {c : Nat} (h : ∀ r ∈ rs, r.1 ≠ c) : ∀ m : Nat, itR rs m [c] = [c]
  | 0 => rfl
  | m + 1 => by rw [itR_one, putR_none h, fix_it h m]
theorem good_main {rs : List Rule} (h : Small rs) {c : Nat} (g : Good rs c) (ng : NG rs c) : (∀ m, 4 ≤ m → itR rs (m + 12) [c] = itR rs m [c]) ∧ ∀ m, szL rs m c ≤ 81 := by
  rcases g with g | g | ⟨r, r1, r4, hc⟩
  · refine ⟨fun m _ => by rw [fix_it g, fix_it g], fun m => ?_⟩
    rw [← sz_one, fix_it g]; show 1 ≤ 81; omega
  · refine ⟨fun m hm => by rw [(ev_one rs _ c).mpr (ev_le rs (by omega) g), (ev_one rs _ c).mpr (ev_le rs hm g)], fun m => Nat.le_trans (gone_sz h g m) ?_⟩
    unfold gB
    by_cases q : m < 4
    · rw [if_pos q]
      exact Nat.le_trans (Nat.pow_le_pow_right (by decide) (show m ≤ 4 by omega)) (by decide)
    · rw [if_neg q]; exact Nat.zero_le _
  · have z := ng 0 c (List.mem_singleton.mpr rfl) r r1 r4
    have n : (la rs (itR rs r [c])).length ≤ 1 := by
      unfold moreB at z
      rw [List.contains_iff_mem.mpr hc, Bool.true_and] at z
      have := of_decide_eq_false z
      omega
    exact ⟨fun m hm => cyc_per h r1 r4 hc n hm, fun m => Nat.le_trans (sgl_sz h m c (cyc_sgl h r1 hc n)) (bB_le m)⟩
theorem tr_main {rs : List Rule} (h : Small rs) : ∀ (n c : Nat), Tr rs n c → NG rs c → (∀ m, 4 + n ≤ m → itR rs (m + 12) [c] = itR rs m [c]) ∧ ∀ m, szL rs m c ≤ 81 * 3 ^ n
  | 0, c, t, ng => by
    obtain ⟨a, b⟩ := good_main h (show Good rs c from t) ng
    exact ⟨a, fun m => by have := b m; omega⟩
  | n + 1, c, t, ng => by
    have pos : 81 ≤ 81 * 3 ^ (n + 1) := Nat.le_mul_of_pos_right _ (Nat.pow_pos (by decide))
    rcases (show Good rs c ∨ ∀ d ∈ putR rs c, Tr rs n d from t) with g | g
    · obtain ⟨a, b⟩ := good_main h g ng
      exact ⟨fun m hm => a m (by omega), fun m => Nat.le_trans (b m) pos⟩
    · have ih := fun d hd => tr_main h n d (g d hd) (ng_put ng hd)
      refine ⟨fun m hm => ?_, fun m => ?_⟩
      · obtain ⟨k, e⟩ : ∃ k, m = k + 1 := ⟨m - 1, by omega⟩
        subst e
        have e2 : k + 1 + 12 = k + 12 + 1 := by omega
        rw [e2, itR_one, itR_one, it_flat rs (k + 12), it_flat rs k]
        refine fm_congr fun d hd => (ih d hd).1 k (by omega)
      · cases m with
        | zero => show 1 ≤ _; omega
        | succ m =>
          have : ∀ t : List Nat, (∀ d ∈ t, szL rs m d ≤ 81 * 3 ^ n) → (t.map (szL rs m)).sum ≤ t.length * (81 * 3 ^ n) := fun t => by
            induction t with
            | nil => exact fun _ => Nat.zero_le _
            | cons a t i2 =>
              intro ha
              have h1 := ha a List.mem_cons_self
              have h2 := i2 fun d hd => ha d (List.mem_cons_of_mem _ hd)
              rw [List.map_cons, List.sum_cons, List.length_cons, Nat.succ_mul]; omega
          have q := this (putR rs c) fun d hd => (ih d hd).2 m
          have p := h.put c
          have : (putR rs c).length * (81 * 3 ^ n) ≤ 3 * (81 * 3 ^ n) := Nat.mul_le_mul_right _ p
          show ((putR rs c).map (szL rs m)).sum ≤ _
          rw [Nat.pow_succ]; omega
theorem calm_per {rs : List Rule} (h : Small rs) {t : List Nat} (ng : ∀ c ∈ t, NG rs c) : itR rs 20 t = itR rs 8 t := by
  rw [it_flat rs 20, it_flat rs 8]
  exact fm_congr fun c hc => (tr_main h 4 c (tr_all h c) (ng c hc)).1 8 (by decide)
theorem calm_len {rs : List Rule} (h : Small rs) (m : Nat) : ∀ t : List Nat, (∀ c ∈ t, NG rs c) → (itR rs m t).length ≤ 6561 * t.length
  | [], _ => by rw [itR_nil]; exact Nat.zero_le _
  | c :: t, ng => by
    have ih := calm_len h m t fun d hd => ng d (List.mem_cons_of_mem _ hd)
    have q := (tr_main h 4 c (tr_all h c) (ng c List.mem_cons_self)).2 m
    rw [← List.singleton_append, itR_app, List.length_append, sz_one]
    have : (81 : Nat) * 3 ^ 4 = 6561 := by decide
    rw [this] at q
    rw [List.singleton_append, List.length_cons]; omega
end G

/-! ## P_set -/
set_option Elab.async false
set_option linter.all false
set_option maxRecDepth 100000
set_option maxHeartbeats 400000
namespace G
open PySem L2 Vi
/-! #### letters that come -/
theorem dedup_mem {α : Type} [DecidableEq α] (c : α) : ∀ l : List α, c ∈ dedup l ↔ c ∈ l
  | [] => Iff.rfl
  | x :: r => by
    have ih := dedup_mem c r
    unfold dedup
    by_cases h : x ∈ r
    · rw [if_pos h, ih, List.mem_cons]
      exact ⟨.inr, fun q => q.elim (fun e => e ▸ h) id⟩
    · rw [if_neg h, List.mem_cons, List.mem_cons, ih]
theorem dedup_nd {α : Type} [DecidableEq α] : ∀ l : List α, (dedup l).Nodup
  | [] => List.nodup_nil
  | x :: r => by
    unfold dedup
    by_cases h : x ∈ r
    · rw [if_pos h]; exact dedup_nd r
    · rw [if_neg h]; exact List.nodup_cons.mpr ⟨fun q => h ((dedup_mem x r).mp q), dedup_nd r⟩
theorem one_mem (x : Nat) (r : List Nat) : [x] ∈ lK r ↔ x ∈ r :=
  ⟨fun h => by obtain ⟨c, hc, e⟩ := List.mem_map.mp h; cases e; exact hc, fun h => List.mem_map.mpr ⟨x, h, rfl⟩⟩
theorem dedup_one : ∀ l : List Nat, dedup (lK l) = lK (dedup l)
  | [] => rfl
  | x :: r => by
    have ih := dedup_one r
    show dedup ([x] :: lK r) = _
    unfold dedup
    by_cases h : x ∈ r
    · rw [if_pos h, if_pos ((one_mem x r).mpr h), ih]
    · rw [if_neg h, if_neg (fun q => h ((one_mem x r).mp q)), ih]; rfl
def sortN (l : List Nat) : List Nat := isortL (fun a b => leT [a] [b]) l
theorem sort_one (l : List Nat) : isortL leT (lK l) = lK (sortN l) := isortL_map _ _ _
theorem sortN_perm (l : List Nat) : (sortN l).Perm l := isortL_perm _ l
theorem nd_len26 {l : List Nat} (h : l.Nodup) (lo : Low l) : l.length ≤ 26 := nodup_len (m := abc) h fun x hx => low_abc (lo x hx)
theorem low_dedup {l : List Nat} (h : Low l) : Low (dedup l) := fun c hc => h c ((dedup_mem c l).mp hc)
theorem sset_s {t : List Nat} (h : Low t) (hl : t.length ≤ 1000) : sortSetA (.str t) = some (.new (.lst ((sortN (dedup t)).map fun c => .str [c]))) := by
  have n := nd_len26 (dedup_nd t) (low_dedup h)
  show (if (t.all (· < 128)) = true ∧ t.length < 4000 ∧ (dedup (lK t)).length < 64 then some (Hd.new (.lst ((sortS (dedup (lK t))).map .str))) else none) = _
  rw [dedup_one]
  have e : (lK (dedup t)).length = (dedup t).length := List.length_map _
  rw [if_pos ⟨List.all_eq_true.mpr fun c hc => by have := h c hc; simp; omega, by omega, by omega⟩]
  show some (Hd.new (.lst ((isortL leT (lK (dedup t))).map .str))) = _
  rw [sort_one, List.map_map]; rfl
theorem strs_one (l : List Nat) : strs? (l.map fun c => .str [c]) = some (lK l) := strs_map (fun c => [c]) l
theorem sset_l {t : List Nat} (h : Low t) (hl : t.length ≤ 3000) : sortSetA (.lst (t.map fun c => .str [c])) = some (.new (.lst ((sortN (dedup t)).map fun c => .str [c]))) := by
  have n := nd_len26 (dedup_nd t) (low_dedup h)
  cases t with
  | nil => rfl
  | cons a t =>
    show (match strs? ((a :: t).map fun c => D.str [c]) with
      | some xs => if xs.length < 4000 ∧ (dedup xs).length < 64 then some (Hd.new (.lst ((sortS (dedup xs)).map .str))) else none
      | none => none) = _
    rw [strs_one]
    show (if (lK (a :: t)).length < 4000 ∧ (dedup (lK (a :: t))).length < 64 then some (Hd.new (.lst ((sortS (dedup (lK (a :: t)))).map .str))) else none) = _
    generalize hx : a :: t = x at *
    rw [dedup_one]
    have e : (lK (dedup x)).length = (dedup x).length := List.length_map _
    have e1 : (lK x).length = x.length := List.length_map _
    rw [if_pos ⟨by omega, by omega⟩]
    show some (Hd.new (.lst ((isortL leT (lK (dedup x))).map .str))) = _
    rw [sort_one, List.map_map]; rfl
theorem sorted_l {t : List Nat} (hl : t.length < 64) : sortedD (.lst (t.map fun c => .str [c])) = some (.new (.lst ((sortN t).map fun c => .str [c]))) := by
  show (match strs? (t.map fun c => D.str [c]) with
    | some xs => if xs.length < 64 then some (Hd.new (.lst ((isortL leT xs).map .str))) else none
    | none => _) = _
  rw [strs_one]
  show (if (lK t).length < 64 then some (Hd.new (.lst ((isortL leT (lK t)).map .str))) else none) = _
  have e1 : (lK t).length = t.length := List.length_map _
  rw [if_pos (by omega), sort_one, List.map_map]; rfl
theorem join_one {t : List Nat} (hl : t.length ≤ 1000) : joinD [] (.lst (t.map fun c => .str [c])) = some (.val (.str t)) := by
  show (strs? (t.map fun c => D.str [c])).bind (fun xs => if (xs.map (·.length)).sum + xs.length * ([] : List Nat).length ≤ SLine then some (Hd.val (.str (TL.joinL [] xs))) else none) = _
  rw [strs_one]
  have e : ((lK t).map (·.length)).sum = t.length := by
    rw [List.map_map]
    have : ∀ t : List Nat, (t.map (List.length ∘ fun c => [c])).sum = t.length := fun t => by
      induction t with
      | nil => rfl
      | cons a t ih => rw [List.map_cons, List.sum_cons, ih, List.length_cons]; show 1 + _ = _; omega
    exact this t
  have f : (lK t).flatten = t := by
    have : ∀ t : List Nat, (lK t).flatten = t := fun t => by
      induction t with
      | nil => rfl
      | cons a t ih => show [a] ++ (lK t).flatten = _; rw [ih]; rfl
    exact this t
  show (if ((lK t).map (·.length)).sum + (lK t).length * 0 ≤ SLine then some (Hd.val (.str (TL.joinL [] (lK t)))) else none) = _
  rw [if_pos (sl_le (by omega)), joinL_nil, f]
theorem in_c (a : Nat) : ∀ s : List Nat, inD (.str [a]) (s.map fun c => .str [c]) = decide (a ∈ s)
  | [] => by simp [inD]
  | x :: s => by
    have := in_c a s
    unfold inD at *
    rw [List.map_cons, List.any_cons, this]
    show (([x] : List Nat) == [a] || decide (a ∈ s)) = _
    by_cases h : a = x
    · subst h; simp
    · rw [beq_eq_false_iff_ne.mpr (fun q => h (List.cons.inj q).1.symm)]; simp [h]
theorem flat_c (s : List Nat) : (s.map fun c => D.str [c]).all flatD = true := by
  rw [List.all_eq_true]
  intro d hd
  obtain ⟨x, _, e⟩ := List.mem_map.mp hd
  subst e; rfl
theorem notIn_c (a : Nat) (s : List Nat) : cNotIn (.str [a]) (.lst (s.map fun c => .str [c])) = some (.val (.bl !decide (a ∈ s))) := by
  unfold cNotIn
  show (if flatD (.str [a]) = true ∧ (s.map fun c => D.str [c]).all flatD = true then some (inD (.str [a]) (s.map fun c => .str [c])) else none).map _ = _
  rw [if_pos ⟨rfl, flat_c s⟩, in_c]; rfl
theorem aPlus_l {xs ys : List D} (h : xs.length + ys.length ≤ 1000) : aPlus (.lst xs) (.lst ys) = some (.new (.lst (xs ++ ys))) := by
  show Option.or none (Option.or none (if xs.length + ys.length ≤ SLine then some (Hd.new (.lst (xs ++ ys))) else none)) = _
  rw [if_pos (sl_of h)]; rfl
/-- letters that are closed under the rules -/
def Closed (rs : List Rule) (L : List Nat) : Prop := ∀ c ∈ L, ∀ d ∈ putR rs c, d ∈ L
theorem sortN_up {l : List Nat} (h : l.Nodup) : (sortN l).Pairwise (· < ·) := by
  have h1 : (sortN l).Pairwise fun a b => leT [a] [b] = true := isortL_pw (le := fun a b => leT [a] [b]) (fun a b q => by rw [leT_one] at *; simp at *; omega) (fun a b c q r => by rw [leT_one] at *; simp at *; omega) l
  have h2 : (sortN l).Nodup := (sortN_perm l).nodup_iff.mpr h
  exact (h1.and h2).imp fun {a b} q => by
    have := q.1
    rw [leT_one] at this
    have := of_decide_eq_true this
    have := q.2
    omega
/-- the letters that come, rising -/
structure Rch (rs : List Rule) (t L : List Nat) : Prop where
  up : L.Pairwise (· < ·)
  mem : ∀ c, c ∈ L ↔ ∃ m, c ∈ itR rs m t
theorem closed_it {rs : List Rule} {L : List Nat} (cl : Closed rs L) : ∀ (m : Nat) (t : List Nat), (∀ c ∈ t, c ∈ L) → ∀ c ∈ itR rs m t, c ∈ L
  | 0, t, h, c, hc => h c hc
  | m + 1, t, h, c, hc => closed_it cl m (roundL rs t) (fun d hd => by
      obtain ⟨e, he, hd⟩ := List.mem_flatMap.mp hd
      exact cl e (h e he) d hd) c hc
theorem come_step {rs : List Rule} {t : List Nat} (d : Nat) (h : ∃ m, d ∈ itR rs m t) (c : Nat) (hc : c ∈ putR rs d) : ∃ m, c ∈ itR rs m t := by
  obtain ⟨m, hm⟩ := h
  exact ⟨m + 1, by rw [itR_succ]; exact List.mem_flatMap.mpr ⟨d, hm, hc⟩⟩
theorem rch_one : ∀ {L M : List Nat}, L.Pairwise (· < ·) → M.Pairwise (· < ·) → (∀ c, c ∈ L ↔ c ∈ M) → L = M
  | [], [], _, _, _ => rfl
  | [], b :: M, _, _, h => absurd ((h b).mpr List.mem_cons_self) List.not_mem_nil
  | a :: L, [], _, _, h => absurd ((h a).mp List.mem_cons_self) List.not_mem_nil
  | a :: L, b :: M, hl, hm, h => by
    have h1 := List.pairwise_cons.mp hl
    have h2 := List.pairwise_cons.mp hm
    have e : a = b := by
      rcases List.mem_cons.mp ((h a).mp List.mem_cons_self) with q | q
      · exact q
      · rcases List.mem_cons.mp ((h b).mpr List.mem_cons_self) with r | r
        · exact r.symm
        · have := h1.1 b r
          have := h2.1 a q
          omega
    subst e
    rw [rch_one h1.2 h2.2 fun c => ?_]
    constructor
    · intro hc
      rcases List.mem_cons.mp ((h c).mp (List.mem_cons_of_mem _ hc)) with q | q
      · have := h1.1 c hc; omega
      · exact q
    · intro hc
      rcases List.mem_cons.mp ((h c).mpr (List.mem_cons_of_mem _ hc)) with q | q
      · have := h2.1 c hc; omega
      · exact q
theorem Rch.one {rs : List Rule} {t L M : List Nat} (h : Rch rs t L) (h2 : Rch rs t M) : L = M := rch_one h.up h2.up fun c => (h.mem c).trans (h2.mem c).symm
end G

/-! ## P_grow -/
set_option Elab.async false
set_option linter.all false
set_option maxRecDepth 100000
set_option maxHeartbeats 400000
namespace G
open PySem L2 Vi
/-! #### the program's way: letters that come, growing -/
abbrev lC (L : List Nat) : List D := L.map fun c => .str [c]
def reachBody : M Fl := (sSeq (sSet 4 (eCall 2 F_round_of (eCons (eJoin (eC (.str [])) (eVar 3)) (eCons (eVar 1) eNil))))
    (sSeq (sSet 3 (eUn sortSetA (eLc (itAny (eVar 4)) (gN 5) (eTest (eOp cNotIn (eVar 5) (eVar 2))) (eVar 5) [5])))
    (sSet 2 (eCB (f1 sortedD) (eCons (eOp aPlus (eVar 2) (eVar 3)) eNil)))))
def newM (rs : List Rule) (F N : List Nat) : List Nat := (roundL rs N).filter fun c => !decide (c ∈ F)
/-- at rest or its own -/
def Held (s : S) (d : D) : Prop := s = .fr d ∨ s = .own d
theorem reach_turn (rs : List Rule) (h : RulesOk rs) (F N : List Nat) (lF : F.length ≤ 26) (lo : Low N) (lN : N.length ≤ 26) (s0 s2 s3 x4 : S) (h2 : Held s2 (.lst (lC F))) (h3 : Held s3 (.lst (lC N))) :
    ∃ y4, reachBody [s0, .bor (.lst (rs.map ruD)), s2, s3, x4, .un] = .ok .nx [s0, .bor (.lst (rs.map ruD)), .own (.lst (lC (sortN (F ++ sortN (dedup (newM rs F N)))))), .own (.lst (lC (sortN (dedup (newM rs F N))))), y4, .un] := by
  have rl := round_len h N
  have rlo := round_low h lo
  have nlo : Low (newM rs F N) := fun c hc => rlo c (List.mem_filter.mp hc).1
  have nln : (newM rs F N).length ≤ (roundL rs N).length := List.length_filter_le _ _
  have j := join_one (t := N) (by omega)
  have r := round_of N rs h (by omega)
  have l2 : (sortN (dedup (newM rs F N))).length ≤ 26 := by rw [(sortN_perm _).length_eq]; exact nd_len26 (dedup_nd _) (low_dedup nlo)
  have s1 := sset_l nlo (by omega)
  have a := aPlus_l (xs := lC F) (ys := lC (sortN (dedup (newM rs F N)))) (by rw [List.length_map, List.length_map]; omega)
  rw [← List.map_append] at a
  have q2 := sorted_l (t := F ++ sortN (dedup (newM rs F N))) (by rw [List.length_append]; omega)
  have k : ∀ (s2 s3 : S), Held s2 (.lst (lC F)) → eLc (itAny (eVar 4)) (gN 5) (eTest (eOp cNotIn (eVar 5) (eVar 2))) (eVar 5) [5] [s0, .bor (.lst (rs.map ruD)), s2, s3, .fr (.str (roundL rs N)), .un] = .ok (.new (.lst (lC (newM rs F N)))) [s0, .bor (.lst (rs.map ruD)), s2, s3, .fr (.str (roundL rs N)), .un] := by
    intro s2 s3 hh
    have k := eLc_one (it := itAny (eVar 4)) (v := 5) (cond := eTest (eOp cNotIn (eVar 5) (eVar 2))) (elt := eVar 5)
      (ρ := [s0, .bor (.lst (rs.map ruD)), s2, s3, .fr (.str (roundL rs N)), .un]) (xs := lC (roundL rs N)) (fun d => match d with | .str [c] => !decide (c ∈ F) | _ => false) (fun d => d)
      (by simp) (by simp) rfl (fun x hx => by
        obtain ⟨c, hc, e⟩ := List.mem_map.mp hx
        subst e
        have n := notIn_c c F
        refine ⟨?_, fun _ => by simp⟩
        generalize hg : lC F = A at *
        have n : cNotIn (.str [c]) (.lst A) = some (.val (.bl !decide (c ∈ F))) := by rw [← hg]; exact n
        rcases hh with e | e <;> subst e <;> simp [n]) (by rw [List.length_map]; exact sl_of (by omega))
    have e : ((lC (roundL rs N)).filter (fun d => match d with | .str [c] => !decide (c ∈ F) | _ => false)).map (fun d => d) = lC (newM rs F N) := by
      rw [List.map_id', List.filter_map]; rfl
    rw [e] at k
    exact k
  have k := k s2 s3 h2
  refine ⟨.fr (.str (roundL rs N)), ?_⟩
  unfold reachBody
  have s1 : sortSetA (.lst (lC (newM rs F N))) = some (.new (.lst (lC (sortN (dedup (newM rs F N)))))) := s1
  have q2 : sortedD (.lst (lC (F ++ sortN (dedup (newM rs F N))))) = _ := q2
  have a : aPlus (.lst (lC F)) (.lst (lC (sortN (dedup (newM rs F N))))) = some (.new (.lst (lC (F ++ sortN (dedup (newM rs F N)))))) := a
  have j : joinD [] (.lst (lC N)) = _ := j
  have e5 : ((sortN (F ++ sortN (dedup (newM rs F N)))).map fun c => D.str [c]) = lC (sortN (F ++ sortN (dedup (newM rs F N)))) := rfl
  rw [e5] at q2
  generalize lC (sortN (F ++ sortN (dedup (newM rs F N)))) = A5 at *
  generalize lC (F ++ sortN (dedup (newM rs F N))) = A4 at *
  generalize lC (sortN (dedup (newM rs F N))) = A3 at *
  generalize lC (newM rs F N) = A2 at *
  generalize lC F = A at *
  generalize lC N = A1 at *
  rcases h2 with e | e <;> rcases h3 with e3 | e3 <;> subst e <;> subst e3 <;> simp [j, r, k, s1, a, q2]
theorem reach_loop (rs : List Rule) (h : RulesOk rs) (s0 : S) (Rc : Nat → Prop) (hR : ∀ d, Rc d → ∀ c ∈ putR rs d, Rc c) : ∀ (n : Nat) (F N : List Nat) (s2 s3 x4 : S), (∀ c ∈ F, Rc c) → F.Pairwise (· < ·) → F.Nodup → Low F → Low N → (∀ c ∈ N, c ∈ F) → (∀ c ∈ F, c ∈ N ∨ ∀ d ∈ putR rs c, d ∈ F) → N.length ≤ 26 →
    28 ≤ n + F.length → Held s2 (.lst (lC F)) → Held s3 (.lst (lC N)) → ∃ (L : List Nat) (y2 y3 y4 : S), L.Pairwise (· < ·) ∧ (∀ c ∈ L, Rc c) ∧ Low L ∧ Closed rs L ∧ (∀ c ∈ F, c ∈ L) ∧ Held y2 (.lst (lC L)) ∧
    sWhile (eTest (eOp cNe (eVar 3) (eLst dNil))) reachBody n [s0, .bor (.lst (rs.map ruD)), s2, s3, x4, .un] = .ok .nx [s0, .bor (.lst (rs.map ruD)), y2, y3, y4, .un]
  | 0, F, N, s2, s3, x4, rc, up, nd, lo, loN, sub, cl, lN, hn, h2, h3 => absurd (nd_len26 nd lo) (by omega)
  | n + 1, F, N, s2, s3, x4, rc, up, nd, lo, loN, sub, cl, lN, hn, h2, h3 => by
    have ne := ne_letters loN
    have ne : cNe (.lst (lC N)) (.lst []) = some (.val (.bl !N.isEmpty)) := ne
    by_cases q : N = []
    · refine ⟨F, s2, s3, x4, up, rc, lo, fun c hc => ?_, fun c hc => hc, h2, ?_⟩
      · rcases cl c hc with z | z
        · rw [q] at z; cases z
        · exact z
      · subst q
        have ne : cNe (.lst []) (.lst []) = some (.val (.bl false)) := ne
        have h3 : Held s3 (.lst []) := h3
        rw [while_s]
        rcases h3 with e | e <;> subst e <;> simp [ne]
    · obtain ⟨z4, t⟩ := reach_turn rs h F N (nd_len26 nd lo) loN lN s0 s2 s3 x4 h2 h3
      have hne : N.isEmpty = false := by cases N with | nil => exact absurd rfl q | cons _ _ => rfl
      rw [hne] at ne
      have rlo := round_low h loN
      have nlo : Low (newM rs F N) := fun c hc => rlo c (List.mem_filter.mp hc).1
      have mem : ∀ c, c ∈ sortN (dedup (newM rs F N)) ↔ c ∈ newM rs F N := fun c => (sortN_perm _).mem_iff.trans (dedup_mem c _)
      have mem2 : ∀ c, c ∈ sortN (F ++ sortN (dedup (newM rs F N))) ↔ c ∈ F ∨ c ∈ newM rs F N := fun c => by
        rw [(sortN_perm _).mem_iff, List.mem_append, mem]
      have nd3 : (sortN (dedup (newM rs F N))).Nodup := (sortN_perm _).nodup_iff.mpr (dedup_nd _)
      have nd2 : (sortN (F ++ sortN (dedup (newM rs F N)))).Nodup := (sortN_perm _).nodup_iff.mpr (List.nodup_append.mpr ⟨nd, nd3, fun a ha b hb e => by
        have := (List.mem_filter.mp ((mem b).mp hb)).2
        subst e
        simp [ha] at this⟩)
      have lo2 : Low (sortN (F ++ sortN (dedup (newM rs F N)))) := fun c hc => ((mem2 c).mp hc).elim (lo c) (nlo c)
      have len2 : (sortN (F ++ sortN (dedup (newM rs F N)))).length = F.length + (sortN (dedup (newM rs F N))).length := by rw [(sortN_perm _).length_eq, List.length_append]
      have rc2 : ∀ c ∈ sortN (F ++ sortN (dedup (newM rs F N))), Rc c := fun c hc => by
        rcases (mem2 c).mp hc with q | q
        · exact rc c q
        · obtain ⟨d, hd, hc⟩ := List.mem_flatMap.mp (List.mem_filter.mp q).1
          exact hR d (rc d (sub d hd)) c hc
      have up2 : (sortN (F ++ sortN (dedup (newM rs F N)))).Pairwise (· < ·) := sortN_up ((sortN_perm _).nodup_iff.mp nd2)
      have l3 : (sortN (dedup (newM rs F N))).length ≤ 26 := by rw [(sortN_perm _).length_eq]; exact nd_len26 (dedup_nd _) (low_dedup nlo)
      have cl2 : ∀ c ∈ sortN (F ++ sortN (dedup (newM rs F N))), c ∈ sortN (dedup (newM rs F N)) ∨ ∀ d ∈ putR rs c, d ∈ sortN (F ++ sortN (dedup (newM rs F N))) := fun c hc => by
        rcases (mem2 c).mp hc with q | q
        · refine .inr fun d hd => (mem2 d).mpr ?_
          rcases cl c q with z | z
          · by_cases m : d ∈ F
            · exact .inl m
            · exact .inr (List.mem_filter.mpr ⟨List.mem_flatMap.mpr ⟨c, z, hd⟩, by simp [m]⟩)
          · exact .inl (z d hd)
        · exact .inl ((mem c).mpr q)
      have sub2 : ∀ c ∈ sortN (dedup (newM rs F N)), c ∈ sortN (F ++ sortN (dedup (newM rs F N))) := fun c hc => (mem2 c).mpr (.inr ((mem c).mp hc))
      have go : ∃ (L : List Nat) (y2 y3 y4 : S), L.Pairwise (· < ·) ∧ (∀ c ∈ L, Rc c) ∧ Low L ∧ Closed rs L ∧ (∀ c ∈ sortN (F ++ sortN (dedup (newM rs F N))), c ∈ L) ∧ Held y2 (.lst (lC L)) ∧
          sWhile (eTest (eOp cNe (eVar 3) (eLst dNil))) reachBody n [s0, .bor (.lst (rs.map ruD)), .own (.lst (lC (sortN (F ++ sortN (dedup (newM rs F N)))))), .own (.lst (lC (sortN (dedup (newM rs F N))))), z4, .un] = .ok .nx [s0, .bor (.lst (rs.map ruD)), y2, y3, y4, .un] := by
        by_cases z : sortN (dedup (newM rs F N)) = []
        · cases n with
          | zero => exact absurd (nd_len26 nd lo) (by omega)
          | succ n =>
            refine ⟨_, .own (.lst (lC (sortN (F ++ sortN (dedup (newM rs F N)))))), .own (.lst (lC (sortN (dedup (newM rs F N))))), z4, up2, rc2, lo2, fun c hc d hd => ?_, fun c hc => hc, .inr rfl, ?_⟩
            · rcases cl2 c hc with w | w
              · rw [z] at w; cases w
              · exact w d hd
            · rw [z, while_s]
              have ne0 : cNe (.lst []) (.lst []) = some (.val (.bl false)) := cNe_nil (xs := []) (fun x hx => (nomatch hx))
              have e0 : lC [] = [] := rfl
              rw [e0]
              generalize lC (sortN (F ++ [])) = A
              simp [ne0]
        · exact reach_loop rs h s0 Rc hR n _ _ _ _ z4 rc2 up2 nd2 lo2 (fun c hc => nlo c ((mem c).mp hc)) sub2 cl2 l3 (by
            have : 0 < (sortN (dedup (newM rs F N))).length := List.length_pos_iff.mpr z
            omega) (.inr rfl) (.inr rfl)
      obtain ⟨L, y2, y3, y4, i1, i2, i3, i4, i5, i6, i7⟩ := go
      refine ⟨L, y2, y3, y4, i1, i2, i3, i4, fun c hc => i5 c ((mem2 c).mpr (.inl hc)), i6, ?_⟩
      rw [while_s]
      generalize lC (sortN (F ++ sortN (dedup (newM rs F N)))) = A2 at *
      generalize lC (sortN (dedup (newM rs F N))) = A3 at *
      generalize lC N = A1 at *
      rcases h3 with e3 | e3 <;> subst e3 <;> simp [ne, t, i7]
theorem reached (t : List Nat) (rs : List Rule) (h : RulesOk rs) (ht : Low t) (hl : t.length ≤ 1000) : ∃ L s, Low L ∧ Rch rs t L ∧ Held s (.lst (lC L)) ∧ F_reached [.str t, .lst (rs.map ruD)] = .ret s := by
  have mem : ∀ c, c ∈ sortN (dedup t) ↔ c ∈ t := fun c => (sortN_perm _).mem_iff.trans (dedup_mem c _)
  have nd : (sortN (dedup t)).Nodup := (sortN_perm _).nodup_iff.mpr (dedup_nd _)
  have lo : Low (sortN (dedup t)) := fun c hc => ht c ((mem c).mp hc)
  obtain ⟨L, y2, y3, y4, i1, i2, i3, i4, i5, i6, i7⟩ := reach_loop rs h (.fr (.str t)) (fun c => ∃ m, c ∈ itR rs m t) come_step 100 (sortN (dedup t)) (sortN (dedup t)) (.fr (.lst (lC (sortN (dedup t))))) (.fr (.lst (lC (sortN (dedup t))))) .un
    (fun c hc => ⟨0, (mem c).mp hc⟩) (sortN_up (dedup_nd _)) nd lo lo (fun c hc => hc) (fun c hc => .inl hc) (nd_len26 nd lo) (by omega) (.inl rfl) (.inl rfl)
  refine ⟨L, y2, i3, ⟨i1, fun c => ⟨i2 c, fun ⟨m, hm⟩ => closed_it i4 m t (fun d hd => i5 d ((mem d).mpr hd)) c hm⟩⟩, i6, ?_⟩
  have s := sset_s ht hl
  have s : sortSetA (.str t) = some (.new (.lst (lC (sortN (dedup t))))) := s
  unfold F_reached B_reached
  show runF 6 (sSeq _ (sSeq _ (sSeq (sWhile _ reachBody 100) _))) _ = _
  generalize lC (sortN (dedup t)) = A at *
  rcases i6 with e | e <;> subst e <;> simp [runF_eq, startS, paramS, List.replicate, s, i7]
/-! how many last -/
theorem lasts (t : List Nat) (rs : List Rule) (h : RulesOk rs) (ht : t.length ≤ 300000) : F_lasts [.lst (rs.map ruD), .str t] = .ret (.fr (nD (la rs t).length)) := by
  have v := vanishing_by rs h
  have key := fun c => (van_ok h.keys h.len).key c 4 (Nat.le_refl _)
  have k := eLc_one (it := itAny (eVar 1)) (v := 3) (cond := eTest (eOp cNotIn (eVar 3) (eVar 2))) (elt := eVar 3)
    (ρ := [.bor (.lst (rs.map ruD)), .fr (.str t), .own (.dic (vK (vanL rs)) (vX (vanL rs))), .un]) (xs := lC t) (fun d => match d with | .str [c] => !Ev rs 4 c | _ => false) (fun d => d)
    (by simp) (by simp) rfl (fun x hx => by
      obtain ⟨c, hc, e⟩ := List.mem_map.mp hx
      subst e
      have n := cNotIn_v (vanL rs) c
      rw [key] at n
      refine ⟨?_, fun _ => by simp⟩
      generalize vK (vanL rs) = A at *
      simp [n]) (by rw [List.length_map]; exact sl_le (by omega))
  have e : ((lC t).filter (fun d => match d with | .str [c] => !Ev rs 4 c | _ => false)).map (fun d => d) = lC (la rs t) := by
    rw [List.map_id', List.filter_map]; rfl
  rw [e] at k
  have ll : (lC (la rs t)).length = (la rs t).length := List.length_map _
  generalize vK (vanL rs) = A at *
  generalize vX (vanL rs) = B at *
  generalize lC (la rs t) = C at *
  unfold F_lasts B_lasts
  simp [runF_eq, startS, paramS, List.replicate, v, k, ll]
theorem la_more {rs : List Rule} (h : Small rs) (c r : Nat) : ((itR rs r [c]).contains c && (decide ((la rs [c]).length = 1) && decide (1 < (la rs (itR rs r [c])).length))) = moreB rs r c := by
  unfold moreB
  cases q : (itR rs r [c]).contains c with
  | false => rfl
  | true =>
    rw [Bool.true_and, Bool.true_and]
    by_cases z : 1 < (la rs (itR rs r [c])).length
    · have : (la rs [c]).length = 1 := by
        cases r with
        | zero =>
          exfalso
          have : (la rs [c]).length ≤ [c].length := List.length_filter_le _ _
          have z : 1 < (la rs [c]).length := z
          have : [c].length = 1 := rfl
          omega
        | succ r =>
          have g := cyc_last h (Nat.succ_le_succ (Nat.zero_le r)) (List.contains_iff_mem.mp q)
          unfold la; rw [List.filter_cons_of_pos (by rw [g]; rfl)]; rfl
      rw [decide_eq_true this, Bool.true_and]
    · rw [decide_eq_false z, Bool.and_false]
theorem itR_len1 {rs : List Rule} (h : RulesOk rs) {m : Nat} (hm : m ≤ 8) (c : Nat) : (itR rs m [c]).length ≤ 6561 := by
  have q := itR_len h m [c]
  have p : 3 ^ m ≤ 3 ^ 8 := Nat.pow_le_pow_right (by decide) hm
  have e : (3 : Nat) ^ 8 = 6561 := by decide
  have q : (itR rs m [c]).length ≤ 3 ^ m * 1 := q
  omega
theorem makes_more (rs : List Rule) (h : RulesOk rs) (c r : Nat) (hr : r ≤ 4) : F_makes_more [.str [c], .lst (rs.map ruD), nD r] = .ret (.fr (.bl (moreB rs r c))) := by
  have rg := rg1 (n := r) (by omega)
  obtain ⟨ρ', k1, y4, k2⟩ := loop_ints (n := r) (tg := gN 4) (body := sSet 3 (eCall 2 F_round_of (eCons (eVar 3) (eCons (eVar 1) eNil)))) (fun i ρ => ∃ y4, ρ = [.fr (.str [c]), .bor (.lst (rs.map ruD)), .fr (nD r), .fr (.str (itR rs i [c])), y4])
    (fun i ρ hi ⟨y4, e⟩ => by
      subst e
      have l := itR_len1 h (m := i) (by omega) c
      have q := round_of (itR rs i [c]) rs h (by omega)
      refine ⟨[.fr (.str [c]), .bor (.lst (rs.map ruD)), .fr (nD r), .fr (.str (itR rs (i + 1) [c])), .fr (nD i)], ?_, _, rfl⟩
      rw [itR_succ]
      simp [q]) [.fr (.str [c]), .bor (.lst (rs.map ruD)), .fr (nD r), .fr (.str [c]), .un] ⟨_, rfl⟩
  subst k2
  have l1 := lasts [c] rs h (by show 1 ≤ 300000; omega)
  have l2 := lasts (itR rs r [c]) rs h (by have := itR_len1 h (m := r) (by omega) c; omega)
  have i := cIn_ch c (itR rs r [c])
  have lm := la_more h.small c r
  rw [← lm]
  have ec : (itR rs r [c]).contains c = decide (c ∈ itR rs r [c]) := by
    cases q : (itR rs r [c]).contains c with
    | true => rw [decide_eq_true (List.contains_iff_mem.mp q)]
    | false => rw [decide_eq_false (fun z => by rw [List.contains_iff_mem.mpr z] at q; cases q)]
  rw [ec]
  generalize hm : decide (c ∈ itR rs r [c]) = b1 at *
  generalize (la rs (itR rs r [c])).length = n2 at *
  generalize (la rs [c]).length = n1 at *
  generalize intsFrom 0 1 r = is at *
  unfold F_makes_more B_makes_more
  simp only [nD] at *
  have e1 : ((n1 : Int) == 1) = decide (n1 = 1) := by
    by_cases q : n1 = 1
    · subst q; rfl
    · rw [decide_eq_false q, beq_eq_false_iff_ne.mpr (by omega)]
  have e2 : decide ((1 : Int) < n2) = decide (1 < n2) := by
    by_cases q : 1 < n2
    · rw [decide_eq_true q, decide_eq_true (by omega)]
    · rw [decide_eq_false q, decide_eq_false (by omega)]
  cases b1 with
  | false => simp [runF_eq, startS, paramS, List.replicate, sFor_r, rg, k1, i, truD]
  | true =>
    by_cases q : n1 = 1
    · subst q
      simp [runF_eq, startS, paramS, List.replicate, sFor_r, rg, k1, i, l1, l2, truD, e2]
    · have q2 : ¬ (n1 : Int) = 1 := by omega
      simp [runF_eq, startS, paramS, List.replicate, sFor_r, rg, k1, i, l1, l2, truD, q, q2]
end G

/-! ## P_gro2 -/
set_option Elab.async false
set_option linter.all false
set_option maxRecDepth 100000
set_option maxHeartbeats 400000
namespace G
open PySem L2 Vi
/-! #### growing -/
def tryL (rs : List Rule) (c : Nat) : List Nat → Option Nat
  | [] => none
  | r :: l => if moreB rs r c = true then some r else tryL rs c l
def tryR (rs : List Rule) (c : Nat) : Option Nat := tryL rs c [1, 2, 3, 4]
def firstG (rs : List Rule) : List Nat → Option (Nat × Nat)
  | [] => none
  | c :: L => match tryR rs c with
    | some r => some (c, r)
    | none => firstG rs L
def grD : Option (Nat × Nat) → D
  | none => .non
  | some (c, r) => .tup [.str [c], nD r]
def keyL (rs : List Rule) : List Nat := rs.map (·.1)
theorem more_key {rs : List Rule} {r c : Nat} (h : moreB rs r c = true) : c ∈ keyL rs := Classical.byContradiction fun q => by
  have f := fix_it (rs := rs) (c := c) (fun x hx e => q (List.mem_map.mpr ⟨x, hx, e⟩)) r
  unfold moreB at h
  rw [f, Bool.and_eq_true] at h
  have := of_decide_eq_true h.2
  have l : (la rs [c]).length ≤ [c].length := List.length_filter_le _ _
  have : [c].length = 1 := rfl
  omega
def grBody : M Fl := (sIf (eAnd (eTest (eOp cIn (eVar 2) (eLc (itAny (eVar 1)) (gN 4) tYesM (eOp aIx (eVar 4) (eC (.int 0))) [4]))) (eTest (eCall 3 F_makes_more (eCons (eVar 2) (eCons (eVar 1) (eCons (eVar 3) eNil))))))
        (sRet (eTup (dCons (eVar 2) (dCons (eVar 3) dNil))))
        sNx)
theorem in_cc (a : Nat) (s : List Nat) : cIn (.str [a]) (.lst (lC s)) = some (.val (.bl (decide (a ∈ s)))) := by
  unfold cIn
  show (if flatD (.str [a]) = true ∧ (lC s).all flatD = true then some (inD (.str [a]) (lC s)) else none).map _ = _
  rw [if_pos ⟨rfl, flat_c s⟩, in_c]; rfl
theorem gr_inner (rs : List Rule) (h : RulesOk rs) (c : Nat) (s0 : S) : ∀ (l : List Nat) (x3 : S), (∀ r ∈ l, r ≤ 4) → ∃ y3, loopS (gN 3) grBody (l.map nD) [s0, .bor (.lst (rs.map ruD)), .fr (.str [c]), x3, .un] =
    .ok (match tryL rs c l with | some r => .rt (.fr (.tup [.str [c], nD r])) | none => .nx) [s0, .bor (.lst (rs.map ruD)), .fr (.str [c]), y3, .un]
  | [], x3, _ => ⟨x3, rfl⟩
  | r :: l, x3, hr => by
    have k := eLc_one (it := itAny (eVar 1)) (v := 4) (cond := tYesM) (elt := eOp aIx (eVar 4) (eC (.int 0))) (ρ := [s0, .bor (.lst (rs.map ruD)), .fr (.str [c]), .fr (nD r), .un]) (xs := rs.map ruD) (fun _ => true) (fun d => match d with | .tup [.str [a], _] => .str [a] | _ => .non)
      (by simp) (by simp) rfl (fun x hx => by
        obtain ⟨q, hq, e⟩ := List.mem_map.mp hx
        subst e
        refine ⟨by simp, fun _ => by simp [aIx, ixD, atI, ixN]⟩) (by rw [List.length_map]; exact sl_of (by have := h.len; omega))
    have e2 : ((rs.map ruD).filter fun _ => true).map (fun d => match d with | .tup [.str [a], _] => D.str [a] | _ => .non) = lC (keyL rs) := by
      rw [List.filter_eq_self.mpr (fun _ _ => rfl), List.map_map]
      show _ = (rs.map (·.1)).map _
      rw [List.map_map]; rfl
    rw [e2] at k
    have i := in_cc c (keyL rs)
    have mm := makes_more rs h c r (hr r List.mem_cons_self)
    obtain ⟨y3, ih⟩ := gr_inner rs h c s0 l (.fr (nD r)) fun q hq => hr q (List.mem_cons_of_mem _ hq)
    rw [List.map_cons, loop_cons]
    unfold tryL
    generalize hK : lC (keyL rs) = A at *
    cases q : moreB rs r c with
    | true =>
      rw [decide_eq_true (more_key q)] at i
      refine ⟨.fr (nD r), ?_⟩
      rw [if_pos rfl]
      rw [q] at mm
      generalize loopS (gN 3) grBody (l.map nD) = G0
      unfold grBody
      simp only [nD] at *
      simp [k, i, mm]
    | false =>
      refine ⟨y3, ?_⟩
      rw [if_neg Bool.false_ne_true]
      rw [q] at mm
      generalize loopS (gN 3) grBody (l.map nD) = G0 at *
      unfold grBody
      generalize decide (c ∈ keyL rs) = b at *
      simp only [nD] at *
      cases b <;> simp [k, i, mm, ih]
theorem gr_loop (rs : List Rule) (h : RulesOk rs) (s0 : S) : ∀ (L : List Nat) (x2 x3 : S), ∃ y2 y3, loopS (gN 2) (sFor (itRngN 2 (eCons (eC (.int 1)) (eCons (eOp aPlus (eC (.int (4))) (eC (.int 1))) eNil))) (gN 3) grBody) (lC L) [s0, .bor (.lst (rs.map ruD)), x2, x3, .un] =
    .ok (match firstG rs L with | some p => .rt (.fr (grD (some p))) | none => .nx) [s0, .bor (.lst (rs.map ruD)), y2, y3, .un]
  | [], x2, x3 => ⟨x2, x3, rfl⟩
  | c :: L, x2, x3 => by
    obtain ⟨y3, k⟩ := gr_inner rs h c s0 [1, 2, 3, 4] x3 (by decide)
    obtain ⟨z2, z3, ih⟩ := gr_loop rs h s0 L (.fr (.str [c])) y3
    have rg := rg2 (a := 1) (b := 5) (by decide) (by decide)
    have rg : rgD [.int 1, .int 5] = some (([1, 2, 3, 4] : List Nat).map nD) := rg
    rw [show lC (c :: L) = .str [c] :: lC L from rfl, loop_cons]
    unfold firstG tryR
    cases q : tryL rs c [1, 2, 3, 4] with
    | some r =>
      rw [q] at k
      refine ⟨.fr (.str [c]), y3, ?_⟩
      generalize ([1, 2, 3, 4] : List Nat).map nD = is at *
      generalize loopS (gN 2) (sFor (itRngN 2 (eCons (eC (.int 1)) (eCons (eOp aPlus (eC (.int (4))) (eC (.int 1))) eNil))) (gN 3) grBody) (lC L) = G0 at *
      simp [sFor_r, rg, k, grD]
    | none =>
      rw [q] at k
      refine ⟨z2, z3, ?_⟩
      generalize ([1, 2, 3, 4] : List Nat).map nD = is at *
      generalize loopS (gN 2) (sFor (itRngN 2 (eCons (eC (.int 1)) (eCons (eOp aPlus (eC (.int (4))) (eC (.int 1))) eNil))) (gN 3) grBody) (lC L) = G0 at *
      simp [sFor_r, rg, k, ih]
theorem growing (t : List Nat) (rs : List Rule) (h : RulesOk rs) (ht : Low t) (hl : t.length ≤ 1000) : ∃ L, Low L ∧ Rch rs t L ∧ F_growing [.str t, .lst (rs.map ruD)] = .ret (.fr (grD (firstG rs L))) := by
  obtain ⟨L, s, l1, l2, l3, l4⟩ := reached t rs h ht hl
  obtain ⟨y2, y3, k⟩ := gr_loop rs h (.fr (.str t)) L .un .un
  refine ⟨L, l1, l2, ?_⟩
  unfold F_growing B_growing
  show runF 5 (sSeq (sFor _ _ (sFor _ _ grBody)) _) _ = _
  generalize lC L = A at *
  cases q : firstG rs L with
  | none =>
    rw [q] at k
    rcases l3 with e | e <;> subst e <;> simp [runF_eq, startS, paramS, List.replicate, sFor_r, l4, k, grD]
  | some p =>
    rw [q] at k
    rcases l3 with e | e <;> subst e <;> simp [runF_eq, startS, paramS, List.replicate, sFor_r, l4, k]
/-! #### round again -/
def ixT (x : List Nat) : List (List Nat) → Option Nat
  | [] => none
  | y :: r => if y = x then some 0 else (ixT x r).map (· + 1)
def ag (rs : List Rule) : Nat → List (List Nat) → List Nat → Option (Nat × Nat)
  | 0, _, _ => none
  | n + 1, met, cur => match ixT (roundL rs cur) met with
    | some i => some (i, met.length - i)
    | none => ag rs n (met ++ [roundL rs cur]) (roundL rs cur)
theorem fi_t (x : List Nat) : ∀ met : List (List Nat), fiD (.str x) (met.map .str) = ixT x met
  | [] => rfl
  | y :: r => by
    have ih := fi_t x r
    show (if (y == x) = true then some 0 else (fiD (.str x) (r.map .str)).map (· + 1)) = if y = x then some 0 else (ixT x r).map (· + 1)
    rw [ih]
    by_cases q : y = x
    · rw [if_pos q, if_pos (by rw [q]; exact beq_self_eq_true _)]
    · rw [if_neg q, if_neg (by rw [beq_eq_false_iff_ne.mpr q]; exact Bool.false_ne_true)]
theorem in_t (x : List Nat) : ∀ met : List (List Nat), inD (.str x) (met.map .str) = (ixT x met).isSome
  | [] => rfl
  | y :: r => by
    have ih := in_t x r
    unfold inD at *
    rw [List.map_cons, List.any_cons, ih]
    show ((y == x) || (ixT x r).isSome) = (if y = x then some 0 else (ixT x r).map (· + 1)).isSome
    by_cases q : y = x
    · rw [if_pos q, q, beq_self_eq_true]; rfl
    · rw [if_neg q, beq_eq_false_iff_ne.mpr q, Bool.false_or]
      cases ixT x r <;> rfl
theorem flat_t (met : List (List Nat)) : (met.map D.str).all flatD = true := by
  rw [List.all_eq_true]
  intro d hd
  obtain ⟨x, _, e⟩ := List.mem_map.mp hd
  subst e; rfl
theorem in_tx (x : List Nat) (met : List (List Nat)) : cIn (.str x) (.lst (met.map .str)) = some (.val (.bl (ixT x met).isSome)) := by
  unfold cIn
  have : inG (.str x) (.lst (met.map .str)) = some (inD (.str x) (met.map .str)) := by
    have g : inG (.str x) (.lst (met.map .str)) = if flatD (.str x) = true ∧ (met.map D.str).all flatD = true then some (inD (.str x) (met.map .str)) else none := by
      cases x with
      | nil => rfl
      | cons a l => cases l <;> rfl
    rw [g, if_pos ⟨rfl, flat_t met⟩]
  rw [this, in_t]; rfl
theorem idx_t (x : List Nat) (met : List (List Nat)) : idxD (.lst (met.map .str)) (.str x) = (ixT x met).map fun j => .val (nD j) := by
  have e : idxD (.lst (met.map .str)) (.str x) = if flatD (.str x) = true ∧ (met.map D.str).all flatD = true then (fiD (.str x) (met.map .str)).map (fun j : Nat => Hd.val (nD j)) else none := rfl
  rw [e]
  rw [if_pos ⟨rfl, flat_t met⟩, fi_t]
theorem ixT_lt {x : List Nat} : ∀ {met : List (List Nat)} {i : Nat}, ixT x met = some i → i < met.length ∧ met[i]? = some x
  | [], i, h => by cases h
  | y :: r, i, h => by
    unfold ixT at h
    by_cases q : y = x
    · rw [if_pos q] at h
      have h : 0 = i := Option.some.inj h
      subst h
      exact ⟨by rw [List.length_cons]; omega, by rw [q]; rfl⟩
    · rw [if_neg q] at h
      cases e : ixT x r with
      | none => rw [e] at h; cases h
      | some j =>
        rw [e] at h
        have h : j + 1 = i := Option.some.inj h
        subst h
        obtain ⟨h1, h2⟩ := ixT_lt e
        exact ⟨by rw [List.length_cons]; omega, by simpa using h2⟩
theorem ixT_has {x : List Nat} : ∀ {met : List (List Nat)}, x ∈ met → ixT x met ≠ none
  | [], h => (nomatch h)
  | y :: r, h => by
    unfold ixT
    by_cases q : y = x
    · rw [if_pos q]; exact fun z => (nomatch z)
    · rw [if_neg q]
      have := ixT_has (x := x) ((List.mem_cons.mp h).resolve_left fun z => q z.symm)
      cases e : ixT x r with
      | none => exact absurd e this
      | some j => exact fun z => (nomatch z)
/-- if the twentieth is the eighth it ends -/
theorem ag_some {rs : List Rule} {t : List Nat} (per : itR rs 20 t = itR rs 8 t) : ∀ (n k : Nat), k ≤ 19 → 20 ≤ n + k → ag rs n ((List.range (k + 1)).map fun i => itR rs i t) (itR rs k t) ≠ none
  | 0, k, h1, h2 => by omega
  | n + 1, k, h1, h2 => by
    unfold ag
    rw [← itR_succ]
    cases e : ixT (itR rs (k + 1) t) ((List.range (k + 1)).map fun i => itR rs i t) with
    | some i => exact fun z => (nomatch z)
    | none =>
      by_cases q : k = 19
      · subst q
        exfalso
        refine ixT_has (x := itR rs 20 t) ?_ e
        rw [per]
        exact List.mem_map.mpr ⟨8, List.mem_range.mpr (by decide), rfl⟩
      · have ih := ag_some per n (k + 1) (by omega) (by omega)
        have e2 : (List.range (k + 1 + 1)).map (fun i => itR rs i t) = (List.range (k + 1)).map (fun i => itR rs i t) ++ [itR rs (k + 1) t] := by rw [List.range_succ (n := k + 1), List.map_append]; rfl
        rw [e2] at ih
        exact ih
def againBody : M Fl := (sSeq (sSet 0 (eCall 2 F_round_of (eCons (eVar 0) (eCons (eVar 1) eNil))))
    (sSeq (sIf (eTest (eOp cIn (eVar 0) (eVar 2)))
      (sRet (eTup (dCons (eIdxL (eVar 2) (eVar 0)) (dCons (eOp aSub (eCB (f1 lenD) (eCons (eVar 2) eNil)) (eIdxL (eVar 2) (eVar 0))) dNil))))
      sNx)
    (sExpr (eAppend 2 (eVar 0)))))
@[simp] theorem lstGo_l (xs : List D) (m : List S → R Hd) (ρ : List S) : lstGo (.lst xs) m ρ = m ρ := (rfl)
@[simp] theorem eIdxL_r (fo fe : M Hd) (ρ : List S) : eIdxL fo fe ρ = thnK (fun h ρ => thnK (fun d0 ρ => lstGo d0 (fun ρ => thnK (fun hx ρ => thnK (fun d ρ => thnK (fun e ρ => M.lift (idxD d e) ρ) ((rd hx ρ)) ⟨⟩) ((rd h ρ)) ⟨⟩) ((fe ρ)) ⟨⟩) ρ) ((rd h ρ)) ⟨⟩) ((fo ρ)) ⟨⟩ := (rfl)
abbrev pairD (p : Nat × Nat) : D := .tup [nD p.1, nD p.2]
theorem ag_loop (rs : List Rule) (h : RulesOk rs) : ∀ (n : Nat) (met : List (List Nat)) (cur : List Nat) (p : Nat × Nat), (∀ m, (itR rs m cur).length ≤ 300000) → met.length + n ≤ 900 → ag rs n met cur = some p → ∃ ρ', sWhile (eTest (eC (.bl true))) againBody n [.fr (.str cur), .bor (.lst (rs.map ruD)), .own (.lst (met.map .str))] = .ok (.rt (.fr (pairD p))) ρ'
  | 0, met, cur, p, hl, hm, e => by cases e
  | n + 1, met, cur, p, hl, hm, e => by
    unfold ag at e
    have r := round_of cur rs h (hl 0)
    have i := in_tx (roundL rs cur) met
    have j := idx_t (roundL rs cur) met
    have ml : (met.map D.str).length = met.length := List.length_map _
    cases q : ixT (roundL rs cur) met with
    | some k =>
      rw [q] at e i j
      have e : (k, met.length - k) = p := Option.some.inj e
      subst e
      have kl := (ixT_lt q).1
      have e2 : ((met.length - k : Nat) : Int) = (met.length : Int) - (k : Int) := by omega
      refine ⟨[.fr (.str (roundL rs cur)), .bor (.lst (rs.map ruD)), .own (.lst (met.map .str))], ?_⟩
      rw [while_s]
      generalize met.map D.str = A at *
      unfold againBody
      simp only [Option.isSome_some, Option.map_some, nD] at i j
      simp [r, i, j, ml, e2]
    | none =>
      rw [q] at e i
      obtain ⟨ρ', k⟩ := ag_loop rs h n (met ++ [roundL rs cur]) (roundL rs cur) p (fun m => hl (m + 1)) (by rw [List.length_append]; show met.length + 1 + n ≤ 900; omega) e
      have sl : (met.map D.str).length < SLine := by rw [ml]; exact sl_lt (by omega)
      refine ⟨ρ', ?_⟩
      rw [while_s]
      have ea : (met ++ [roundL rs cur]).map D.str = met.map D.str ++ [.str (roundL rs cur)] := by rw [List.map_append]; rfl
      rw [ea] at k
      generalize met.map D.str = A at *
      generalize sWhile (eTest (eC (.bl true))) againBody n = G0 at *
      unfold againBody
      simp only [Option.isSome_none] at i
      simp [r, i, sl, k]
theorem round_again (t : List Nat) (rs : List Rule) (h : RulesOk rs) (hl : ∀ m, (itR rs m t).length ≤ 300000) (per : itR rs 20 t = itR rs 8 t) : ∃ p, ag rs 100 [t] t = some p ∧ F_round_again [.str t, .lst (rs.map ruD)] = .ret (.fr (pairD p)) := by
  have ne := ag_some per 100 0 (by decide) (by decide)
  have e0 : (List.range (0 + 1)).map (fun i => itR rs i t) = [t] := rfl
  rw [e0] at ne
  have ne : ag rs 100 [t] t ≠ none := ne
  cases q : ag rs 100 [t] t with
  | none => exact absurd q ne
  | some p =>
    refine ⟨p, rfl, ?_⟩
    obtain ⟨ρ', k⟩ := ag_loop rs h 100 [t] t p hl (by show 1 + 100 ≤ 900; omega) q
    unfold F_round_again B_round_again
    show runF 3 (sSeq _ (sWhile _ againBody 100)) _ = _
    simp only [List.map_cons, List.map_nil] at k
    simp [runF_eq, startS, paramS, List.replicate, k]
end G

/-! ## P_calm -/
set_option Elab.async false
set_option linter.all false
set_option maxRecDepth 100000
set_option maxHeartbeats 400000
namespace G
open PySem L2 Vi
/-! #### texts that do not grow -/
def growB (rs : List Rule) (L : List Nat) : Bool := (firstG rs L).isSome
theorem tryL_none {rs : List Rule} {c : Nat} : ∀ {l : List Nat}, tryL rs c l = none → ∀ r ∈ l, moreB rs r c = false
  | [], _, r, hr => (nomatch hr)
  | x :: l, h, r, hr => by
    unfold tryL at h
    cases q : moreB rs x c with
    | true => rw [q, if_pos rfl] at h; cases h
    | false =>
      rw [q, if_neg Bool.false_ne_true] at h
      rcases List.mem_cons.mp hr with e | e
      · rw [e]; exact q
      · exact tryL_none h r e
theorem firstG_none {rs : List Rule} : ∀ {L : List Nat}, growB rs L = false → ∀ c ∈ L, ∀ r, 1 ≤ r → r ≤ 4 → moreB rs r c = false
  | [], _, c, hc, r, _, _ => (nomatch hc)
  | x :: L, h, c, hc, r, h1, h4 => by
    unfold growB firstG at h
    cases q : tryR rs x with
    | some z => rw [q] at h; cases h
    | none =>
      rw [q] at h
      rcases List.mem_cons.mp hc with e | e
      · subst e
        exact tryL_none q r (by simp only [List.mem_cons, List.not_mem_nil, or_false]; omega)
      · exact firstG_none (L := L) h c e r h1 h4
theorem calm_of {rs : List Rule} {t L : List Nat} (l : Rch rs t L) (g : growB rs L = false) : ∀ c ∈ t, NG rs c := fun c hc m d hd r h1 h4 => by
  have : d ∈ itR rs (0 + m) t := mem_it (a := 0) (d := c) hc hd
  exact firstG_none g d ((l.mem d).mpr ⟨_, this⟩) r h1 h4
theorem calm_all {rs : List Rule} {t L : List Nat} (h : RulesOk rs) (hl : t.length ≤ 30) (l : Rch rs t L) (g : growB rs L = false) : (∀ m, (itR rs m t).length ≤ 300000) ∧ itR rs 20 t = itR rs 8 t := by
  have ng := calm_of l g
  refine ⟨fun m => ?_, calm_per h.small ng⟩
  have := calm_len h.small m t ng
  omega
end G

/-! ## P_shows08 -/
set_option Elab.async false
set_option linter.all false
set_option maxRecDepth 100000
set_option maxHeartbeats 400000
namespace G
open PySem L2 Vi
/-! #### answers -/
abbrev rndD (a b : D) : D := .obj 7 ["first", "many"] [a, b]
abbrev grwD (a b : D) : D := .obj 8 ["letter", "rounds"] [a, b]
theorem look_0 (f g : Str) (a b : D) : lookN f [f, g] [a, b] = some a := by
  show (if f = f then some a else _) = _
  rw [if_pos rfl]
theorem look_1 {f g : Str} (h : ¬ g = f) (a b : D) : lookN g [f, g] [a, b] = some b := by
  show (if g = f then some a else if g = g then some b else _) = _
  rw [if_neg h, if_pos rfl]
theorem look_no {m f g : Str} (h : ¬ m = f) (h2 : ¬ m = g) (a b : D) : lookN m [f, g] [a, b] = none := by
  show (if m = f then some a else if m = g then some b else none) = _
  rw [if_neg h, if_neg h2]
@[simp] theorem fld_first (a b : D) : fldD [7] "first" (rndD a b) = some (.val a) := by
  show (if ([7] : List Nat).contains 7 = true then (lookN "first" ["first", "many"] [a, b]).map Hd.val else none) = _
  rw [if_pos (by decide), look_0]; rfl
@[simp] theorem fld_many (a b : D) : fldD [7] "many" (rndD a b) = some (.val b) := by
  show (if ([7] : List Nat).contains 7 = true then (lookN "many" ["first", "many"] [a, b]).map Hd.val else none) = _
  rw [if_pos (by decide), look_1 (by decide +kernel)]; rfl
@[simp] theorem fld_letter (a b : D) : fldD [8] "letter" (grwD a b) = some (.val a) := by
  show (if ([8] : List Nat).contains 8 = true then (lookN "letter" ["letter", "rounds"] [a, b]).map Hd.val else none) = _
  rw [if_pos (by decide), look_0]; rfl
@[simp] theorem fld_rounds (a b : D) : fldD [8] "rounds" (grwD a b) = some (.val b) := by
  show (if ([8] : List Nat).contains 8 = true then (lookN "rounds" ["letter", "rounds"] [a, b]).map Hd.val else none) = _
  rw [if_pos (by decide), look_1 (by decide +kernel)]; rfl
def mthK (m : Str) (ar : Nat) (φ : Nat → Option (List D → Out)) (d : D) (fa : M (List Hd)) : M Hd := match d with
  | .obj k ns xs => match φ k, lookN m ns xs with
    | some F, none => fa >>= fun hs => rds hs >>= fun ds => mthM ar F (.obj k ns xs) ds
    | _, _ => M.bad
  | _ => M.bad
@[simp] theorem eMth_r (m : Str) (ar : Nat) (φ : Nat → Option (List D → Out)) (fo : M Hd) (fa : M (List Hd)) (ρ : List S) : eMth m ar φ fo fa ρ = thnK (fun h ρ => thnK (fun d ρ => mthK m ar φ d fa ρ) ((rd h ρ)) ⟨⟩) ((fo ρ)) ⟨⟩ := by
  unfold eMth
  rw [bind_thn]
  refine thn_fun fun h ρ => ?_
  rw [bind_thn]
  refine thn_fun fun d ρ => ?_
  cases d <;> rfl
@[simp] theorem outHdN_fr (d : D) (ρ : List S) : outHdN (.ret (.fr d)) ρ = .ok (.val d) ρ := (rfl)
theorem mth_round (F1 F2 : List D → Out) (a b : D) (fa : M (List Hd)) (ρ : List S) : mthK "shows" 2 (fun k => if k = 7 then some F1 else if k = 8 then some F2 else none) (rndD a b) fa ρ = thnK (fun hs ρ => thnK (fun ds ρ => if ds.length = 2 then outHdN (F1 (rndD a b :: ds)) ρ else .bad) ((rds hs ρ)) ⟨⟩) ((fa ρ)) ⟨⟩ := by
  unfold mthK
  simp only [if_true, look_no (m := "shows") (f := "first") (g := "many") (by decide +kernel) (by decide +kernel)]
  rfl
theorem mth_grows (F1 F2 : List D → Out) (a b : D) (fa : M (List Hd)) (ρ : List S) : mthK "shows" 2 (fun k => if k = 7 then some F1 else if k = 8 then some F2 else none) (grwD a b) fa ρ = thnK (fun hs ρ => thnK (fun ds ρ => if ds.length = 2 then outHdN (F2 (grwD a b :: ds)) ρ else .bad) ((rds hs ρ)) ⟨⟩) ((fa ρ)) ⟨⟩ := by
  unfold mthK
  simp only [show ¬ (8 : Nat) = 7 by decide, if_false, if_true, look_no (m := "shows") (f := "letter") (g := "rounds") (by decide +kernel) (by decide +kernel)]
  rfl
@[simp] theorem eMk_two (k : Nat) (f g : Str) (fd : M (List D)) (ρ : List S) : eMk k [f, g] fd ρ = thnK (fun xs ρ => if xs.length = 2 then .ok (.val (.obj k [f, g] xs)) ρ else .bad) ((fd ρ)) ⟨⟩ := by
  unfold eMk
  rw [bind_thn]
  refine thn_fun fun xs ρ => ?_
  by_cases h : xs.length = 2
  · rw [if_pos h]
    show (if xs.length = 2 then pure (Hd.val (.obj k [f, g] xs)) else M.bad : M Hd) ρ = _
    rw [if_pos h]; rfl
  · rw [if_neg h]
    show (if xs.length = 2 then pure (Hd.val (.obj k [f, g] xs)) else M.bad : M Hd) ρ = _
    rw [if_neg h]; rfl
theorem eq_pair (a b c d : Int) : cEq (.tup [.int a, .int b]) (.tup [.int c, .int d]) = some (.val (.bl (a == c && b == d))) := by
  have e : eqG (.tup [.int a, .int b]) (.tup [.int c, .int d]) = some (a == c && b == d) := by
    show (if okD (.tup [.int a, .int b]) = true ∧ okD (.tup [.int c, .int d]) = true ∧ depD (.tup [.int a, .int b]) ≤ 60 ∧ depD (.tup [.int c, .int d]) ≤ 60 then some (eqD (.tup [.int a, .int b]) (.tup [.int c, .int d])) else none) = _
    rw [if_pos ⟨rfl, rfl, by show max 0 (max 0 0) + 1 ≤ 60; omega, by show max 0 (max 0 0) + 1 ≤ 60; omega⟩]
    unfold eqD
    simp only [toPy, toPys, PyData.eqv, PyData.eqvAll, Bool.and_true]
  unfold cEq
  rw [e]; rfl
theorem int_beq (a b : Int) : (a == b) = (b == a) := by
  by_cases h : a = b
  · rw [h]
  · rw [beq_eq_false_iff_ne.mpr h, beq_eq_false_iff_ne.mpr (fun q => h q.symm)]
theorem round_no (t : List Nat) (rs : List Rule) (L : List Nat) (h : RulesOk rs) (ht : Low t) (hl : t.length ≤ 30) (l : Rch rs t L) (g : growB rs L = true) (a b : Int) : F_Round_shows [rndD (.int a) (.int b), .str t, .lst (rs.map ruD)] = .ret (.fr (.bl false)) := by
  obtain ⟨M, m1, m2, m3⟩ := growing t rs h ht (by omega)
  rw [m2.one l] at m3
  unfold growB at g
  cases q : firstG rs L with
  | none => rw [q] at g; cases g
  | some p =>
    rw [q] at m3
    unfold F_Round_shows B_Round_shows
    simp [runF_eq, startS, paramS, List.replicate, m3, grD, cIsN, okB, truD]
theorem round_yes (t : List Nat) (rs : List Rule) (L : List Nat) (h : RulesOk rs) (ht : Low t) (hl : t.length ≤ 30) (l : Rch rs t L) (g : growB rs L = false) {p : Nat × Nat} (hp : ag rs 100 [t] t = some p) (a b : Int) : F_Round_shows [rndD (.int a) (.int b), .str t, .lst (rs.map ruD)] = .ret (.fr (.bl ((p.1 : Int) == a && (p.2 : Int) == b))) := by
  obtain ⟨M, m1, m2, m3⟩ := growing t rs h ht (by omega)
  rw [m2.one l] at m3
  obtain ⟨c1, c2⟩ := calm_all h hl l g
  obtain ⟨p', r1, r2⟩ := round_again t rs h c1 c2
  rw [hp] at r1
  have e : p = p' := Option.some.inj r1
  subst e
  have q : firstG rs L = none := by
    unfold growB at g
    cases q : firstG rs L with
    | none => rfl
    | some p => rw [q] at g; cases g
  rw [q] at m3
  have e := eq_pair p.1 p.2 a b
  unfold F_Round_shows B_Round_shows
  have r2 : F_round_again [.str t, .lst (rs.map ruD)] = .ret (.fr (.tup [.int p.1, .int p.2])) := r2
  generalize ((p.1 : Int) == a && (p.2 : Int) == b) = z at *
  simp [runF_eq, startS, paramS, List.replicate, m3, grD, cIsN, okB, truD, r2, e]
def hasS (s L : List Nat) : Bool := (ixT s (lK L)).isSome
theorem has_one {s L : List Nat} (h : hasS s L = true) : ∃ c ∈ L, s = [c] := by
  unfold hasS at h
  cases q : ixT s (lK L) with
  | none => rw [q] at h; cases h
  | some i =>
    obtain ⟨c, hc, e⟩ := List.mem_map.mp (List.mem_of_getElem? (ixT_lt q).2)
    exact ⟨c, hc, e.symm⟩
theorem in_s (s L : List Nat) : cIn (.str s) (.lst (lC L)) = some (.val (.bl (hasS s L))) := by
  have := in_tx s (lK L)
  rw [List.map_map] at this
  exact this
theorem notIn_s (s L : List Nat) : cNotIn (.str s) (.lst (lC L)) = some (.val (.bl !(hasS s L))) := by
  have := in_s s L
  unfold cIn at this
  unfold cNotIn
  cases q : inG (.str s) (.lst (lC L)) with
  | none => rw [q] at this; cases this
  | some b =>
    rw [q] at this
    have this : some (Hd.val (.bl b)) = some (.val (.bl (hasS s L))) := this
    have e : b = hasS s L := by injection this with h; injection h with h; injection h
    rw [e]; rfl
/-- what is due of a letter and a count -/
def dueG (rs : List Rule) (L s : List Nat) (z : Int) : Bool := decide (1 ≤ z ∧ z ≤ 4) && (hasS s L && moreB rs z.toNat (s.headD 0))
theorem grows_shows (t : List Nat) (rs : List Rule) (L : List Nat) (h : RulesOk rs) (ht : Low t) (hl : t.length ≤ 30) (l : Rch rs t L) (s : List Nat) (z : Int) : F_Grows_shows [grwD (.str s) (.int z), .str t, .lst (rs.map ruD)] = .ret (.fr (.bl (dueG rs L s z))) := by
  obtain ⟨M, x, m1, m2, m3, m4⟩ := reached t rs h ht (by omega)
  rw [m2.one l] at m3
  have n := notIn_s s L
  unfold dueG F_Grows_shows B_Grows_shows
  by_cases c : 1 ≤ z ∧ z ≤ 4
  · rw [decide_eq_true c, Bool.true_and]
    obtain ⟨r, hr⟩ : ∃ r : Nat, z = (r : Int) := ⟨z.toNat, by omega⟩
    subst hr
    have c1 : (1 : Int) ≤ r := c.1
    have c2 : (r : Int) ≤ 4 := c.2
    rw [Int.toNat_natCast]
    cases q : hasS s L with
    | false =>
      rw [q] at n
      generalize lC L = A at *
      rcases m3 with e | e <;> subst e <;> simp [runF_eq, startS, paramS, List.replicate, c1, c2, m4, n]
    | true =>
      rw [q] at n
      obtain ⟨a, ha, e⟩ := has_one q
      subst e
      have mm := makes_more rs h a r (by omega)
      simp only [nD] at mm
      generalize lC L = A at *
      rcases m3 with e | e <;> subst e <;> simp [runF_eq, startS, paramS, List.replicate, c1, c2, m4, n, mm]
  · rw [decide_eq_false c, Bool.false_and]
    by_cases c1 : 1 ≤ z
    · have c2 : ¬ z ≤ 4 := fun q => c ⟨c1, q⟩
      simp [runF_eq, startS, paramS, List.replicate, c1, c2]
    · simp [runF_eq, startS, paramS, List.replicate, c1]
end G

/-! ## P_judged -/
set_option Elab.async false
set_option linter.all false
set_option maxRecDepth 100000
set_option maxHeartbeats 400000
namespace G
open PySem L2 Vi
/-! #### judged -/
def ansD (rs : List Rule) (t L : List Nat) : D := match firstG rs L with
  | some (c, r) => grwD (.str [c]) (nD r)
  | none => match ag rs 100 [t] t with
    | some (i, j) => rndD (nD i) (nD j)
    | none => .non
theorem ag_of {rs : List Rule} {t L : List Nat} (h : RulesOk rs) (tl : t.length ≤ 30) (l : Rch rs t L) (g : growB rs L = false) : ∃ i j, ag rs 100 [t] t = some (i, j) := by
  obtain ⟨c1, c2⟩ := calm_all h tl l g
  have ne := ag_some c2 100 0 (by decide) (by decide)
  have e0 : (List.range (0 + 1)).map (fun i => itR rs i t) = [t] := rfl
  rw [e0] at ne
  have ne : ag rs 100 [t] t ≠ none := ne
  cases q : ag rs 100 [t] t with
  | none => exact absurd q ne
  | some p => exact ⟨p.1, p.2, rfl⟩
theorem judged (t : List Nat) (rs : List Rule) (L : List Nat) (h : RulesOk rs) (ht : Low t) (tl : t.length ≤ 30) (l : Rch rs t L) : F_judged [.str t, .lst (rs.map ruD)] = .ret (.fr (ansD rs t L)) := by
  have c1 := check_text t 30 ht (by omega) (by omega)
  have c2 := check_rules rs h
  obtain ⟨M, m1, m2, m3⟩ := growing t rs h ht (by omega)
  rw [m2.one l] at m3
  unfold ansD F_judged B_judged
  cases q : firstG rs L with
  | some p =>
    rw [q] at m3
    have m3 : F_growing [.str t, .lst (rs.map ruD)] = .ret (.fr (.tup [.str [p.1], .int p.2])) := m3
    simp [runF_eq, startS, paramS, List.replicate, c1, c2, m3, cNotN, okB, aIx, ixD, atI, ixN]
  | none =>
    rw [q] at m3
    have g : growB rs L = false := by unfold growB; rw [q]; rfl
    obtain ⟨e1, e2⟩ := calm_all h tl l g
    obtain ⟨p, r1, r2⟩ := round_again t rs h e1 e2
    have r2 : F_round_again [.str t, .lst (rs.map ruD)] = .ret (.fr (.tup [.int p.1, .int p.2])) := r2
    have m3 : F_growing [.str t, .lst (rs.map ruD)] = .ret (.fr .non) := m3
    rw [r1]
    simp [runF_eq, startS, paramS, List.replicate, c1, c2, m3, cNotN, okB, r2]
end G

/-! ## S_step -/
set_option Elab.async false
set_option linter.all false
set_option maxRecDepth 100000
set_option maxHeartbeats 400000
namespace G
open PySem L2 Vi
theorem ints_step (s : Nat) : ∀ (n a : Nat), intsFrom (a : Int) (s : Int) n = ((List.range n).map fun j => a + s * j).map nD
  | 0, a => rfl
  | n + 1, a => by
    have ih := ints_step s n (a + s)
    show D.int (a : Int) :: intsFrom ((a : Int) + (s : Int)) (s : Int) n = _
    have e : (a : Int) + (s : Int) = ((a + s : Nat) : Int) := by omega
    have e2 : (List.range n).map (fun j => a + s + s * j) = (List.range n).map ((fun j => a + s * j) ∘ Nat.succ) := List.map_congr_left fun j _ => by
      show a + s + s * j = a + s * (j + 1)
      rw [Nat.mul_succ]; omega
    rw [e, ih, e2, List.range_succ_eq_map, List.map_cons, List.map_cons, ← List.map_map]
    rfl
theorem rg_step {n s : Nat} (hn : n ≤ 1000) (h1 : 1 ≤ s) (h2 : s ≤ 1000) : ∃ ps : List Nat, (∀ p ∈ ps, p < n) ∧ rgD [.int 0, nD n, nD s] = some (ps.map nD) := by
  have e : Builtin.Range.rangeSize 0 n s = if n = 0 then 0 else (((n - 1) / s + 1 : Nat) : Int) := by
    unfold Builtin.Range.rangeSize
    rw [if_pos (by omega)]
    by_cases q : n = 0
    · subst q; rfl
    · rw [if_pos (by omega), if_neg q]
      have e1 : (n : Int) - 0 - 1 = ((n - 1 : Nat) : Int) := by omega
      rw [e1]; rfl
  have dl : (n - 1) / s ≤ n - 1 := Nat.div_le_self _ _
  have f : ∀ i : Int, i.natAbs ≤ 2000 → Builtin.Range.rangeFitsLong i = true := fun i hi => by
    unfold Builtin.Range.rangeFitsLong
    rw [Bool.and_eq_true, decide_eq_true_eq, decide_eq_true_eq]
    omega
  have le : (Builtin.Range.rangeSize 0 n s).natAbs ≤ 1000 := by
    rw [e]
    by_cases q : n = 0
    · rw [if_pos q]; decide
    · rw [if_neg q]; generalize (n - 1) / s = d at dl ⊢; omega
  have p0 : 0 ≤ Builtin.Range.rangeSize 0 n s := by
    rw [e]
    by_cases q : n = 0
    · rw [if_pos q]; decide
    · rw [if_neg q]; exact Int.natCast_nonneg _
  have sm : Builtin.Range.small 0 n s = true := by
    unfold Builtin.Range.small
    rw [f 0 (by decide), f n (by omega), f s (by omega), f _ (by omega), if_pos (by omega), f _ (by omega)]
    simp
  refine ⟨(List.range (Builtin.Range.rangeSize 0 n s).toNat).map (fun j => 0 + s * j), fun p hp => ?_, ?_⟩
  · obtain ⟨j, hj, ej⟩ := List.mem_map.mp hp
    have hj := List.mem_range.mp hj
    rw [e] at hj
    by_cases q : n = 0
    · rw [if_pos q] at hj; exact absurd hj (Nat.not_lt_zero _)
    · rw [if_neg q, Int.toNat_natCast] at hj
      have m1 : s * j ≤ s * ((n - 1) / s) := Nat.mul_le_mul_left _ (by omega)
      have m2 := Nat.mul_div_le (n - 1) s
      omega
  · show (rg3 0 n s).map _ = _
    unfold rg3
    rw [if_pos ⟨by omega, by omega, sm, p0⟩, Option.map_some]
    have := ints_step s (Builtin.Range.rangeSize 0 n s).toNat 0
    rw [← this]; rfl
end G

/-! ## Q_k08a -/
set_option Elab.async false
set_option linter.all false
set_option maxRecDepth 100000
set_option maxHeartbeats 1000000
namespace G
open PySem L2 Vi
theorem isO_rr (a b : D) : isOD objL (lkp osubL) (rndD a b) (.cls 7) = some (.val (.bl true)) := rfl
theorem isO_gr (a b : D) : isOD objL (lkp osubL) (grwD a b) (.cls 7) = some (.val (.bl false)) := rfl
theorem oS_ne {s : List Nat} (h : Low s) (p : Nat) : cNe (oS (s[p]?)) (oS (s[p]?)) = some (.val (.bl false)) := by
  cases e : s[p]? with
  | none => exact cNe_self (by decide) (by decide)
  | some c =>
    have := h c (List.mem_of_getElem? e)
    refine cNe_self ?_ (by show 0 ≤ 60; omega)
    show [c].all (· < 0x110000) = true
    simp; omega
theorem len_it (rs : List Rule) (m : Nat) (t : List Nat) : (itR rs m t).length = lenL rs m t := it_sz rs m t
theorem lenL_app (rs : List Rule) (m : Nat) (s t : List Nat) : lenL rs m (s ++ t) = lenL rs m s + lenL rs m t := by
  rw [← len_it, itR_app, List.length_append, len_it, len_it]
theorem lenL_succ (rs : List Rule) (m : Nat) (t : List Nat) : lenL rs m (roundL rs t) = lenL rs (m + 1) t := by
  rw [← len_it, ← len_it]; rfl
theorem it_at (rs : List Rule) (m p : Nat) (s t : List Nat) : (itR rs m (s ++ t))[p]? = if lenL rs m s ≤ p then (itR rs m t)[p - lenL rs m s]? else (itR rs m s)[p]? := by
  rw [itR_app]
  by_cases q : lenL rs m s ≤ p
  · rw [if_pos q, List.getElem?_append_right (by rw [len_it]; exact q), len_it]
  · rw [if_neg q, List.getElem?_append_left (by rw [len_it]; omega)]
theorem ag_per {rs : List Rule} {t : List Nat} : ∀ (n k i j : Nat), ag rs n ((List.range (k + 1)).map fun i => itR rs i t) (itR rs k t) = some (i, j) → itR rs i t = itR rs (i + j) t
  | 0, k, i, j, e => by cases e
  | n + 1, k, i, j, e => by
    unfold ag at e
    rw [← itR_succ] at e
    cases q : ixT (itR rs (k + 1) t) ((List.range (k + 1)).map fun i => itR rs i t) with
    | some a =>
      rw [q] at e
      have e : (a, ((List.range (k + 1)).map fun i => itR rs i t).length - a) = (i, j) := Option.some.inj e
      rw [List.length_map, List.length_range] at e
      have e1 : a = i := congrArg Prod.fst e
      have e2 : k + 1 - a = j := congrArg Prod.snd e
      subst e1 e2
      obtain ⟨h1, h2⟩ := ixT_lt q
      rw [List.length_map, List.length_range] at h1
      rw [List.getElem?_map, List.getElem?_range h1, Option.map_some] at h2
      have h2 : itR rs a t = itR rs (k + 1) t := Option.some.inj h2
      rw [h2]
      have : a + (k + 1 - a) = k + 1 := by omega
      rw [this]
    | none =>
      rw [q] at e
      have e2 : (List.range (k + 1 + 1)).map (fun i => itR rs i t) = (List.range (k + 1)).map (fun i => itR rs i t) ++ [itR rs (k + 1) t] := by rw [List.range_succ (n := k + 1), List.map_append]; rfl
      refine ag_per n (k + 1) i j ?_
      rw [e2]; exact e
theorem ag_per0 {rs : List Rule} {t : List Nat} {i j : Nat} (e : ag rs 100 [t] t = some (i, j)) : itR rs i t = itR rs (i + j) t := ag_per 100 0 i j e
def spotBody : M Fl := (sIf (eTest (eOp cNe (eCall 4 F_letter_at (eCons (eVar 2) (eCons (eVar 4) (eCons (eUn (fldD [7] "first") (eVar 12)) (eCons (eVar 13) eNil))))) (eCall 4 F_letter_at (eCons (eVar 2) (eCons (eVar 4) (eCons (eOp aPlus (eUn (fldD [7] "first") (eVar 12)) (eUn (fldD [7] "many") (eVar 12))) (eCons (eVar 13) eNil)))))))
          (sRet (eC (.bl false)))
          sNx)
def endBody : M Fl := (sIf (eAnd (eTest (eCB (f2 (isOD objL (lkp osubL))) (eCons (eVar 12) (eCons (eC (.cls 7)) eNil)))) (eTest (eOp cLe (eOp aPlus (eUn (fldD [7] "first") (eVar 12)) (eUn (fldD [7] "many") (eVar 12))) (eC (.int 40)))))
      (sSeq (sIf (eTest (eOp cNe (eCall 3 F_long_behind (eCons (eVar 2) (eCons (eVar 4) (eCons (eUn (fldD [7] "first") (eVar 12)) eNil)))) (eCall 3 F_long_behind (eCons (eVar 2) (eCons (eVar 4) (eCons (eOp aPlus (eUn (fldD [7] "first") (eVar 12)) (eUn (fldD [7] "many") (eVar 12))) eNil))))))
        (sRet (eC (.bl false)))
        sNx)
      (sFor (itRngN 1 (eCons (eC (.int 4)) eNil)) (gN 13)
        spotBody))
      sNx)
theorem ne_int (a : Int) : cNe (.int a) (.int a) = some (.val (.bl false)) := cNe_self rfl (by show 0 ≤ 60; omega)
theorem end_ok (t : List Nat) (rs : List Rule) (L : List Nat) (h : RulesOk rs) (ht : Low t) (tl : t.length ≤ 30) (l : Rch rs t L) (s0 s1 s3 s5 s6 s7 s8 s9 s10 s11 x13 : S) : ∃ y13, endBody [s0, s1, .fr (.str t), s3, .own (.lst (rs.map ruD)), s5, s6, s7, s8, s9, s10, s11, .fr (ansD rs t L), x13] =
    .ok .nx [s0, s1, .fr (.str t), s3, .own (.lst (rs.map ruD)), s5, s6, s7, s8, s9, s10, s11, .fr (ansD rs t L), y13] := by
  cases q : firstG rs L with
  | some p =>
    obtain ⟨c, r⟩ := p
    have e : ansD rs t L = grwD (.str [c]) (nD r) := by unfold ansD; rw [q]
    have i1 := isO_gr (.str [c]) (nD r)
    rw [e]
    refine ⟨x13, ?_⟩
    unfold endBody
    simp only [nD] at *
    simp [i1]
  | none =>
    have g : growB rs L = false := by unfold growB; rw [q]; rfl
    obtain ⟨i, j, hp⟩ := ag_of h tl l g
    have e : ansD rs t L = rndD (nD i) (nD j) := by unfold ansD; rw [q, hp]
    have i1 := isO_rr (nD i) (nD j)
    rw [e]
    by_cases c : i + j ≤ 40
    · have c1 : (i : Int) + j ≤ 40 := by omega
      have per := ag_per0 hp
      have b1 := long_behind t rs i ht tl h (by omega)
      have b2 := long_behind t rs (i + j) ht tl h c
      have ll : lenL rs (i + j) t = lenL rs i t := by rw [← len_it, ← len_it, per]
      rw [ll] at b2
      have n := ne_int (lenL rs i t : Int)
      have ez : ((i + j : Nat) : Int) = (i : Int) + j := by omega
      have turn : ∀ (p : Nat), spotBody [s0, s1, .fr (.str t), s3, .own (.lst (rs.map ruD)), s5, s6, s7, s8, s9, s10, s11, .fr (rndD (nD i) (nD j)), .fr (nD p)] = .ok .nx [s0, s1, .fr (.str t), s3, .own (.lst (rs.map ruD)), s5, s6, s7, s8, s9, s10, s11, .fr (rndD (nD i) (nD j)), .fr (nD p)] := by
        intro p
        have l1 := letter_at t rs i p ht tl h (by omega)
        have l2 := letter_at t rs (i + j) p ht tl h c
        rw [← per] at l2
        have n := oS_ne (itR_low h i ht) p
        unfold spotBody
        generalize (itR rs i t)[p]? = o at *
        generalize rs.map ruD = R at *
        simp only [nD, ez] at *
        simp [l1, l2, n]
      have rg := rg1 (n := 4) (by decide)
      have rg : rgD [.int 4] = some [nD 0, nD 1, nD 2, nD 3] := rg
      have t0 := turn 0
      have t1 := turn 1
      have t2 := turn 2
      have t3 := turn 3
      refine ⟨.fr (nD 3), ?_⟩
      unfold endBody
      generalize rs.map ruD = R at *
      simp only [nD, ez, Int.natCast_zero, Int.natCast_one, Int.cast_ofNat_Int] at *
      simp [i1, c1, b1, b2, n, sFor_r, rg, loop_cons, loop_nil, t0, t1, t2, t3]
    · have c1 : ¬ (i : Int) + j ≤ 40 := by omega
      refine ⟨x13, ?_⟩
      unfold endBody
      simp only [nD] at *
      simp [i1, c1]
def nextBody : M Fl := (sIf (eAnd (eTest (eOp cLe (eCB (f1 lenD) (eCons (eVar 11) eNil)) (eC (.int 30)))) (eTest (eOp cLt (eVar 6) (eC (.int 40)))))
      (sSeq (sIf (eTest (eOp cNe (eCall 3 F_long_behind (eCons (eVar 11) (eCons (eVar 4) (eCons (eVar 6) eNil)))) (eCall 3 F_long_behind (eCons (eVar 2) (eCons (eVar 4) (eCons (eOp aPlus (eVar 6) (eC (.int 1))) eNil))))))
        (sRet (eC (.bl false)))
        sNx)
      (sIf (eTest (eOp cNe (eCall 4 F_letter_at (eCons (eVar 11) (eCons (eVar 4) (eCons (eVar 6) (eCons (eVar 9) eNil))))) (eCall 4 F_letter_at (eCons (eVar 2) (eCons (eVar 4) (eCons (eOp aPlus (eVar 6) (eC (.int 1))) (eCons (eVar 9) eNil)))))))
        (sRet (eC (.bl false)))
        sNx))
      sNx)
theorem next_ok (t : List Nat) (rs : List Rule) (m p : Nat) (h : RulesOk rs) (ht : Low t) (tl : t.length ≤ 30) (hm : m ≤ 40) (s0 s1 s3 s5 s7 s8 s10 s12 s13 : S) : nextBody [s0, s1, .fr (.str t), s3, .own (.lst (rs.map ruD)), s5, .fr (nD m), s7, s8, .fr (nD p), s10, .fr (.str (roundL rs t)), s12, s13] =
    .ok .nx [s0, s1, .fr (.str t), s3, .own (.lst (rs.map ruD)), s5, .fr (nD m), s7, s8, .fr (nD p), s10, .fr (.str (roundL rs t)), s12, s13] := by
  have rl := round_len h t
  have ld := lenD_s (s := roundL rs t) (by omega)
  unfold nextBody
  by_cases c : (roundL rs t).length ≤ 30
  · have c1 : ((roundL rs t).length : Int) ≤ 30 := by omega
    by_cases d : m < 40
    · have d1 : (m : Int) < 40 := by omega
      have rlo := round_low h ht
      have b1 := long_behind (roundL rs t) rs m rlo c h hm
      have b2 := long_behind t rs (m + 1) ht tl h (by omega)
      rw [lenL_succ] at b1
      have l1 := letter_at (roundL rs t) rs m p rlo c h hm
      have l2 := letter_at t rs (m + 1) p ht tl h (by omega)
      have ei : itR rs m (roundL rs t) = itR rs (m + 1) t := rfl
      rw [ei] at l1
      have n1 := ne_int (lenL rs (m + 1) t : Int)
      have n2 := oS_ne (itR_low h (m + 1) ht) p
      have ez : ((m + 1 : Nat) : Int) = (m : Int) + 1 := by omega
      generalize (itR rs (m + 1) t)[p]? = o at *
      generalize lenL rs (m + 1) t = len at *
      generalize roundL rs t = rt at *
      generalize rs.map ruD = R at *
      simp only [nD, ez] at *
      simp [ld, c1, d1, b1, b2, n1, l1, l2, n2]
    · have d1 : ¬ (m : Int) < 40 := by omega
      generalize roundL rs t = rt at *
      simp [ld, c1, d1]
  · have c1 : ¬ ((roundL rs t).length : Int) ≤ 30 := by omega
    generalize roundL rs t = rt at *
    simp [ld, c1]
end G

/-! ## Q_k08b -/
set_option Elab.async false
set_option linter.all false
set_option maxRecDepth 100000
set_option maxHeartbeats 1000000
namespace G
open PySem L2 Vi
theorem rs_ok (rs : List Rule) (h : (rs.all fun r => decide (97 ≤ r.1) && decide (r.1 ≤ 122) && (r.2.all fun c => decide (97 ≤ c) && decide (c ≤ 122)) && decide (r.2.length ≤ 3)) = true) (hl : rs.length ≤ 4) (hu : (rs.Pairwise fun a b => a.1 < b.1)) : RulesOk rs := by
  refine ⟨fun r hr => ?_, hl, hu⟩
  have := List.all_eq_true.mp h r hr
  simp only [Bool.and_eq_true, decide_eq_true_eq] at this
  refine ⟨⟨this.1.1.1, this.1.1.2⟩, fun c hc => ?_, this.2⟩
  have q := List.all_eq_true.mp this.1.2 c hc
  simpa using q
theorem lo_of (s : List Nat) (h : (s.all fun c => decide (97 ≤ c) && decide (c ≤ 122)) = true) : Low s := fun c hc => by
  have := List.all_eq_true.mp h c hc
  simpa using this
theorem ne_txt (s : List Nat) : cNe (.str s) (.str s) = some (.val (.bl false)) := by simp
def lawBody : M Fl := (sSeq (sPar [2, 3, 4] (pCons (eCall 4 F__law_text (eCons (eVar 0) (eCons (eVar 1) (eCons (eC (.int 15)) (eCons (eC (.int 1)) eNil))))) (pCons (eCall 4 F__law_text (eCons (eVar 0) (eCons (eOp aPlus (eVar 1) (eC (.int 1))) (eCons (eC (.int 15)) (eCons (eC (.int 2)) eNil))))) (pCons (eCall 2 F__law_rules (eCons (eVar 0) (eCons (eVar 1) eNil))) eNil))))
    (sSeq (sSet 5 (eCall 2 F__law_value (eCons (eCall 2 F__law_cell_at (eCons (eVar 0) (eCons (eVar 1) eNil))) (eCons (eC (.int 7)) eNil))))
    (sSeq (sSet 6 (eOp aMod (eVar 5) (eC (.int 41))))
    (sSeq (sIf (eTest (eOp cNe (eCall 2 F_gone_round (eCons (eOp aPlus (eVar 2) (eVar 3)) (eCons (eVar 4) eNil))) (eOp aPlus (eCall 2 F_gone_round (eCons (eVar 2) (eCons (eVar 4) eNil))) (eCall 2 F_gone_round (eCons (eVar 3) (eCons (eVar 4) eNil))))))
      (sRet (eC (.bl false)))
      sNx)
    (sSeq (sPar [7, 8] (pCons (eCall 3 F_long_behind (eCons (eVar 2) (eCons (eVar 4) (eCons (eVar 6) eNil)))) (pCons (eCall 3 F_long_behind (eCons (eOp aPlus (eVar 2) (eVar 3)) (eCons (eVar 4) (eCons (eVar 6) eNil)))) eNil)))
    (sSeq (sIf (eTest (eOp cNe (eVar 8) (eOp aPlus (eVar 7) (eCall 3 F_long_behind (eCons (eVar 3) (eCons (eVar 4) (eCons (eVar 6) eNil)))))))
      (sRet (eC (.bl false)))
      sNx)
    (sSeq (sSet 9 (eOp aMod (eOp aFdiv (eVar 5) (eC (.int 41))) (eOp aPlus (eVar 8) (eC (.int 1)))))
    (sSeq (sSet 10 (eCall 4 F_letter_at (eCons (eVar 2) (eCons (eVar 4) (eCons (eVar 6) (eCons (eVar 9) eNil))))))
    (sSeq (sIf (eTest (eOp cGe (eVar 9) (eVar 7)))
      (sSet 10 (eCall 4 F_letter_at (eCons (eVar 3) (eCons (eVar 4) (eCons (eVar 6) (eCons (eOp aSub (eVar 9) (eVar 7)) eNil))))))
      sNx)
    (sSeq (sIf (eTest (eOp cNe (eCall 4 F_letter_at (eCons (eOp aPlus (eVar 2) (eVar 3)) (eCons (eVar 4) (eCons (eVar 6) (eCons (eVar 9) eNil))))) (eVar 10)))
      (sRet (eC (.bl false)))
      sNx)
    (sSeq (sSet 11 (eCall 2 F_gone_round (eCons (eVar 2) (eCons (eVar 4) eNil))))
    (sSeq nextBody
    (sSeq (sSet 12 (eCall 2 F_judged (eCons (eVar 2) (eCons (eVar 4) eNil))))
    endBody)))))))))))))
theorem law_turn (cs : List Int) (hc : Cells cs) (b : Nat) (x2 x3 x4 x5 x6 x7 x8 x9 x10 x11 x12 x13 : S) : ∃ y2 y3 y4 y5 y6 y7 y8 y9 y10 y11 y12 y13, lawBody [.own (.lst (cs.map .int)), .fr (nD b), x2, x3, x4, x5, x6, x7, x8, x9, x10, x11, x12, x13] =
    .ok .nx [.own (.lst (cs.map .int)), .fr (nD b), y2, y3, y4, y5, y6, y7, y8, y9, y10, y11, y12, y13] := by
  have cc := cell_at cs b
  obtain ⟨z, v1, v2, v3⟩ := law_value (cs.getD b 0) 7 (by have := hc b; simp only [Bd] at *; omega) (by decide)
  have v1 : F__law_value [.int (cs.getD b 0), .int 7] = .ret (.fr (.int z)) := v1
  obtain ⟨w, hw⟩ : ∃ w : Nat, z = (w : Int) := ⟨z.toNat, by omega⟩
  subst hw
  obtain ⟨t, t1, t2, t3⟩ := law_text cs b 15 1 hc (by decide) (by decide)
  obtain ⟨u, u1, u2, u3⟩ := law_text cs (b + 1) 15 2 hc (by decide) (by decide)
  obtain ⟨rs, h, r2⟩ := law_rules cs b hc
  have t3 : F__law_text [.lst (cs.map .int), .int (b : Int), .int 15, .int 1] = .ret (.fr (.str t)) := t3
  have eb : ((b + 1 : Nat) : Int) = (b : Int) + 1 := by omega
  have u3 : F__law_text [.lst (cs.map .int), .int ((b + 1 : Nat) : Int), .int 15, .int 2] = .ret (.fr (.str u)) := u3
  rw [eb] at u3
  have tl : (t ++ u).length ≤ 30 := by rw [List.length_append]; omega
  have tlo : Low (t ++ u) := fun c hc => (List.mem_append.mp hc).elim (t1 c) (u1 c)
  have hm : w % 41 ≤ 40 := by omega
  have m41 : aMod (nD w) (.int 41) = some (.val (nD (w % 41))) := by
    show (if (0 : Int) < 41 then okI _ else none) = _
    rw [if_pos (by decide)]
    have : (w : Int) % 41 = ((w % 41 : Nat) : Int) := by omega
    rw [this]; rfl
  have d41 : aFdiv (nD w) (.int 41) = some (.val (nD (w / 41))) := by
    show (if (0 : Int) < 41 ∧ (41 : Int) < 1073741824 then okI _ else none) = _
    rw [if_pos (by decide)]
    have : (w : Int) / 41 = ((w / 41 : Nat) : Int) := by omega
    rw [this]; rfl
  generalize w % 41 = m at *
  generalize w / 41 = w41 at *
  have g1 := gone_round (t ++ u) rs tlo tl h
  have g2 := gone_round t rs t1 (by omega) h
  have g3 := gone_round u rs u1 (by omega) h
  have ga := round_app rs t u
  rw [ga] at g1
  have l2 := round_len h t
  have l3 := round_len h u
  have p1 := aPlus_sM (s := t) (t := u) (by omega)
  have p2 := aPlus_sM (s := roundL rs t) (t := roundL rs u) (by omega)
  have n1 := ne_txt (roundL rs t ++ roundL rs u)
  have b1 := long_behind t rs m t1 (by omega) h hm
  have b2 := long_behind (t ++ u) rs m tlo tl h hm
  have b3 := long_behind u rs m u1 (by omega) h hm
  rw [lenL_app] at b2
  have es : ((lenL rs m t + lenL rs m u : Nat) : Int) = (lenL rs m t : Int) + lenL rs m u := by omega
  have n2 := ne_int ((lenL rs m t : Int) + lenL rs m u)
  have mp : aMod (nD w41) (.int ((lenL rs m t : Int) + lenL rs m u + 1)) = some (.val (nD (w41 % (lenL rs m t + lenL rs m u + 1)))) := by
    show (if (0 : Int) < (lenL rs m t : Int) + lenL rs m u + 1 then okI _ else none) = _
    rw [if_pos (by omega)]
    have : (w41 : Int) % ((lenL rs m t : Int) + lenL rs m u + 1) = ((w41 % (lenL rs m t + lenL rs m u + 1) : Nat) : Int) := by
      rw [Int.natCast_emod]; rfl
    rw [this]; rfl
  generalize w41 % (lenL rs m t + lenL rs m u + 1) = p at *
  have a1 := letter_at t rs m p t1 (by omega) h hm
  have a2 := letter_at u rs m (p - lenL rs m t) u1 (by omega) h hm
  have a3 := letter_at (t ++ u) rs m p tlo tl h hm
  have n3 := oS_ne (itR_low h m tlo) p
  rw [it_at] at a3 n3
  obtain ⟨M, x, _, l, _, _⟩ := reached t rs h t1 (by omega)
  have j := judged t rs M h t1 (by omega) l
  have nx := fun (s0 s1 s3 s5 s7 s8 s10 s12 s13 : S) => next_ok t rs m p h t1 (by omega) hm s0 s1 s3 s5 s7 s8 s10 s12 s13
  by_cases c : lenL rs m t ≤ p
  · rw [if_pos c] at a3 n3
    have c1 : (lenL rs m t : Int) ≤ p := by omega
    have ep : ((p - lenL rs m t : Nat) : Int) = (p : Int) - lenL rs m t := by omega
    obtain ⟨y13, en⟩ := end_ok t rs M h t1 (by omega) l (.own (.lst (cs.map .int))) (.fr (nD b)) (.fr (.str u)) (.fr (nD w)) (.fr (nD m)) (.fr (nD (lenL rs m t))) (.fr (nD (lenL rs m t + lenL rs m u))) (.fr (nD p)) (.fr (oS ((itR rs m u)[p - lenL rs m t]?))) (.fr (.str (roundL rs t))) x13
    refine ⟨.fr (.str t), .fr (.str u), .own (.lst (rs.map ruD)), .fr (nD w), .fr (nD m), .fr (nD (lenL rs m t)), .fr (nD (lenL rs m t + lenL rs m u)), .fr (nD p), .fr (oS ((itR rs m u)[p - lenL rs m t]?)), .fr (.str (roundL rs t)), .fr (ansD rs t M), y13, ?_⟩
    unfold lawBody
    generalize cs.getD b 0 = cv at *
    generalize (itR rs m u)[p - lenL rs m t]? = o at *
    generalize (itR rs m t)[p]? = o2 at *
    generalize ansD rs t M = an at *
    generalize roundL rs t ++ roundL rs u = rtu at *
    generalize roundL rs t = rt at *
    generalize rs.map ruD = R at *
    simp only [nD, ep, es] at *
    simp [t3, u3, r2, cc, v1, m41, d41, p1, g1, g2, g3, p2, n1, b1, b2, b3, n2, mp, a1, a2, a3, n3, c1, nx, j, en]
  · rw [if_neg c] at a3 n3
    have c1 : ¬ (lenL rs m t : Int) ≤ p := by omega
    obtain ⟨y13, en⟩ := end_ok t rs M h t1 (by omega) l (.own (.lst (cs.map .int))) (.fr (nD b)) (.fr (.str u)) (.fr (nD w)) (.fr (nD m)) (.fr (nD (lenL rs m t))) (.fr (nD (lenL rs m t + lenL rs m u))) (.fr (nD p)) (.fr (oS ((itR rs m t)[p]?))) (.fr (.str (roundL rs t))) x13
    refine ⟨.fr (.str t), .fr (.str u), .own (.lst (rs.map ruD)), .fr (nD w), .fr (nD m), .fr (nD (lenL rs m t)), .fr (nD (lenL rs m t + lenL rs m u)), .fr (nD p), .fr (oS ((itR rs m t)[p]?)), .fr (.str (roundL rs t)), .fr (ansD rs t M), y13, ?_⟩
    unfold lawBody
    generalize cs.getD b 0 = cv at *
    generalize (itR rs m t)[p]? = o2 at *
    generalize ansD rs t M = an at *
    generalize roundL rs t ++ roundL rs u = rtu at *
    generalize roundL rs t = rt at *
    generalize rs.map ruD = R at *
    simp only [nD, es] at *
    simp [t3, u3, r2, cc, v1, m41, d41, p1, g1, g2, g3, p2, n1, b1, b2, b3, n2, mp, a1, a3, n3, c1, nx, j, en]
theorem lawTrue (ns : List Int) (h : ns.length ≤ 63) (hb : ∀ z ∈ ns, Builtin.Int.intBits z ≤ 1048576) : F_law [.scr ns] = .ret (.fr (.bl true)) := by
  have hc := cell_bits hb
  obtain ⟨m, hm⟩ : ∃ m : Nat, max 1 (min 6 (ns.length : Int)) = (m : Int) := ⟨(max 1 (min 6 (ns.length : Int))).toNat, by omega⟩
  obtain ⟨ps, _, g⟩ := rg_step (n := m) (s := 3) (by omega) (by decide) (by decide)
  have g : rgD [.int 0, .int (max 1 (min 6 (ns.length : Int))), .int 3] = some (ps.map nD) := by rw [hm]; exact g
  obtain ⟨ρ', k1, x1, x2, x3, x4, x5, x6, x7, x8, x9, x10, x11, x12, x13, k2⟩ := loop_list (tg := gN 1) (body := lawBody) (xs := ps.map nD) (fun i ρ => ∃ x1 x2 x3 x4 x5 x6 x7 x8 x9 x10 x11 x12 x13, ρ = [.own (.lst (ns.map .int)), x1, x2, x3, x4, x5, x6, x7, x8, x9, x10, x11, x12, x13]) (fun i d ρ hd ⟨x1, x2, x3, x4, x5, x6, x7, x8, x9, x10, x11, x12, x13, e⟩ => by
    subst e
    obtain ⟨b, _, ed⟩ := List.mem_map.mp (List.mem_of_getElem? hd)
    subst ed
    obtain ⟨y2, y3, y4, y5, y6, y7, y8, y9, y10, y11, y12, y13, r⟩ := law_turn ns hc b x2 x3 x4 x5 x6 x7 x8 x9 x10 x11 x12 x13
    exact ⟨_, by simp only [gN_r, nx_ok, thn_ok, List.set_cons_succ, List.set_cons_zero]; exact r, _, _, _, _, _, _, _, _, _, _, _, _, _, rfl⟩) [.own (.lst (ns.map .int)), .un, .un, .un, .un, .un, .un, .un, .un, .un, .un, .un, .un, .un] ⟨_, _, _, _, _, _, _, _, _, _, _, _, _, rfl⟩
  subst k2
  have o1 : RulesOk [(97, [122, 122]), (98, [])] := rs_ok _ (by decide) (by decide) (by decide)
  have lo : Low [122, 97, 98] := lo_of _ (by decide)
  have g1 := gone_round [122, 97, 98] _ lo (by decide) o1
  have b1 := long_behind [122, 97, 98] _ 1 lo (by decide) o1 (by decide)
  rw [show roundL [(97, [122, 122]), (98, [])] [122, 97, 98] = [122, 122, 122] by decide] at g1
  rw [show lenL [(97, [122, 122]), (98, [])] 1 [122, 97, 98] = 3 by decide] at b1
  have p := slD_scr ns h
  simp only [List.map_cons, List.map_nil, ruD, nD, Int.natCast_one, Int.cast_ofNat_Int] at g1 b1
  generalize ps.map nD = xs at k1 g
  unfold F_law B_law
  show runF 14 (sSeq _ (sSeq (sFor _ _ lawBody) _)) _ = _
  simp [runF_eq, startS, paramS, List.replicate, p, sFor_r, g, k1, g1, b1, truD]
end G

/-! ## W08 -/
set_option Elab.async false
set_option linter.all false
set_option maxRecDepth 100000
set_option maxHeartbeats 400000
namespace G
open PySem L2 Vi
/-! ### the text by places -/
def top (i : Nat) : Stmt := PySem.Challenge.pw_replaceall_k08_whole_halves.main.body.getD i (.Pass ⟨0, 0, 0, 0⟩)
abbrev st_is_whole : Stmt := top 9
def N_is_whole : List Str := ["thing"]
theorem sc_is_whole : FnScope N_is_whole ["thing"] (defScope st_is_whole) := ⟨rfl, rfl, rfl, by decide +kernel, rfl, by decide +kernel, by decide +kernel⟩
abbrev st_is_letters : Stmt := top 10
def N_is_letters : List Str := ["thing", "least", "most", "sign"]
theorem sc_is_letters : FnScope N_is_letters ["thing", "least", "most"] (defScope st_is_letters) := ⟨rfl, rfl, rfl, by decide +kernel, rfl, by decide +kernel, by decide +kernel⟩
abbrev st_check_text : Stmt := top 11
def N_check_text : List Str := ["text", "most"]
theorem sc_check_text : FnScope N_check_text ["text", "most"] (defScope st_check_text) := ⟨rfl, rfl, rfl, by decide +kernel, rfl, by decide +kernel, by decide +kernel⟩
abbrev st_is_rule : Stmt := top 15
def N_is_rule : List Str := ["thing"]
theorem sc_is_rule : FnScope N_is_rule ["thing"] (defScope st_is_rule) := ⟨rfl, rfl, rfl, by decide +kernel, rfl, by decide +kernel, by decide +kernel⟩
abbrev st_check_rules : Stmt := top 16
def N_check_rules : List Str := ["rules", "one", "other", "rule"]
theorem sc_check_rules : FnScope N_check_rules ["rules"] (defScope st_check_rules) := ⟨rfl, rfl, rfl, by decide +kernel, rfl, by decide +kernel, by decide +kernel⟩
abbrev st_round_of : Stmt := top 17
def N_round_of : List Str := ["text", "rules", "puts", "sign"]
theorem sc_round_of : FnScope N_round_of ["text", "rules"] (defScope st_round_of) := ⟨rfl, rfl, rfl, by decide +kernel, rfl, by decide +kernel, by decide +kernel⟩
abbrev st_vanishing_by : Stmt := top 18
def N_vanishing_by : List Str := ["rules", "found", "many", "more", "letter", "put", "one", "sign"]
theorem sc_vanishing_by : FnScope N_vanishing_by ["rules"] (defScope st_vanishing_by) := ⟨rfl, rfl, rfl, by decide +kernel, rfl, by decide +kernel, by decide +kernel⟩
abbrev st_lasts : Stmt := top 19
def N_lasts : List Str := ["rules", "text", "gone", "sign"]
theorem sc_lasts : FnScope N_lasts ["rules", "text"] (defScope st_lasts) := ⟨rfl, rfl, rfl, by decide +kernel, rfl, by decide +kernel, by decide +kernel⟩
abbrev st_reached : Stmt := top 20
def N_reached : List Str := ["text", "rules", "found", "more", "behind", "sign"]
theorem sc_reached : FnScope N_reached ["text", "rules"] (defScope st_reached) := ⟨rfl, rfl, rfl, by decide +kernel, rfl, by decide +kernel, by decide +kernel⟩
abbrev st_makes_more : Stmt := top 21
def N_makes_more : List Str := ["letter", "rules", "rounds", "text", "turn"]
theorem sc_makes_more : FnScope N_makes_more ["letter", "rules", "rounds"] (defScope st_makes_more) := ⟨rfl, rfl, rfl, by decide +kernel, rfl, by decide +kernel, by decide +kernel⟩
abbrev st_growing : Stmt := top 22
def N_growing : List Str := ["text", "rules", "letter", "rounds", "rule"]
theorem sc_growing : FnScope N_growing ["text", "rules"] (defScope st_growing) := ⟨rfl, rfl, rfl, by decide +kernel, rfl, by decide +kernel, by decide +kernel⟩
abbrev st_round_again : Stmt := top 23
def N_round_again : List Str := ["text", "rules", "met"]
theorem sc_round_again : FnScope N_round_again ["text", "rules"] (defScope st_round_again) := ⟨rfl, rfl, rfl, by decide +kernel, rfl, by decide +kernel, by decide +kernel⟩
abbrev st_sizes_of : Stmt := top 26
def N_sizes_of : List Str := ["rules", "many", "puts", "found", "turn", "last", "letter", "sign"]
theorem sc_sizes_of : FnScope N_sizes_of ["rules", "many"] (defScope st_sizes_of) := ⟨rfl, rfl, rfl, by decide +kernel, rfl, by decide +kernel, by decide +kernel⟩
abbrev st_check_far : Stmt := top 27
def N_check_far : List Str := ["text", "rules", "many"]
theorem sc_check_far : FnScope N_check_far ["text", "rules", "many"] (defScope st_check_far) := ⟨rfl, rfl, rfl, by decide +kernel, rfl, by decide +kernel, by decide +kernel⟩
abbrev st_long_behind : Stmt := top 28
def N_long_behind : List Str := ["text", "rules", "many", "sizes", "sign"]
theorem sc_long_behind : FnScope N_long_behind ["text", "rules", "many"] (defScope st_long_behind) := ⟨rfl, rfl, rfl, by decide +kernel, rfl, by decide +kernel, by decide +kernel⟩
abbrev st_letter_at : Stmt := top 29
def N_letter_at : List Str := ["text", "rules", "many", "place", "puts", "sizes", "left", "turn", "found", "sign"]
theorem sc_letter_at : FnScope N_letter_at ["text", "rules", "many", "place"] (defScope st_letter_at) := ⟨rfl, rfl, rfl, by decide +kernel, rfl, by decide +kernel, by decide +kernel⟩
abbrev st_gone_round : Stmt := top 35
def N_gone_round : List Str := ["text", "rules"]
theorem sc_gone_round : FnScope N_gone_round ["text", "rules"] (defScope st_gone_round) := ⟨rfl, rfl, rfl, by decide +kernel, rfl, by decide +kernel, by decide +kernel⟩
abbrev st_judged : Stmt := top 36
def N_judged : List Str := ["text", "rules", "found", "first", "many"]
theorem sc_judged : FnScope N_judged ["text", "rules"] (defScope st_judged) := ⟨rfl, rfl, rfl, by decide +kernel, rfl, by decide +kernel, by decide +kernel⟩
abbrev st__law_cell_at : Stmt := top 38
def N__law_cell_at : List Str := ["_law_script", "_law_k"]
theorem sc__law_cell_at : FnScope N__law_cell_at ["_law_script", "_law_k"] (defScope st__law_cell_at) := ⟨rfl, rfl, rfl, by decide +kernel, rfl, by decide +kernel, by decide +kernel⟩
abbrev st__law_draw : Stmt := top 39
def N__law_draw : List Str := ["_law_cell", "_law_k", "_law_many", "_law_primes"]
theorem sc__law_draw : FnScope N__law_draw ["_law_cell", "_law_k", "_law_many"] (defScope st__law_draw) := ⟨rfl, rfl, rfl, by decide +kernel, rfl, by decide +kernel, by decide +kernel⟩
abbrev st__law_value : Stmt := top 40
def N__law_value : List Str := ["_law_cell", "_law_turn", "_law_blend"]
theorem sc__law_value : FnScope N__law_value ["_law_cell", "_law_turn"] (defScope st__law_value) := ⟨rfl, rfl, rfl, by decide +kernel, rfl, by decide +kernel, by decide +kernel⟩
abbrev st__law_letter : Stmt := top 41
def N__law_letter : List Str := ["_law_script", "_law_by", "_law_number", "_law_value_here", "_law_few", "_law_spot"]
theorem sc__law_letter : FnScope N__law_letter ["_law_script", "_law_by", "_law_number"] (defScope st__law_letter) := ⟨rfl, rfl, rfl, by decide +kernel, rfl, by decide +kernel, by decide +kernel⟩
abbrev st__law_text : Stmt := top 42
def N__law_text : List Str := ["_law_script", "_law_by", "_law_most", "_law_turn", "_law_found", "_law_cell", "_law_at", "_law_number"]
theorem sc__law_text : FnScope N__law_text ["_law_script", "_law_by", "_law_most", "_law_turn"] (defScope st__law_text) := ⟨rfl, rfl, rfl, by decide +kernel, rfl, by decide +kernel, by decide +kernel⟩
abbrev st__law_rules : Stmt := top 43
def N__law_rules : List Str := ["_law_script", "_law_by", "_law_found", "_law_value_here", "_law_at", "_law_number", "_law_put", "_law_turn", "_law_letter_here"]
theorem sc__law_rules : FnScope N__law_rules ["_law_script", "_law_by"] (defScope st__law_rules) := ⟨rfl, rfl, rfl, by decide +kernel, rfl, by decide +kernel, by decide +kernel⟩
abbrev st_law : Stmt := top 44
def N_law : List Str := ["_law_script", "_law_by", "_law_one", "_law_other", "_law_rules_here", "_law_value_here", "_law_many", "_law_size", "_law_whole", "_law_place", "_law_due", "_law_behind", "_law_found", "_law_spot"]
theorem sc_law : FnScope N_law ["_law_script"] (defScope st_law) := ⟨rfl, rfl, rfl, by decide +kernel, rfl, by decide +kernel, by decide +kernel⟩
abbrev st_Round_shows : Stmt := inClass (top 32) 1
def N_Round_shows : List Str := ["self", "text", "rules"]
theorem sc_Round_shows : FnScope N_Round_shows ["self", "text", "rules"] (defScope st_Round_shows) := ⟨rfl, rfl, rfl, by decide +kernel, rfl, by decide +kernel, by decide +kernel⟩
abbrev st_Grows_shows : Stmt := inClass (top 33) 1
def N_Grows_shows : List Str := ["self", "text", "rules"]
theorem sc_Grows_shows : FnScope N_Grows_shows ["self", "text", "rules"] (defScope st_Grows_shows) := ⟨rfl, rfl, rfl, by decide +kernel, rfl, by decide +kernel, by decide +kernel⟩
abbrev st_Round___init__ : Stmt := inClass (top 32) 0
theorem sc_Round___init__ : FnScope ["self", "first", "many"] ["self", "first", "many"] (defScope st_Round___init__) := ⟨rfl, rfl, rfl, by decide +kernel, rfl, by decide +kernel, by decide +kernel⟩
abbrev st_Grows___init__ : Stmt := inClass (top 33) 0
theorem sc_Grows___init__ : FnScope ["self", "letter", "rounds"] ["self", "letter", "rounds"] (defScope st_Grows___init__) := ⟨rfl, rfl, rfl, by decide +kernel, rfl, by decide +kernel, by decide +kernel⟩
/-! ### what the top has left -/
structure Txt (K : PySem.W.Frag) (mg : Str → Option Value) (cm : Nat → Addr) : Prop where
  b_BadMany : PySem.W.subIn K (.ref (cm 5)) (.type "BaseException") = some true
  b_BadPlace : PySem.W.subIn K (.ref (cm 3)) (.type "BaseException") = some true
  b_BadRules : PySem.W.subIn K (.ref (cm 4)) (.type "BaseException") = some true
  b_BadText : PySem.W.subIn K (.ref (cm 2)) (.type "BaseException") = some true
  c_BadMany : mg "BadMany" = some (.ref (cm 5))
  c_BadPlace : mg "BadPlace" = some (.ref (cm 3))
  c_BadRules : mg "BadRules" = some (.ref (cm 4))
  c_BadText : mg "BadText" = some (.ref (cm 2))
  c_Grows : mg "Grows" = some (.ref (cm 8))
  c_Round : mg "Round" = some (.ref (cm 7))
  g_LETTERS : ∃ t, mg "LETTERS" = some (.str "abcdefghijklmnopqrstuvwxyz" t)
  g_LONGEST : ∃ t, mg "LONGEST" = some (.int (30) t)
  g_MOST_PUT : ∃ t, mg "MOST_PUT" = some (.int (3) t)
  g_MOST_ROUNDS : ∃ t, mg "MOST_ROUNDS" = some (.int (40) t)
  g_MOST_RULES : ∃ t, mg "MOST_RULES" = some (.int (4) t)
  k_BadMany : PySem.W.keepIn K (.ref (cm 5)) = true
  k_BadPlace : PySem.W.keepIn K (.ref (cm 3)) = true
  k_BadRules : PySem.W.keepIn K (.ref (cm 4)) = true
  k_BadText : PySem.W.keepIn K (.ref (cm 2)) = true
  ob_Grows : Cls K (cm 8) ∧ NoAttr K (cm 8) "letter" ∧ NoAttr K (cm 8) "rounds"
  ob_Round : Cls K (cm 7) ∧ NoAttr K (cm 7) "first" ∧ NoAttr K (cm 7) "many"
  objs : ∀ k ∈ objL, InsP K (cm k)
  osubs : ∀ p ∈ osubL, SubP K cm p
  t_BadMany : PySem.W.typeIn K (.ref (cm 5)) = some (.type "type")
  t_BadPlace : PySem.W.typeIn K (.ref (cm 3)) = some (.type "type")
  t_BadRules : PySem.W.typeIn K (.ref (cm 4)) = some (.type "type")
  t_BadText : PySem.W.typeIn K (.ref (cm 2)) = some (.type "type")
  x_BadMany : PySem.W.excIn K (cm 5) [.type "ValueError", .type "Exception", .type "BaseException", .type "object"] "ValueError.__new__" = true
  x_BadPlace : PySem.W.excIn K (cm 3) [.type "ValueError", .type "Exception", .type "BaseException", .type "object"] "ValueError.__new__" = true
  x_BadRules : PySem.W.excIn K (cm 4) [.type "ValueError", .type "Exception", .type "BaseException", .type "object"] "ValueError.__new__" = true
  x_BadText : PySem.W.excIn K (cm 2) [.type "ValueError", .type "Exception", .type "BaseException", .type "object"] "ValueError.__new__" = true
  z_all : mg "all" = none
  z_any : mg "any" = none
  z_bool : mg "bool" = none
  z_dict : mg "dict" = none
  z_int : mg "int" = none
  z_isinstance : mg "isinstance" = none
  z_len : mg "len" = none
  z_list : mg "list" = none
  z_max : mg "max" = none
  z_min : mg "min" = none
  z_range : mg "range" = none
  z_set : mg "set" = none
  z_sorted : mg "sorted" = none
  z_str : mg "str" = none
  z_sum : mg "sum" = none
  z_tuple : mg "tuple" = none
  z_zip : mg "zip" = none
section
theorem fld_two {H : Hp} {C x dx : Addr} {a b : Str} {y z : V} (ne : ¬ a = b) : upd (upd H x (.ins C dx (L2.putF a y []))) x (.ins C dx (L2.putF b z (L2.putF a y []))) = upd H x (.ins C dx ([a, b].zip [y, z])) := by
  rw [upd_upd]
  have : L2.putF b z (L2.putF a y []) = [a, b].zip [y, z] := by
    show (if a = b then [(a, z)] else (a, y) :: L2.putF b z []) = _
    rw [if_neg ne]; rfl
  rw [this]
variable {P : Program} {w : World} {K : PySem.W.Frag} {mg : Str → Option Value} {base : Heap} {cm : Nat → Addr}
theorem ok_Round___init__ {f : Addr} {fd : FuncData} (T : Txt K mg cm) (F : Fun K "__init__" "Round.__init__" st_Round___init__ f fd) : FnOk P w K mg base (L2.CX P w) 1 f fd ["self", "first", "many"] (spIni (cm 7) ["first", "many"]) := by
  refine F.okX sc_Round___init__ (fun vs H Q E h => ?_) (fun cdv A outer s H vs Q E hr h => ?_)
  · obtain ⟨p, dx, ys, e, hl, _, _⟩ := h
    subst e
    show ys.length + 1 = 3; rw [hl]; rfl
  · obtain ⟨p, dx, ys, e, hl, hp, q⟩ := h
    subst e
    match ys, hl, q with
    | [y, z], _, q =>
    refine ⟨_, pss_cons (ps_fld (pv 0) (pv 1) rfl) (pss_one (ps_fld (pv 0) (pv 2) rfl)), ?_⟩
    refine ⟨y, rfl, _, rfl, p, cm 7, dx, [], rfl, hp, T.ob_Round.1, T.ob_Round.2.1, (by show 0 < 1000; decide), z, rfl, _, rfl, p, cm 7, dx, _, rfl, upd_same, T.ob_Round.1, T.ob_Round.2.2, (by show 1 < 1000; decide), ?_⟩
    show Q .non (upd (upd H p _) p _)
    rw [fld_two (by decide +kernel)]
    exact q
theorem ok_Grows___init__ {f : Addr} {fd : FuncData} (T : Txt K mg cm) (F : Fun K "__init__" "Grows.__init__" st_Grows___init__ f fd) : FnOk P w K mg base (L2.CX P w) 1 f fd ["self", "letter", "rounds"] (spIni (cm 8) ["letter", "rounds"]) := by
  refine F.okX sc_Grows___init__ (fun vs H Q E h => ?_) (fun cdv A outer s H vs Q E hr h => ?_)
  · obtain ⟨p, dx, ys, e, hl, _, _⟩ := h
    subst e
    show ys.length + 1 = 3; rw [hl]; rfl
  · obtain ⟨p, dx, ys, e, hl, hp, q⟩ := h
    subst e
    match ys, hl, q with
    | [y, z], _, q =>
    refine ⟨_, pss_cons (ps_fld (pv 0) (pv 1) rfl) (pss_one (ps_fld (pv 0) (pv 2) rfl)), ?_⟩
    refine ⟨y, rfl, _, rfl, p, cm 8, dx, [], rfl, hp, T.ob_Grows.1, T.ob_Grows.2.1, (by show 0 < 1000; decide), z, rfl, _, rfl, p, cm 8, dx, _, rfl, upd_same, T.ob_Grows.1, T.ob_Grows.2.2, (by show 1 < 1000; decide), ?_⟩
    show Q .non (upd (upd H p _) p _)
    rw [fld_two (by decide +kernel)]
    exact q
set_option maxHeartbeats 4000000 in
theorem ok_is_whole {f : Addr} {fd : FuncData} (T : Txt K mg cm) (F : Fun K "is_whole" "is_whole" st_is_whole f fd) : FnOk P w K mg base (L2.CX P w) 1 f fd ["thing"] (spV cm K 1 F_is_whole) :=
  fn_ok (k := 0) (N := N_is_whole) B_is_whole F sc_is_whole (by decide) fun cdv A outer s H E hr => ⟨_,
  (vss_one (vs_ret (wandT K (wcb K s_isi call_isi T.z_isinstance (va_cons (ve_var 0) (va_cons (ve_ty T.z_int) va_nil))) (ve_boolOne (wnotT K (wcb K s_isi call_isi T.z_isinstance (va_cons (ve_var 0) (va_cons (ve_ty T.z_bool) va_nil))))))))⟩
set_option maxHeartbeats 4000000 in
theorem ok_is_letters {f : Addr} {fd : FuncData} (T : Txt K mg cm) (F : Fun K "is_letters" "is_letters" st_is_letters f fd) : FnOk P w K mg base (L2.CX P w) 1 f fd ["thing", "least", "most"] (spV cm K 3 F_is_letters) :=
  fn_ok (k := 0) (N := N_is_letters) B_is_letters F sc_is_letters (by decide) fun cdv A outer s H E hr => ⟨_,
  (vss_cons (vs_if (VW.vt (vw_or (vt_not (vt_val (wcb K s_isi call_isi T.z_isinstance (va_cons (ve_var 0) (va_cons (ve_ty T.z_str) va_nil))))) (vw_or1 (vt_not (wchainT K s_le s_le op_le op_le (ve_var 1) (wcb K s_len call_len T.z_len (va_cons (ve_var 0) va_nil)) (ve_var 2))))))
    (vss_one (vs_ret ve_bl))
    vss_nil)
  (vss_one (vs_ret (wcb K s_all (cr_all rfl) T.z_all (va_cons (ve_lc [("sign", 3)] rfl sc_is_letters.nd (wany K (ve_var 0)) (fun _ _ _ _ _ => (vg_name 3 sc_is_letters.nd)) (fun _ _ _ _ _ => vts_nil) (fun _ _ _ _ _ => (wcmp K s_in (o_in (o_units hr)) rfl (ve_var 3) (ve_gStr [97, 98, 99, 100, 101, 102, 103, 104, 105, 106, 107, 108, 109, 110, 111, 112, 113, 114, 115, 116, 117, 118, 119, 120, 121, 122] T.g_LETTERS.choose_spec))) (ok := by kernel_rfl)) va_nil)))))⟩
set_option maxHeartbeats 4000000 in
theorem ok_round_of {f : Addr} {fd : FuncData} (T : Txt K mg cm) (F : Fun K "round_of" "round_of" st_round_of f fd) : FnOk P w K mg base (L2.CX P w) 1 f fd ["text", "rules"] (spV cm K 2 F_round_of) :=
  fn_ok (k := 0) (N := N_round_of) B_round_of F sc_round_of (by decide) fun cdv A outer s H E hr => ⟨_,
  (vss_cons (vs_set 2 sc_round_of.nd (wct K s_dict (cd_dict rfl) T.z_dict (va_cons (ve_var 1) va_nil)))
  (vss_one (vs_ret (ve_join K (ve_str []) (ve_lc [("sign", 3)] rfl sc_round_of.nd (wany K (ve_var 0)) (fun _ _ _ _ _ => (vg_name 3 sc_round_of.nd)) (fun _ _ _ _ _ => vts_nil) (fun _ _ _ _ _ => (ve_get2 (o_units hr) (ve_var 2) (ve_var 3) (ve_var 3))) (ok := by kernel_rfl))))))⟩
set_option maxHeartbeats 4000000 in
theorem ok_vanishing_by {f : Addr} {fd : FuncData} (T : Txt K mg cm) (F : Fun K "vanishing_by" "vanishing_by" st_vanishing_by f fd) : FnOk P w K mg base (L2.CX P w) 1 f fd ["rules"] (spV cm K 1 F_vanishing_by) :=
  fn_ok (k := 0) (N := N_vanishing_by) B_vanishing_by F sc_vanishing_by (by decide) fun cdv A outer s H E hr => ⟨_,
  (vss_cons (vs_asgT rfl (vns_cons 1 sc_vanishing_by.nd (vns_cons 2 sc_vanishing_by.nd vns_nil)) (vp_cons ve_dnew (vp_cons ve_int vp_nil)))
  (vss_cons (vs_setLc 3 [("letter", 4), ("put", 5)] rfl sc_vanishing_by.nd (wany K (ve_var 0)) (fun _ _ _ _ _ => (vg_tupK K rfl (vgs_cons (vg_name 4 sc_vanishing_by.nd) (vgs_cons (vg_name 5 sc_vanishing_by.nd) vgs_nil)))) (fun _ _ _ _ _ => (vts_one (wcmpT K s_eq (o_eq (o_units hr)) (nomark _) (ve_var 5) (ve_str [])))) (fun _ _ _ _ _ => (ve_var 4)) (ok := by kernel_rfl))
  (vss_cons (vs_while 100 PassesOwn.leaving (wcmpT K s_ne (o_ne (o_units hr)) (nomark _) (ve_var 3) (ve_lst vd_nil))
    (vss_cons (vs_aug 2 sc_vanishing_by.nd ip_add ve_int)
    (vss_cons (vs_for PassesOwn.leaving rfl (wany K (ve_var 3)) (vg_name 4 sc_vanishing_by.nd)
      (vss_one (wsetK K 1 (o_units hr) (ve_var 2) (ve_var 4))))
    (vss_one (vs_setLc 3 [("one", 6), ("put", 5)] rfl sc_vanishing_by.nd (wany K (ve_var 0)) (fun _ _ _ _ _ => (vg_tupK K rfl (vgs_cons (vg_name 6 sc_vanishing_by.nd) (vgs_cons (vg_name 5 sc_vanishing_by.nd) vgs_nil)))) (fun _ _ _ _ _ => (vts_one (VW.vt (vw_and (wcmpT K s_notIn (o_notIn (o_units hr)) rfl (ve_var 6) (ve_var 1)) (vw_and1 (vt_val (wcb K s_all (cr_all rfl) T.z_all (va_cons (ve_lc [("sign", 7)] rfl sc_vanishing_by.nd (wany K (ve_var 5)) (fun _ _ _ _ _ => (vg_name 7 sc_vanishing_by.nd)) (fun _ _ _ _ _ => vts_nil) (fun _ _ _ _ _ => (wcmp K s_in (o_in (o_units hr)) rfl (ve_var 7) (ve_var 1))) (ok := by kernel_rfl)) va_nil)))))))) (fun _ _ _ _ _ => (ve_var 6)) (ok := by kernel_rfl))))))
  (vss_one (vs_ret (ve_var 1))))))⟩
set_option maxHeartbeats 4000000 in
theorem ok_sizes_of {f : Addr} {fd : FuncData} (T : Txt K mg cm) (F : Fun K "sizes_of" "sizes_of" st_sizes_of f fd) : FnOk P w K mg base (L2.CX P w) 1 f fd ["rules", "many"] (spV cm K 2 F_sizes_of) :=
  fn_ok (k := 0) (N := N_sizes_of) B_sizes_of F sc_sizes_of (by decide) fun cdv A outer s H E hr => ⟨_,
  (vss_cons (vs_set 2 sc_sizes_of.nd (wct K s_dict (cd_dict rfl) T.z_dict (va_cons (ve_var 0) va_nil)))
  (vss_cons (vs_set 3 sc_sizes_of.nd (ve_lst (vd_cons (wct K s_dict (cd_dict rfl) T.z_dict (va_cons (ve_lc [("letter", 6)] rfl sc_sizes_of.nd (wany K (ve_gStr [97, 98, 99, 100, 101, 102, 103, 104, 105, 106, 107, 108, 109, 110, 111, 112, 113, 114, 115, 116, 117, 118, 119, 120, 121, 122] T.g_LETTERS.choose_spec)) (fun _ _ _ _ _ => (vg_name 6 sc_sizes_of.nd)) (fun _ _ _ _ _ => vts_nil) (fun _ _ _ _ _ => (ve_tup (vd_cons (ve_var 6) (vd_cons ve_int vd_nil)))) (ok := by kernel_rfl)) va_nil)) vd_nil)))
  (vss_cons (vs_for PassesOwn.leaving rfl (vi_range1 T.z_range (va_cons (ve_var 1) va_nil)) (vg_name 4 sc_sizes_of.nd)
    (vss_cons (vs_set 5 sc_sizes_of.nd (wix K (o_units hr) (ve_var 3) (ve_neg ve_int)))
    (vss_one (vs_expr (wappK K 3 (wct K s_dict (cd_dict rfl) T.z_dict (va_cons (ve_lc [("letter", 6)] rfl sc_sizes_of.nd (wany K (ve_gStr [97, 98, 99, 100, 101, 102, 103, 104, 105, 106, 107, 108, 109, 110, 111, 112, 113, 114, 115, 116, 117, 118, 119, 120, 121, 122] T.g_LETTERS.choose_spec)) (fun _ _ _ _ _ => (vg_name 6 sc_sizes_of.nd)) (fun _ _ _ _ _ => vts_nil) (fun _ _ _ _ _ => (ve_tup (vd_cons (ve_var 6) (vd_cons (wcb K s_sum (cr_sum rfl) T.z_sum (va_cons (ve_lc [("sign", 7)] rfl sc_sizes_of.nd (wany K (ve_get2 (o_units hr) (ve_var 2) (ve_var 6) (ve_var 6))) (fun _ _ _ _ _ => (vg_name 7 sc_sizes_of.nd)) (fun _ _ _ _ _ => vts_nil) (fun _ _ _ _ _ => (wix K (o_units hr) (ve_var 5) (ve_var 7))) (ok := by kernel_rfl)) va_nil)) vd_nil)))) (ok := by kernel_rfl)) va_nil)))))))
  (vss_one (vs_ret (ve_var 3))))))⟩
set_option maxHeartbeats 4000000 in
theorem ok__law_cell_at {f : Addr} {fd : FuncData} (T : Txt K mg cm) (F : Fun K "_law_cell_at" "_law_cell_at" st__law_cell_at f fd) : FnOk P w K mg base (L2.CX P w) 1 f fd ["_law_script", "_law_k"] (spV cm K 2 F__law_cell_at) :=
  fn_ok (k := 0) (N := N__law_cell_at) B__law_cell_at F sc__law_cell_at (by decide) fun cdv A outer s H E hr => ⟨_,
  (vss_cons (vs_if (wcmpT K s_lt op_lt (nomark _) (ve_var 1) (wcb K s_len call_len T.z_len (va_cons (ve_var 0) va_nil)))
    (vss_one (vs_ret (wix K (o_units hr) (ve_var 0) (ve_var 1))))
    vss_nil)
  (vss_one (vs_ret ve_int)))⟩
set_option maxHeartbeats 4000000 in
theorem ok__law_draw {f : Addr} {fd : FuncData} (T : Txt K mg cm) (F : Fun K "_law_draw" "_law_draw" st__law_draw f fd) : FnOk P w K mg base (L2.CX P w) 1 f fd ["_law_cell", "_law_k", "_law_many"] (spV cm K 3 F__law_draw) :=
  fn_ok (k := 0) (N := N__law_draw) B__law_draw F sc__law_draw (by decide) fun cdv A outer s H E hr => ⟨_,
  (vss_cons (vs_set 3 sc__law_draw.nd (ve_tup (vd_cons ve_int (vd_cons ve_int (vd_cons ve_int (vd_cons ve_int (vd_cons ve_int (vd_cons ve_int (vd_cons ve_int (vd_cons ve_int (vd_cons ve_int (vd_cons ve_int (vd_cons ve_int (vd_cons ve_int (vd_cons ve_int (vd_cons ve_int (vd_cons ve_int (vd_cons ve_int vd_nil))))))))))))))))))
  (vss_one (vs_ret (wop K s_mod op_mod (wop K s_mod op_mod (wop K s_plus o_add (wop K s_mul o_mul (ve_var 0) ve_int) (wop K s_mul o_mul (ve_var 1) ve_int)) (wix K (o_units hr) (ve_var 3) (wop K s_mod op_mod (ve_var 1) ve_int))) (ve_var 2)))))⟩
set_option maxHeartbeats 4000000 in
theorem ok_check_text {f : Addr} {fd : FuncData} (T : Txt K mg cm) (F : Fun K "check_text" "check_text" st_check_text f fd) (c_is_letters : Fn P w K mg base cm 1 "is_letters" 3 F_is_letters) : FnOk P w K mg base (L2.CX P w) 2 f fd ["text", "most"] (spV cm K 2 F_check_text) :=
  fn_ok (k := 1) (N := N_check_text) B_check_text F sc_check_text (by decide) fun cdv A outer s H E hr => ⟨_,
  (vss_one (vs_if (vt_not (vt_val (wcall K c_is_letters (hr.mono (by decide)) (passAt (takes_of rfl rfl rfl rfl)) (va_cons (ve_var 0) (va_cons ve_int (va_cons (ve_var 1) va_nil))))))
    (vss_one (vs_raise 2 rfl (takes_of rfl rfl rfl rfl) PySem.F.excBase_ValueError T.x_BadText T.c_BadText T.k_BadText (raises_own T.b_BadText T.t_BadText)))
    vss_nil))⟩
set_option maxHeartbeats 4000000 in
theorem ok_is_rule {f : Addr} {fd : FuncData} (T : Txt K mg cm) (F : Fun K "is_rule" "is_rule" st_is_rule f fd) (c_is_letters : Fn P w K mg base cm 1 "is_letters" 3 F_is_letters) : FnOk P w K mg base (L2.CX P w) 2 f fd ["thing"] (spV cm K 1 F_is_rule) :=
  fn_ok (k := 1) (N := N_is_rule) B_is_rule F sc_is_rule (by decide) fun cdv A outer s H E hr => ⟨_,
  (vss_cons (vs_if (VW.vt (vw_or (vt_not (vt_val (wcb K s_isi call_isi T.z_isinstance (va_cons (ve_var 0) (va_cons (ve_ty T.z_tuple) va_nil))))) (vw_or1 (wcmpT K s_ne (o_ne (o_units hr)) (nomark _) (wcb K s_len call_len T.z_len (va_cons (ve_var 0) va_nil)) ve_int))))
    (vss_one (vs_ret ve_bl))
    vss_nil)
  (vss_one (vs_ret (wandT K (wcall K c_is_letters (hr.mono (by decide)) (passAt (takes_of rfl rfl rfl rfl)) (va_cons (wix K (o_units hr) (ve_var 0) ve_int) (va_cons ve_int (va_cons ve_int va_nil)))) (ve_boolOne (wcall K c_is_letters (hr.mono (by decide)) (passAt (takes_of rfl rfl rfl rfl)) (va_cons (wix K (o_units hr) (ve_var 0) ve_int) (va_cons ve_int (va_cons (ve_gInt T.g_MOST_PUT.choose_spec) va_nil)))))))))⟩
set_option maxHeartbeats 4000000 in
theorem ok_lasts {f : Addr} {fd : FuncData} (T : Txt K mg cm) (F : Fun K "lasts" "lasts" st_lasts f fd) (c_vanishing_by : Fn P w K mg base cm 1 "vanishing_by" 1 F_vanishing_by) : FnOk P w K mg base (L2.CX P w) 2 f fd ["rules", "text"] (spV cm K 2 F_lasts) :=
  fn_ok (k := 1) (N := N_lasts) B_lasts F sc_lasts (by decide) fun cdv A outer s H E hr => ⟨_,
  (vss_cons (vs_set 2 sc_lasts.nd (wcall K c_vanishing_by (hr.mono (by decide)) (passAt (takes_of rfl rfl rfl rfl)) (va_cons (ve_var 0) va_nil)))
  (vss_one (vs_ret (wcb K s_len call_len T.z_len (va_cons (ve_lc [("sign", 3)] rfl sc_lasts.nd (wany K (ve_var 1)) (fun _ _ _ _ _ => (vg_name 3 sc_lasts.nd)) (fun _ _ _ _ _ => (vts_one (wcmpT K s_notIn (o_notIn (o_units hr)) rfl (ve_var 3) (ve_var 2)))) (fun _ _ _ _ _ => (ve_var 3)) (ok := by kernel_rfl)) va_nil)))))⟩
set_option maxHeartbeats 4000000 in
theorem ok_reached {f : Addr} {fd : FuncData} (T : Txt K mg cm) (F : Fun K "reached" "reached" st_reached f fd) (c_round_of : Fn P w K mg base cm 1 "round_of" 2 F_round_of) : FnOk P w K mg base (L2.CX P w) 2 f fd ["text", "rules"] (spV cm K 2 F_reached) :=
  fn_ok (k := 1) (N := N_reached) B_reached F sc_reached (by decide) fun cdv A outer s H E hr => ⟨_,
  (vss_cons (vs_set 2 sc_reached.nd (ve_sortSetA (K := K) rfl T.z_sorted T.z_set (ve_var 0)))
  (vss_cons (vs_set 3 sc_reached.nd (ve_var 2))
  (vss_cons (vs_while 100 PassesOwn.leaving (wcmpT K s_ne (o_ne (o_units hr)) (nomark _) (ve_var 3) (ve_lst vd_nil))
    (vss_cons (vs_set 4 sc_reached.nd (wcall K c_round_of (hr.mono (by decide)) (passAt (takes_of rfl rfl rfl rfl)) (va_cons (ve_join K (ve_str []) (ve_var 3)) (va_cons (ve_var 1) va_nil))))
    (vss_cons (vs_set 3 sc_reached.nd (ve_sortSetA (K := K) rfl T.z_sorted T.z_set (ve_lc [("sign", 5)] rfl sc_reached.nd (wany K (ve_var 4)) (fun _ _ _ _ _ => (vg_name 5 sc_reached.nd)) (fun _ _ _ _ _ => (vts_one (wcmpT K s_notIn (o_notIn (o_units hr)) rfl (ve_var 5) (ve_var 2)))) (fun _ _ _ _ _ => (ve_var 5)) (ok := by kernel_rfl))))
    (vss_one (vs_set 2 sc_reached.nd (wcb K s_sorted (cr_sortedA rfl) T.z_sorted (va_cons (wop K s_plus o_add (ve_var 2) (ve_var 3)) va_nil)))))))
  (vss_one (vs_ret (ve_var 2))))))⟩
set_option maxHeartbeats 4000000 in
theorem ok_round_again {f : Addr} {fd : FuncData} (T : Txt K mg cm) (F : Fun K "round_again" "round_again" st_round_again f fd) (c_round_of : Fn P w K mg base cm 1 "round_of" 2 F_round_of) : FnOk P w K mg base (L2.CX P w) 2 f fd ["text", "rules"] (spV cm K 2 F_round_again) :=
  fn_ok (k := 1) (N := N_round_again) B_round_again F sc_round_again (by decide) fun cdv A outer s H E hr => ⟨_,
  (vss_cons (vs_set 2 sc_round_again.nd (ve_lst (vd_cons (ve_var 0) vd_nil)))
  (vss_one (vs_while 100 PassesOwn.leaving (vt_val ve_bl)
    (vss_cons (vs_set 0 sc_round_again.nd (wcall K c_round_of (hr.mono (by decide)) (passAt (takes_of rfl rfl rfl rfl)) (va_cons (ve_var 0) (va_cons (ve_var 1) va_nil))))
    (vss_cons (vs_if (wcmpT K s_in (o_in (o_units hr)) rfl (ve_var 0) (ve_var 2))
      (vss_one (vs_ret (ve_tup (vd_cons (ve_idxL (K := K) (ve_var 2) (ve_var 0)) (vd_cons (wop K s_sub op_sub (wcb K s_len call_len T.z_len (va_cons (ve_var 2) va_nil)) (ve_idxL (K := K) (ve_var 2) (ve_var 0))) vd_nil)))))
      vss_nil)
    (vss_one (vs_expr (wappK K 2 (ve_var 0)))))))))⟩
set_option maxHeartbeats 4000000 in
theorem ok__law_value {f : Addr} {fd : FuncData} (T : Txt K mg cm) (F : Fun K "_law_value" "_law_value" st__law_value f fd) (c__law_draw : Fn P w K mg base cm 1 "_law_draw" 3 F__law_draw) : FnOk P w K mg base (L2.CX P w) 2 f fd ["_law_cell", "_law_turn"] (spV cm K 2 F__law_value) :=
  fn_ok (k := 1) (N := N__law_value) B__law_value F sc__law_value (by decide) fun cdv A outer s H E hr => ⟨_,
  (vss_cons (vs_if (wcmpT K s_ge o_ge (nomark _) (ve_var 0) (wop K s_pow op_pow ve_int ve_int))
    (vss_one (vs_ret (wop K s_shr op_shr (wop K s_sub op_sub (ve_var 0) (wop K s_pow op_pow ve_int ve_int)) (wop K s_mul o_mul ve_int (ve_var 1)))))
    vss_nil)
  (vss_cons (vs_set 2 sc__law_value.nd (wcall K c__law_draw (hr.mono (by decide)) (passAt (takes_of rfl rfl rfl rfl)) (va_cons (wop K s_mul o_mul (wop K s_plus o_add (ve_var 0) (wop K s_mul o_mul ve_int (ve_var 1))) (wop K s_plus o_add (wop K s_plus o_add (ve_var 0) (wop K s_mul o_mul ve_int (ve_var 1))) ve_int)) (va_cons (wop K s_plus o_add (wop K s_mod op_mod (ve_var 1) ve_int) ve_int) (va_cons ve_int va_nil)))))
  (vss_one (vs_ret (wop K s_plus o_add (wop K s_mul o_mul (ve_var 2) ve_int) (wcall K c__law_draw (hr.mono (by decide)) (passAt (takes_of rfl rfl rfl rfl)) (va_cons (wop K s_plus o_add (wop K s_mul o_mul (wop K s_plus o_add (ve_var 0) (wop K s_mul o_mul ve_int (ve_var 1))) (wop K s_plus o_add (ve_var 0) ve_int)) (wop K s_mul o_mul ve_int (ve_var 1))) (va_cons (wop K s_plus o_add (wop K s_mod op_mod (ve_var 1) ve_int) ve_int) (va_cons ve_int va_nil)))))))))⟩
set_option maxHeartbeats 4000000 in
theorem ok_check_rules {f : Addr} {fd : FuncData} (T : Txt K mg cm) (F : Fun K "check_rules" "check_rules" st_check_rules f fd) (c_is_rule : Fn P w K mg base cm 2 "is_rule" 1 F_is_rule) : FnOk P w K mg base (L2.CX P w) 3 f fd ["rules"] (spV cm K 1 F_check_rules) :=
  fn_ok (k := 2) (N := N_check_rules) B_check_rules F sc_check_rules (by decide) fun cdv A outer s H E hr => ⟨_,
  (vss_cons (vs_if (VW.vt (vw_or (vt_not (vt_val (wcb K s_isi call_isi T.z_isinstance (va_cons (ve_var 0) (va_cons (ve_ty T.z_list) va_nil))))) (vw_or (wcmpT K s_gt op_gt (nomark _) (wcb K s_len call_len T.z_len (va_cons (ve_var 0) va_nil)) (ve_gInt T.g_MOST_RULES.choose_spec)) (vw_or1 (vt_not (vt_val (wcb K s_all (cr_all rfl) T.z_all (va_cons (ve_lc [("rule", 3)] rfl sc_check_rules.nd (wany K (ve_var 0)) (fun _ _ _ _ _ => (vg_name 3 sc_check_rules.nd)) (fun _ _ _ _ _ => vts_nil) (fun _ _ _ _ _ => (wcall K c_is_rule (hr.mono (by decide)) pass0At (va_cons (ve_var 3) va_nil))) (ok := by kernel_rfl)) va_nil))))))))
    (vss_one (vs_raise 4 rfl (takes_of rfl rfl rfl rfl) PySem.F.excBase_ValueError T.x_BadRules T.c_BadRules T.k_BadRules (raises_own T.b_BadRules T.t_BadRules)))
    vss_nil)
  (vss_one (vs_if (vt_val (wcb K s_any (cr_any rfl) T.z_any (va_cons (ve_lc [("one", 1), ("other", 2)] rfl sc_check_rules.nd (vi_zip K T.z_zip (ve_var 0) (wslice K (ve_var 0) (vo_some ve_int) vo_none)) (fun _ _ _ _ _ => (vg_tupK K rfl (vgs_cons (vg_name 1 sc_check_rules.nd) (vgs_cons (vg_name 2 sc_check_rules.nd) vgs_nil)))) (fun _ _ _ _ _ => vts_nil) (fun _ _ _ _ _ => (wcmp K s_ge o_ge (nomark _) (wix K (o_units hr) (ve_var 1) ve_int) (wix K (o_units hr) (ve_var 2) ve_int))) (ok := by kernel_rfl)) va_nil)))
    (vss_one (vs_raise 4 rfl (takes_of rfl rfl rfl rfl) PySem.F.excBase_ValueError T.x_BadRules T.c_BadRules T.k_BadRules (raises_own T.b_BadRules T.t_BadRules)))
    vss_nil)))⟩
set_option maxHeartbeats 4000000 in
theorem ok_makes_more {f : Addr} {fd : FuncData} (T : Txt K mg cm) (F : Fun K "makes_more" "makes_more" st_makes_more f fd) (c_round_of : Fn P w K mg base cm 1 "round_of" 2 F_round_of) (c_lasts : Fn P w K mg base cm 2 "lasts" 2 F_lasts) : FnOk P w K mg base (L2.CX P w) 3 f fd ["letter", "rules", "rounds"] (spV cm K 3 F_makes_more) :=
  fn_ok (k := 2) (N := N_makes_more) B_makes_more F sc_makes_more (by decide) fun cdv A outer s H E hr => ⟨_,
  (vss_cons (vs_set 3 sc_makes_more.nd (ve_var 0))
  (vss_cons (vs_for PassesOwn.leaving rfl (vi_range1 T.z_range (va_cons (ve_var 2) va_nil)) (vg_name 4 sc_makes_more.nd)
    (vss_one (vs_set 3 sc_makes_more.nd (wcall K c_round_of (hr.mono (by decide)) (passAt (takes_of rfl rfl rfl rfl)) (va_cons (ve_var 3) (va_cons (ve_var 1) va_nil))))))
  (vss_one (vs_ret (wandT K (wcmp K s_in (o_in (o_units hr)) rfl (ve_var 0) (ve_var 3)) (wandT K (wcmp K s_eq (o_eq (o_units hr)) (nomark _) (wcall K c_lasts (hr.mono (by decide)) (passAt (takes_of rfl rfl rfl rfl)) (va_cons (ve_var 1) (va_cons (ve_var 0) va_nil))) ve_int) (ve_boolOne (wcmp K s_gt op_gt (nomark _) (wcall K c_lasts (hr.mono (by decide)) (passAt (takes_of rfl rfl rfl rfl)) (va_cons (ve_var 1) (va_cons (ve_var 3) va_nil))) ve_int))))))))⟩
set_option maxHeartbeats 4000000 in
theorem ok__law_letter {f : Addr} {fd : FuncData} (T : Txt K mg cm) (F : Fun K "_law_letter" "_law_letter" st__law_letter f fd) (c__law_value : Fn P w K mg base cm 2 "_law_value" 2 F__law_value) (c__law_cell_at : Fn P w K mg base cm 1 "_law_cell_at" 2 F__law_cell_at) : FnOk P w K mg base (L2.CX P w) 3 f fd ["_law_script", "_law_by", "_law_number"] (spV cm K 3 F__law_letter) :=
  fn_ok (k := 2) (N := N__law_letter) B__law_letter F sc__law_letter (by decide) fun cdv A outer s H E hr => ⟨_,
  (vss_cons (vs_set 3 sc__law_letter.nd (wcall K c__law_value (hr.mono (by decide)) (passAt (takes_of rfl rfl rfl rfl)) (va_cons (wcall K c__law_cell_at (hr.mono (by decide)) (passAt (takes_of rfl rfl rfl rfl)) (va_cons (ve_var 0) (va_cons (ve_var 1) va_nil))) (va_cons ve_int va_nil))))
  (vss_cons (vs_set 4 sc__law_letter.nd (wix K (o_units hr) (ve_tup (vd_cons ve_int (vd_cons ve_int (vd_cons ve_int (vd_cons ve_int vd_nil))))) (wop K s_mod op_mod (ve_var 3) ve_int)))
  (vss_cons (vs_set 5 sc__law_letter.nd (wop K s_plus o_add (wop K s_mul o_mul (wop K s_mod op_mod (ve_var 2) (ve_var 4)) (wop K s_plus o_add ve_int (wop K s_mod op_mod (wop K s_fdiv op_fdiv (ve_var 3) ve_int) ve_int))) (wop K s_fdiv op_fdiv (ve_var 3) ve_int)))
  (vss_one (vs_ret (wix K (o_units hr) (ve_str [97, 98, 99, 100, 101, 102, 103, 104, 105, 106, 107, 108, 109, 110, 111, 112, 113, 114, 115, 116, 117, 118, 119, 120, 121, 122]) (wop K s_mod op_mod (ve_var 5) ve_int)))))))⟩
set_option maxHeartbeats 4000000 in
theorem ok_growing {f : Addr} {fd : FuncData} (T : Txt K mg cm) (F : Fun K "growing" "growing" st_growing f fd) (c_reached : Fn P w K mg base cm 2 "reached" 2 F_reached) (c_makes_more : Fn P w K mg base cm 3 "makes_more" 3 F_makes_more) : FnOk P w K mg base (L2.CX P w) 4 f fd ["text", "rules"] (spV cm K 2 F_growing) :=
  fn_ok (k := 3) (N := N_growing) B_growing F sc_growing (by decide) fun cdv A outer s H E hr => ⟨_,
  (vss_cons (vs_for PassesOwn.leaving rfl (wany K (wcall K c_reached (hr.mono (by decide)) (passAt (takes_of rfl rfl rfl rfl)) (va_cons (ve_var 0) (va_cons (ve_var 1) va_nil)))) (vg_name 2 sc_growing.nd)
    (vss_one (vs_for PassesOwn.leaving rfl (vi_range2 T.z_range (va_cons ve_int (va_cons (wop K s_plus o_add (ve_gInt T.g_MOST_RULES.choose_spec) ve_int) va_nil))) (vg_name 3 sc_growing.nd)
      (vss_one (vs_if (VW.vt (vw_and (wcmpT K s_in (o_in (o_units hr)) rfl (ve_var 2) (ve_lc [("rule", 4)] rfl sc_growing.nd (wany K (ve_var 1)) (fun _ _ _ _ _ => (vg_name 4 sc_growing.nd)) (fun _ _ _ _ _ => vts_nil) (fun _ _ _ _ _ => (wix K (o_units hr) (ve_var 4) ve_int)) (ok := by kernel_rfl))) (vw_and1 (vt_val (wcall K c_makes_more (hr.mono (by decide)) (passAt (takes_of rfl rfl rfl rfl)) (va_cons (ve_var 2) (va_cons (ve_var 1) (va_cons (ve_var 3) va_nil))))))))
        (vss_one (vs_ret (ve_tup (vd_cons (ve_var 2) (vd_cons (ve_var 3) vd_nil)))))
        vss_nil)))))
  (vss_one (vs_ret ve_non)))⟩
set_option maxHeartbeats 4000000 in
theorem ok_check_far {f : Addr} {fd : FuncData} (T : Txt K mg cm) (F : Fun K "check_far" "check_far" st_check_far f fd) (c_check_text : Fn P w K mg base cm 2 "check_text" 2 F_check_text) (c_check_rules : Fn P w K mg base cm 3 "check_rules" 1 F_check_rules) (c_is_whole : Fn P w K mg base cm 1 "is_whole" 1 F_is_whole) : FnOk P w K mg base (L2.CX P w) 4 f fd ["text", "rules", "many"] (spV cm K 3 F_check_far) :=
  fn_ok (k := 3) (N := N_check_far) B_check_far F sc_check_far (by decide) fun cdv A outer s H E hr => ⟨_,
  (vss_cons (vs_expr (wcall K c_check_text (hr.mono (by decide)) (passAt (takes_of rfl rfl rfl rfl)) (va_cons (ve_var 0) (va_cons (ve_gInt T.g_LONGEST.choose_spec) va_nil))))
  (vss_cons (vs_expr (wcall K c_check_rules (hr.mono (by decide)) (passAt (takes_of rfl rfl rfl rfl)) (va_cons (ve_var 1) va_nil)))
  (vss_one (vs_if (VW.vt (vw_or (vt_not (vt_val (wcall K c_is_whole (hr.mono (by decide)) (passAt (takes_of rfl rfl rfl rfl)) (va_cons (ve_var 2) va_nil)))) (vw_or1 (vt_not (wchainT K s_le s_le op_le op_le ve_int (ve_var 2) (ve_gInt T.g_MOST_ROUNDS.choose_spec))))))
    (vss_one (vs_raise 5 rfl (takes_of rfl rfl rfl rfl) PySem.F.excBase_ValueError T.x_BadMany T.c_BadMany T.k_BadMany (raises_own T.b_BadMany T.t_BadMany)))
    vss_nil))))⟩
set_option maxHeartbeats 4000000 in
theorem ok_gone_round {f : Addr} {fd : FuncData} (T : Txt K mg cm) (F : Fun K "gone_round" "gone_round" st_gone_round f fd) (c_check_text : Fn P w K mg base cm 2 "check_text" 2 F_check_text) (c_check_rules : Fn P w K mg base cm 3 "check_rules" 1 F_check_rules) (c_round_of : Fn P w K mg base cm 1 "round_of" 2 F_round_of) : FnOk P w K mg base (L2.CX P w) 4 f fd ["text", "rules"] (spV cm K 2 F_gone_round) :=
  fn_ok (k := 3) (N := N_gone_round) B_gone_round F sc_gone_round (by decide) fun cdv A outer s H E hr => ⟨_,
  (vss_cons (vs_expr (wcall K c_check_text (hr.mono (by decide)) (passAt (takes_of rfl rfl rfl rfl)) (va_cons (ve_var 0) (va_cons (ve_gInt T.g_LONGEST.choose_spec) va_nil))))
  (vss_cons (vs_expr (wcall K c_check_rules (hr.mono (by decide)) (passAt (takes_of rfl rfl rfl rfl)) (va_cons (ve_var 1) va_nil)))
  (vss_one (vs_ret (wcall K c_round_of (hr.mono (by decide)) (passAt (takes_of rfl rfl rfl rfl)) (va_cons (ve_var 0) (va_cons (ve_var 1) va_nil)))))))⟩
set_option maxHeartbeats 4000000 in
theorem ok__law_text {f : Addr} {fd : FuncData} (T : Txt K mg cm) (F : Fun K "_law_text" "_law_text" st__law_text f fd) (c__law_cell_at : Fn P w K mg base cm 1 "_law_cell_at" 2 F__law_cell_at) (c__law_value : Fn P w K mg base cm 2 "_law_value" 2 F__law_value) (c__law_letter : Fn P w K mg base cm 3 "_law_letter" 3 F__law_letter) : FnOk P w K mg base (L2.CX P w) 4 f fd ["_law_script", "_law_by", "_law_most", "_law_turn"] (spV cm K 4 F__law_text) :=
  fn_ok (k := 3) (N := N__law_text) B__law_text F sc__law_text (by decide) fun cdv A outer s H E hr => ⟨_,
  (vss_cons (vs_par2 4 5 rfl sc__law_text.nd (vp_cons (ve_str []) (vp_cons (wcall K c__law_cell_at (hr.mono (by decide)) (passAt (takes_of rfl rfl rfl rfl)) (va_cons (ve_var 0) (va_cons (ve_var 1) va_nil))) vp_nil)))
  (vss_cons (vs_for PassesOwn.leaving rfl (vi_range1 T.z_range (va_cons (wop K s_mod op_mod (wcall K c__law_value (hr.mono (by decide)) (passAt (takes_of rfl rfl rfl rfl)) (va_cons (ve_var 5) (va_cons (ve_var 3) va_nil))) (wop K s_plus o_add (ve_var 2) ve_int)) va_nil)) (vg_name 6 sc__law_text.nd)
    (vss_cons (vs_set 7 sc__law_text.nd (wop K s_fdiv op_fdiv (wcall K c__law_value (hr.mono (by decide)) (passAt (takes_of rfl rfl rfl rfl)) (va_cons (wop K s_plus o_add (wcall K c__law_cell_at (hr.mono (by decide)) (passAt (takes_of rfl rfl rfl rfl)) (va_cons (ve_var 0) (va_cons (wop K s_plus o_add (ve_var 1) (wop K s_mod op_mod (ve_var 6) ve_int)) va_nil))) (wop K s_mul o_mul ve_int (ve_var 6))) (va_cons (wop K s_mod op_mod (wop K s_plus o_add (ve_var 3) (ve_var 6)) ve_int) va_nil))) ve_int))
    (vss_one (vs_set 4 sc__law_text.nd (wop K s_plus o_add (ve_var 4) (wcall K c__law_letter (hr.mono (by decide)) (passAt (takes_of rfl rfl rfl rfl)) (va_cons (ve_var 0) (va_cons (ve_var 1) (va_cons (ve_var 7) va_nil)))))))))
  (vss_one (vs_ret (ve_var 4)))))⟩
set_option maxHeartbeats 4000000 in
theorem ok__law_rules {f : Addr} {fd : FuncData} (T : Txt K mg cm) (F : Fun K "_law_rules" "_law_rules" st__law_rules f fd) (c__law_value : Fn P w K mg base cm 2 "_law_value" 2 F__law_value) (c__law_cell_at : Fn P w K mg base cm 1 "_law_cell_at" 2 F__law_cell_at) (c__law_letter : Fn P w K mg base cm 3 "_law_letter" 3 F__law_letter) : FnOk P w K mg base (L2.CX P w) 4 f fd ["_law_script", "_law_by"] (spV cm K 2 F__law_rules) :=
  fn_ok (k := 3) (N := N__law_rules) B__law_rules F sc__law_rules (by decide) fun cdv A outer s H E hr => ⟨_,
  (vss_cons (vs_asgT rfl (vns_cons 2 sc__law_rules.nd (vns_cons 3 sc__law_rules.nd vns_nil)) (vp_cons ve_dnew (vp_cons (wcall K c__law_value (hr.mono (by decide)) (passAt (takes_of rfl rfl rfl rfl)) (va_cons (wcall K c__law_cell_at (hr.mono (by decide)) (passAt (takes_of rfl rfl rfl rfl)) (va_cons (ve_var 0) (va_cons (ve_var 1) va_nil))) (va_cons ve_int va_nil))) vp_nil)))
  (vss_cons (vs_for PassesOwn.leaving rfl (vi_range1 T.z_range (va_cons (wop K s_mod op_mod (ve_var 3) ve_int) va_nil)) (vg_name 4 sc__law_rules.nd)
    (vss_cons (vs_set 5 sc__law_rules.nd (wop K s_fdiv op_fdiv (wcall K c__law_value (hr.mono (by decide)) (passAt (takes_of rfl rfl rfl rfl)) (va_cons (wop K s_plus o_add (wcall K c__law_cell_at (hr.mono (by decide)) (passAt (takes_of rfl rfl rfl rfl)) (va_cons (ve_var 0) (va_cons (wop K s_plus o_add (ve_var 1) (wop K s_mod op_mod (ve_var 4) ve_int)) va_nil))) (wop K s_mul o_mul ve_int (ve_var 4))) (va_cons ve_int va_nil))) ve_int))
    (vss_cons (vs_set 6 sc__law_rules.nd (ve_str []))
    (vss_cons (vs_for PassesOwn.leaving rfl (vi_range1 T.z_range (va_cons (wop K s_mod op_mod (wop K s_fdiv op_fdiv (ve_var 5) ve_int) (wix K (o_units hr) (ve_tup (vd_cons ve_int (vd_cons ve_int (vd_cons ve_int vd_nil)))) (wop K s_mod op_mod (wop K s_fdiv op_fdiv (ve_var 3) ve_int) ve_int))) va_nil)) (vg_name 7 sc__law_rules.nd)
      (vss_one (vs_set 6 sc__law_rules.nd (wop K s_plus o_add (ve_var 6) (wcall K c__law_letter (hr.mono (by decide)) (passAt (takes_of rfl rfl rfl rfl)) (va_cons (ve_var 0) (va_cons (ve_var 1) (va_cons (wop K s_fdiv op_fdiv (ve_var 5) (wop K s_mul o_mul ve_int (wop K s_plus o_add (wop K s_mul o_mul ve_int (ve_var 7)) ve_int))) va_nil))))))))
    (vss_one (wsetK K 2 (o_units hr) (ve_var 6) (wcall K c__law_letter (hr.mono (by decide)) (passAt (takes_of rfl rfl rfl rfl)) (va_cons (ve_var 0) (va_cons (ve_var 1) (va_cons (ve_var 5) va_nil))))))))))
  (vss_one (vs_ret (wcb K s_sorted (cr_sortedA rfl) T.z_sorted (va_cons (ve_pairs K 2 8 rfl sc__law_rules.nd (o_units hr) (by decide) (show 8 < (N__law_rules).length by decide) (by kernel_rfl) (hg := fun _ _ _ _ _ => (vg_name (cm := cm) 8 sc__law_rules.nd).pe) (he := fun _ _ _ _ _ => pe_tup (pa_cons (pv 8) (pa_cons (pe_dget (room_1 (o_units hr)) (pv 2) (pv 8) (fun _ _ => rfl)) pa_nil)))) va_nil))))))⟩
set_option maxHeartbeats 4000000 in
theorem ok_Grows_shows {f : Addr} {fd : FuncData} (T : Txt K mg cm) (F : Fun K "shows" "Grows.shows" st_Grows_shows f fd) (c_reached : Fn P w K mg base cm 2 "reached" 2 F_reached) (c_makes_more : Fn P w K mg base cm 3 "makes_more" 3 F_makes_more) : FnOk P w K mg base (L2.CX P w) 4 f fd ["self", "text", "rules"] (spV cm K 3 F_Grows_shows) :=
  fn_ok (k := 3) (N := N_Grows_shows) B_Grows_shows F sc_Grows_shows (by decide) fun cdv A outer s H E hr => ⟨_,
  (vss_cons (vs_if (VW.vt (vw_or (vt_not (wchainT K s_le s_le op_le op_le ve_int (ve_fld (K := K) (List.forall_mem_cons.mpr ⟨⟨T.ob_Grows.1, T.ob_Grows.2.2⟩, (fun _ h => nomatch h)⟩) (ve_var 0)) (ve_gInt T.g_MOST_RULES.choose_spec))) (vw_or1 (wcmpT K s_notIn (o_notIn (o_units hr)) rfl (ve_fld (K := K) (List.forall_mem_cons.mpr ⟨⟨T.ob_Grows.1, T.ob_Grows.2.1⟩, (fun _ h => nomatch h)⟩) (ve_var 0)) (wcall K c_reached (hr.mono (by decide)) (passAt (takes_of rfl rfl rfl rfl)) (va_cons (ve_var 1) (va_cons (ve_var 2) va_nil)))))))
    (vss_one (vs_ret ve_bl))
    vss_nil)
  (vss_one (vs_ret (wcall K c_makes_more (hr.mono (by decide)) (passAt (takes_of rfl rfl rfl rfl)) (va_cons (ve_fld (K := K) (List.forall_mem_cons.mpr ⟨⟨T.ob_Grows.1, T.ob_Grows.2.1⟩, (fun _ h => nomatch h)⟩) (ve_var 0)) (va_cons (ve_var 2) (va_cons (ve_fld (K := K) (List.forall_mem_cons.mpr ⟨⟨T.ob_Grows.1, T.ob_Grows.2.2⟩, (fun _ h => nomatch h)⟩) (ve_var 0)) va_nil)))))))⟩
set_option maxHeartbeats 4000000 in
theorem ok_long_behind {f : Addr} {fd : FuncData} (T : Txt K mg cm) (F : Fun K "long_behind" "long_behind" st_long_behind f fd) (c_check_far : Fn P w K mg base cm 4 "check_far" 3 F_check_far) (c_sizes_of : Fn P w K mg base cm 1 "sizes_of" 2 F_sizes_of) : FnOk P w K mg base (L2.CX P w) 5 f fd ["text", "rules", "many"] (spV cm K 3 F_long_behind) :=
  fn_ok (k := 4) (N := N_long_behind) B_long_behind F sc_long_behind (by decide) fun cdv A outer s H E hr => ⟨_,
  (vss_cons (vs_expr (wcall K c_check_far (hr.mono (by decide)) (passAt (takes_of rfl rfl rfl rfl)) (va_cons (ve_var 0) (va_cons (ve_var 1) (va_cons (ve_var 2) va_nil)))))
  (vss_cons (vs_set 3 sc_long_behind.nd (wix K (o_units hr) (wcall K c_sizes_of (hr.mono (by decide)) (passAt (takes_of rfl rfl rfl rfl)) (va_cons (ve_var 1) (va_cons (ve_var 2) va_nil))) (ve_var 2)))
  (vss_one (vs_ret (wcb K s_sum (cr_sum rfl) T.z_sum (va_cons (ve_lc [("sign", 4)] rfl sc_long_behind.nd (wany K (ve_var 0)) (fun _ _ _ _ _ => (vg_name 4 sc_long_behind.nd)) (fun _ _ _ _ _ => vts_nil) (fun _ _ _ _ _ => (wix K (o_units hr) (ve_var 3) (ve_var 4))) (ok := by kernel_rfl)) va_nil))))))⟩
set_option maxHeartbeats 4000000 in
theorem ok_letter_at {f : Addr} {fd : FuncData} (T : Txt K mg cm) (F : Fun K "letter_at" "letter_at" st_letter_at f fd) (c_check_far : Fn P w K mg base cm 4 "check_far" 3 F_check_far) (c_is_whole : Fn P w K mg base cm 1 "is_whole" 1 F_is_whole) (c_sizes_of : Fn P w K mg base cm 1 "sizes_of" 2 F_sizes_of) : FnOk P w K mg base (L2.CX P w) 5 f fd ["text", "rules", "many", "place"] (spV cm K 4 F_letter_at) :=
  fn_ok (k := 4) (N := N_letter_at) B_letter_at F sc_letter_at (by decide) fun cdv A outer s H E hr => ⟨_,
  (vss_cons (vs_expr (wcall K c_check_far (hr.mono (by decide)) (passAt (takes_of rfl rfl rfl rfl)) (va_cons (ve_var 0) (va_cons (ve_var 1) (va_cons (ve_var 2) va_nil)))))
  (vss_cons (vs_if (VW.vt (vw_or (vt_not (vt_val (wcall K c_is_whole (hr.mono (by decide)) (passAt (takes_of rfl rfl rfl rfl)) (va_cons (ve_var 3) va_nil)))) (vw_or1 (wcmpT K s_lt op_lt (nomark _) (ve_var 3) ve_int))))
    (vss_one (vs_raise 3 rfl (takes_of rfl rfl rfl rfl) PySem.F.excBase_ValueError T.x_BadPlace T.c_BadPlace T.k_BadPlace (raises_own T.b_BadPlace T.t_BadPlace)))
    vss_nil)
  (vss_cons (vs_par3 4 5 6 rfl sc_letter_at.nd (vp_cons (wct K s_dict (cd_dict rfl) T.z_dict (va_cons (ve_var 1) va_nil)) (vp_cons (wcall K c_sizes_of (hr.mono (by decide)) (passAt (takes_of rfl rfl rfl rfl)) (va_cons (ve_var 1) (va_cons (ve_var 2) va_nil))) (vp_cons (ve_var 3) vp_nil))))
  (vss_cons (vs_for PassesOwn.leaving rfl (vi_range3 T.z_range (va_cons (ve_var 2) (va_cons (ve_neg ve_int) (va_cons (ve_neg ve_int) va_nil)))) (vg_name 7 sc_letter_at.nd)
    (vss_cons (vs_set 8 sc_letter_at.nd ve_non)
    (vss_cons (vs_for PassesOwn.leaving rfl (wany K (ve_var 0)) (vg_name 9 sc_letter_at.nd)
      (vss_one (vs_if (VW.vt (vw_and (wcmpT K s_isN o_isN (nomark _) (ve_var 8) ve_non) (vw_and1 (wcmpT K s_lt op_lt (nomark _) (ve_var 6) (wix K (o_units hr) (wix K (o_units hr) (ve_var 5) (ve_var 7)) (ve_var 9))))))
        (vss_one (vs_set 8 sc_letter_at.nd (ve_var 9)))
        (vss_one (vs_if (wcmpT K s_isN o_isN (nomark _) (ve_var 8) ve_non)
          (vss_one (vs_aug 6 sc_letter_at.nd ip_sub (wix K (o_units hr) (wix K (o_units hr) (ve_var 5) (ve_var 7)) (ve_var 9))))
          vss_nil)))))
    (vss_cons (vs_if (VW.vt (vw_or (wcmpT K s_isN o_isN (nomark _) (ve_var 8) ve_non) (vw_or1 (wcmpT K s_eq (o_eq (o_units hr)) (nomark _) (ve_var 7) ve_int))))
      (vss_one (vs_ret (ve_var 8)))
      vss_nil)
    (vss_one (vs_set 0 sc_letter_at.nd (ve_get2 (o_units hr) (ve_var 4) (ve_var 8) (ve_var 8))))))))
  (vss_one (vs_ret ve_non))))))⟩
set_option maxHeartbeats 4000000 in
theorem ok_judged {f : Addr} {fd : FuncData} (T : Txt K mg cm) (F : Fun K "judged" "judged" st_judged f fd) (c_check_text : Fn P w K mg base cm 2 "check_text" 2 F_check_text) (c_check_rules : Fn P w K mg base cm 3 "check_rules" 1 F_check_rules) (c_growing : Fn P w K mg base cm 4 "growing" 2 F_growing) (c_Grows : Kls P w K mg base cm 1 8 "Grows" ["letter", "rounds"]) (c_round_again : Fn P w K mg base cm 2 "round_again" 2 F_round_again) (c_Round : Kls P w K mg base cm 1 7 "Round" ["first", "many"]) : FnOk P w K mg base (L2.CX P w) 5 f fd ["text", "rules"] (spV cm K 2 F_judged) :=
  fn_ok (k := 4) (N := N_judged) B_judged F sc_judged (by decide) fun cdv A outer s H E hr => ⟨_,
  (vss_cons (vs_expr (wcall K c_check_text (hr.mono (by decide)) (passAt (takes_of rfl rfl rfl rfl)) (va_cons (ve_var 0) (va_cons (ve_gInt T.g_LONGEST.choose_spec) va_nil))))
  (vss_cons (vs_expr (wcall K c_check_rules (hr.mono (by decide)) (passAt (takes_of rfl rfl rfl rfl)) (va_cons (ve_var 1) va_nil)))
  (vss_cons (vs_set 2 sc_judged.nd (wcall K c_growing (hr.mono (by decide)) (passAt (takes_of rfl rfl rfl rfl)) (va_cons (ve_var 0) (va_cons (ve_var 1) va_nil))))
  (vss_cons (vs_if (wcmpT K s_notN o_notN (nomark _) (ve_var 2) ve_non)
    (vss_one (vs_ret (ve_mk (K := K) c_Grows (hr.mono (by decide)) (vd_cons (wix K (o_units hr) (ve_var 2) ve_int) (vd_cons (wix K (o_units hr) (ve_var 2) ve_int) vd_nil)))))
    vss_nil)
  (vss_cons (vs_unp (wcall K c_round_again (hr.mono (by decide)) (passAt (takes_of rfl rfl rfl rfl)) (va_cons (ve_var 0) (va_cons (ve_var 1) va_nil))) (vg_tupK K rfl (vgs_cons (vg_name 3 sc_judged.nd) (vgs_cons (vg_name 4 sc_judged.nd) vgs_nil))))
  (vss_one (vs_ret (ve_mk (K := K) c_Round (hr.mono (by decide)) (vd_cons (ve_var 3) (vd_cons (ve_var 4) vd_nil))))))))))⟩
set_option maxHeartbeats 4000000 in
theorem ok_Round_shows {f : Addr} {fd : FuncData} (T : Txt K mg cm) (F : Fun K "shows" "Round.shows" st_Round_shows f fd) (c_growing : Fn P w K mg base cm 4 "growing" 2 F_growing) (c_round_again : Fn P w K mg base cm 2 "round_again" 2 F_round_again) : FnOk P w K mg base (L2.CX P w) 5 f fd ["self", "text", "rules"] (spV cm K 3 F_Round_shows) :=
  fn_ok (k := 4) (N := N_Round_shows) B_Round_shows F sc_Round_shows (by decide) fun cdv A outer s H E hr => ⟨_,
  (vss_one (vs_ret (wandT K (wcmp K s_isN o_isN (nomark _) (wcall K c_growing (hr.mono (by decide)) (passAt (takes_of rfl rfl rfl rfl)) (va_cons (ve_var 1) (va_cons (ve_var 2) va_nil))) ve_non) (ve_boolOne (wcmp K s_eq (o_eq (o_units hr)) (nomark _) (wcall K c_round_again (hr.mono (by decide)) (passAt (takes_of rfl rfl rfl rfl)) (va_cons (ve_var 1) (va_cons (ve_var 2) va_nil))) (ve_tup (vd_cons (ve_fld (K := K) (List.forall_mem_cons.mpr ⟨⟨T.ob_Round.1, T.ob_Round.2.1⟩, (fun _ h => nomatch h)⟩) (ve_var 0)) (vd_cons (ve_fld (K := K) (List.forall_mem_cons.mpr ⟨⟨T.ob_Round.1, T.ob_Round.2.2⟩, (fun _ h => nomatch h)⟩) (ve_var 0)) vd_nil))))))))⟩
set_option maxHeartbeats 4000000 in
theorem ok_law {f : Addr} {fd : FuncData} (T : Txt K mg cm) (F : Fun K "law" "law" st_law f fd) (c__law_text : Fn P w K mg base cm 4 "_law_text" 4 F__law_text) (c__law_rules : Fn P w K mg base cm 4 "_law_rules" 2 F__law_rules) (c__law_value : Fn P w K mg base cm 2 "_law_value" 2 F__law_value) (c__law_cell_at : Fn P w K mg base cm 1 "_law_cell_at" 2 F__law_cell_at) (c_gone_round : Fn P w K mg base cm 4 "gone_round" 2 F_gone_round) (c_long_behind : Fn P w K mg base cm 5 "long_behind" 3 F_long_behind) (c_letter_at : Fn P w K mg base cm 5 "letter_at" 4 F_letter_at) (c_judged : Fn P w K mg base cm 5 "judged" 2 F_judged) : FnOk P w K mg base (L2.CX P w) 6 f fd ["_law_script"] (spV cm K 1 F_law) :=
  fn_ok (k := 5) (N := N_law) B_law F sc_law (by decide) fun cdv A outer s H E hr => ⟨_,
  (vss_cons (vs_set 0 sc_law.nd (wslice K (ve_var 0) vo_none (vo_some ve_int)))
  (vss_cons (vs_for PassesOwn.leaving rfl (vi_range3 T.z_range (va_cons ve_int (va_cons (wcb K s_max2 (call_max2 rfl) T.z_max (va_cons ve_int (va_cons (wcb K s_min2 (call_min2 rfl) T.z_min (va_cons ve_int (va_cons (wcb K s_len call_len T.z_len (va_cons (ve_var 0) va_nil)) va_nil))) va_nil))) (va_cons ve_int va_nil)))) (vg_name 1 sc_law.nd)
    (vss_cons (vs_par3 2 3 4 rfl sc_law.nd (vp_cons (wcall K c__law_text (hr.mono (by decide)) (passAt (takes_of rfl rfl rfl rfl)) (va_cons (ve_var 0) (va_cons (ve_var 1) (va_cons ve_int (va_cons ve_int va_nil))))) (vp_cons (wcall K c__law_text (hr.mono (by decide)) (passAt (takes_of rfl rfl rfl rfl)) (va_cons (ve_var 0) (va_cons (wop K s_plus o_add (ve_var 1) ve_int) (va_cons ve_int (va_cons ve_int va_nil))))) (vp_cons (wcall K c__law_rules (hr.mono (by decide)) (passAt (takes_of rfl rfl rfl rfl)) (va_cons (ve_var 0) (va_cons (ve_var 1) va_nil))) vp_nil))))
    (vss_cons (vs_set 5 sc_law.nd (wcall K c__law_value (hr.mono (by decide)) (passAt (takes_of rfl rfl rfl rfl)) (va_cons (wcall K c__law_cell_at (hr.mono (by decide)) (passAt (takes_of rfl rfl rfl rfl)) (va_cons (ve_var 0) (va_cons (ve_var 1) va_nil))) (va_cons ve_int va_nil))))
    (vss_cons (vs_set 6 sc_law.nd (wop K s_mod op_mod (ve_var 5) ve_int))
    (vss_cons (vs_if (wcmpT K s_ne (o_ne (o_units hr)) (nomark _) (wcall K c_gone_round (hr.mono (by decide)) (passAt (takes_of rfl rfl rfl rfl)) (va_cons (wop K s_plus o_add (ve_var 2) (ve_var 3)) (va_cons (ve_var 4) va_nil))) (wop K s_plus o_add (wcall K c_gone_round (hr.mono (by decide)) (passAt (takes_of rfl rfl rfl rfl)) (va_cons (ve_var 2) (va_cons (ve_var 4) va_nil))) (wcall K c_gone_round (hr.mono (by decide)) (passAt (takes_of rfl rfl rfl rfl)) (va_cons (ve_var 3) (va_cons (ve_var 4) va_nil)))))
      (vss_one (vs_ret ve_bl))
      vss_nil)
    (vss_cons (vs_par2 7 8 rfl sc_law.nd (vp_cons (wcall K c_long_behind (hr.mono (by decide)) (passAt (takes_of rfl rfl rfl rfl)) (va_cons (ve_var 2) (va_cons (ve_var 4) (va_cons (ve_var 6) va_nil)))) (vp_cons (wcall K c_long_behind (hr.mono (by decide)) (passAt (takes_of rfl rfl rfl rfl)) (va_cons (wop K s_plus o_add (ve_var 2) (ve_var 3)) (va_cons (ve_var 4) (va_cons (ve_var 6) va_nil)))) vp_nil)))
    (vss_cons (vs_if (wcmpT K s_ne (o_ne (o_units hr)) (nomark _) (ve_var 8) (wop K s_plus o_add (ve_var 7) (wcall K c_long_behind (hr.mono (by decide)) (passAt (takes_of rfl rfl rfl rfl)) (va_cons (ve_var 3) (va_cons (ve_var 4) (va_cons (ve_var 6) va_nil))))))
      (vss_one (vs_ret ve_bl))
      vss_nil)
    (vss_cons (vs_set 9 sc_law.nd (wop K s_mod op_mod (wop K s_fdiv op_fdiv (ve_var 5) ve_int) (wop K s_plus o_add (ve_var 8) ve_int)))
    (vss_cons (vs_set 10 sc_law.nd (wcall K c_letter_at (hr.mono (by decide)) (passAt (takes_of rfl rfl rfl rfl)) (va_cons (ve_var 2) (va_cons (ve_var 4) (va_cons (ve_var 6) (va_cons (ve_var 9) va_nil))))))
    (vss_cons (vs_if (wcmpT K s_ge o_ge (nomark _) (ve_var 9) (ve_var 7))
      (vss_one (vs_set 10 sc_law.nd (wcall K c_letter_at (hr.mono (by decide)) (passAt (takes_of rfl rfl rfl rfl)) (va_cons (ve_var 3) (va_cons (ve_var 4) (va_cons (ve_var 6) (va_cons (wop K s_sub op_sub (ve_var 9) (ve_var 7)) va_nil)))))))
      vss_nil)
    (vss_cons (vs_if (wcmpT K s_ne (o_ne (o_units hr)) (nomark _) (wcall K c_letter_at (hr.mono (by decide)) (passAt (takes_of rfl rfl rfl rfl)) (va_cons (wop K s_plus o_add (ve_var 2) (ve_var 3)) (va_cons (ve_var 4) (va_cons (ve_var 6) (va_cons (ve_var 9) va_nil))))) (ve_var 10))
      (vss_one (vs_ret ve_bl))
      vss_nil)
    (vss_cons (vs_set 11 sc_law.nd (wcall K c_gone_round (hr.mono (by decide)) (passAt (takes_of rfl rfl rfl rfl)) (va_cons (ve_var 2) (va_cons (ve_var 4) va_nil))))
    (vss_cons (vs_if (VW.vt (vw_and (wcmpT K s_le op_le (nomark _) (wcb K s_len call_len T.z_len (va_cons (ve_var 11) va_nil)) ve_int) (vw_and1 (wcmpT K s_lt op_lt (nomark _) (ve_var 6) ve_int))))
      (vss_cons (vs_if (wcmpT K s_ne (o_ne (o_units hr)) (nomark _) (wcall K c_long_behind (hr.mono (by decide)) (passAt (takes_of rfl rfl rfl rfl)) (va_cons (ve_var 11) (va_cons (ve_var 4) (va_cons (ve_var 6) va_nil)))) (wcall K c_long_behind (hr.mono (by decide)) (passAt (takes_of rfl rfl rfl rfl)) (va_cons (ve_var 2) (va_cons (ve_var 4) (va_cons (wop K s_plus o_add (ve_var 6) ve_int) va_nil)))))
        (vss_one (vs_ret ve_bl))
        vss_nil)
      (vss_one (vs_if (wcmpT K s_ne (o_ne (o_units hr)) (nomark _) (wcall K c_letter_at (hr.mono (by decide)) (passAt (takes_of rfl rfl rfl rfl)) (va_cons (ve_var 11) (va_cons (ve_var 4) (va_cons (ve_var 6) (va_cons (ve_var 9) va_nil))))) (wcall K c_letter_at (hr.mono (by decide)) (passAt (takes_of rfl rfl rfl rfl)) (va_cons (ve_var 2) (va_cons (ve_var 4) (va_cons (wop K s_plus o_add (ve_var 6) ve_int) (va_cons (ve_var 9) va_nil))))))
        (vss_one (vs_ret ve_bl))
        vss_nil)))
      vss_nil)
    (vss_cons (vs_set 12 sc_law.nd (wcall K c_judged (hr.mono (by decide)) (passAt (takes_of rfl rfl rfl rfl)) (va_cons (ve_var 2) (va_cons (ve_var 4) va_nil))))
    (vss_one (vs_if (VW.vt (vw_and (vt_val (wcb K (s_isO T.objs (kit_of T.osubs)) call_isi T.z_isinstance (va_cons (ve_var 12) (va_cons (ve_cls T.c_Round) va_nil)))) (vw_and1 (wcmpT K s_le op_le (nomark _) (wop K s_plus o_add (ve_fld (K := K) (List.forall_mem_cons.mpr ⟨⟨T.ob_Round.1, T.ob_Round.2.1⟩, (fun _ h => nomatch h)⟩) (ve_var 12)) (ve_fld (K := K) (List.forall_mem_cons.mpr ⟨⟨T.ob_Round.1, T.ob_Round.2.2⟩, (fun _ h => nomatch h)⟩) (ve_var 12))) ve_int))))
      (vss_cons (vs_if (wcmpT K s_ne (o_ne (o_units hr)) (nomark _) (wcall K c_long_behind (hr.mono (by decide)) (passAt (takes_of rfl rfl rfl rfl)) (va_cons (ve_var 2) (va_cons (ve_var 4) (va_cons (ve_fld (K := K) (List.forall_mem_cons.mpr ⟨⟨T.ob_Round.1, T.ob_Round.2.1⟩, (fun _ h => nomatch h)⟩) (ve_var 12)) va_nil)))) (wcall K c_long_behind (hr.mono (by decide)) (passAt (takes_of rfl rfl rfl rfl)) (va_cons (ve_var 2) (va_cons (ve_var 4) (va_cons (wop K s_plus o_add (ve_fld (K := K) (List.forall_mem_cons.mpr ⟨⟨T.ob_Round.1, T.ob_Round.2.1⟩, (fun _ h => nomatch h)⟩) (ve_var 12)) (ve_fld (K := K) (List.forall_mem_cons.mpr ⟨⟨T.ob_Round.1, T.ob_Round.2.2⟩, (fun _ h => nomatch h)⟩) (ve_var 12))) va_nil)))))
        (vss_one (vs_ret ve_bl))
        vss_nil)
      (vss_one (vs_for PassesOwn.leaving rfl (vi_range1 T.z_range (va_cons ve_int va_nil)) (vg_name 13 sc_law.nd)
        (vss_one (vs_if (wcmpT K s_ne (o_ne (o_units hr)) (nomark _) (wcall K c_letter_at (hr.mono (by decide)) (passAt (takes_of rfl rfl rfl rfl)) (va_cons (ve_var 2) (va_cons (ve_var 4) (va_cons (ve_fld (K := K) (List.forall_mem_cons.mpr ⟨⟨T.ob_Round.1, T.ob_Round.2.1⟩, (fun _ h => nomatch h)⟩) (ve_var 12)) (va_cons (ve_var 13) va_nil))))) (wcall K c_letter_at (hr.mono (by decide)) (passAt (takes_of rfl rfl rfl rfl)) (va_cons (ve_var 2) (va_cons (ve_var 4) (va_cons (wop K s_plus o_add (ve_fld (K := K) (List.forall_mem_cons.mpr ⟨⟨T.ob_Round.1, T.ob_Round.2.1⟩, (fun _ h => nomatch h)⟩) (ve_var 12)) (ve_fld (K := K) (List.forall_mem_cons.mpr ⟨⟨T.ob_Round.1, T.ob_Round.2.2⟩, (fun _ h => nomatch h)⟩) (ve_var 12))) (va_cons (ve_var 13) va_nil))))))
          (vss_one (vs_ret ve_bl))
          vss_nil)))))
      vss_nil))))))))))))))))
  (vss_one (vs_ret (wandT K (wcmp K s_eq (o_eq (o_units hr)) (nomark _) (wcall K c_gone_round (hr.mono (by decide)) (passAt (takes_of rfl rfl rfl rfl)) (va_cons (ve_str [122, 97, 98]) (va_cons (ve_lst (vd_cons (ve_tup (vd_cons (ve_str [97]) (vd_cons (ve_str [122, 122]) vd_nil))) (vd_cons (ve_tup (vd_cons (ve_str [98]) (vd_cons (ve_str []) vd_nil))) vd_nil))) va_nil))) (ve_str [122, 122, 122])) (ve_boolOne (wcmp K s_eq (o_eq (o_units hr)) (nomark _) (wcall K c_long_behind (hr.mono (by decide)) (passAt (takes_of rfl rfl rfl rfl)) (va_cons (ve_str [122, 97, 98]) (va_cons (ve_lst (vd_cons (ve_tup (vd_cons (ve_str [97]) (vd_cons (ve_str [122, 122]) vd_nil))) (vd_cons (ve_tup (vd_cons (ve_str [98]) (vd_cons (ve_str []) vd_nil))) vd_nil))) (va_cons ve_int va_nil)))) ve_int)))))))⟩
def spLaw (K : PySem.W.Frag) : Sp := fun vs H Q _ => ∃ (a : Addr) (ns : List Int), vs = [.ref a] ∧ SqL K H a (ns.map V.int) ∧ ns.length ≤ 63 ∧ (∀ z ∈ ns, Builtin.Int.intBits z ≤ 1048576) ∧ ∀ H', Q (.bl true) H'
def LawTrue : Prop := ∀ ns : List Int, ns.length ≤ 63 → (∀ z ∈ ns, Builtin.Int.intBits z ≤ 1048576) → F_law [.scr ns] = .ret (.fr (.bl true))
def cmOf (l : List Addr) (k : Nat) : Addr := l.getD k 0
set_option maxHeartbeats 4000000 in
theorem all_mk {h : Heap} {fa : Addr} (X : K.In h) (G : h.Ns mainGlobals mg) (hfa : mg "law" = some (.ref fa)) (hl : LawTrue)
    {C2 : Addr}
    {C3 : Addr}
    {C4 : Addr}
    {C5 : Addr}
    {C7 : Addr}
    {C8 : Addr}
    {tk_LETTERS : Tok}
    {tk_LONGEST : Tok}
    {tk_MOST_PUT : Tok}
    {tk_MOST_ROUNDS : Tok}
    {tk_MOST_RULES : Tok}
    {fi7 : Addr} {odi7 ani7 : Option Addr} {sli7 : Array (Option Value)} {oci7 kVi7 dci7 pmi7 cdi7 cti7 : Value}
    {fi8 : Addr} {odi8 ani8 : Option Addr} {sli8 : Array (Option Value)} {oci8 kVi8 dci8 pmi8 cdi8 cti8 : Value}
    {f0 : Addr} {od0 an0 : Option Addr} {sl0 : Array (Option Value)} {oc0 kV0 dc0 pm0 cd0 ct0 : Value}
    {f1 : Addr} {od1 an1 : Option Addr} {sl1 : Array (Option Value)} {oc1 kV1 dc1 pm1 cd1 ct1 : Value}
    {f2 : Addr} {od2 an2 : Option Addr} {sl2 : Array (Option Value)} {oc2 kV2 dc2 pm2 cd2 ct2 : Value}
    {f3 : Addr} {od3 an3 : Option Addr} {sl3 : Array (Option Value)} {oc3 kV3 dc3 pm3 cd3 ct3 : Value}
    {f4 : Addr} {od4 an4 : Option Addr} {sl4 : Array (Option Value)} {oc4 kV4 dc4 pm4 cd4 ct4 : Value}
    {f5 : Addr} {od5 an5 : Option Addr} {sl5 : Array (Option Value)} {oc5 kV5 dc5 pm5 cd5 ct5 : Value}
    {f6 : Addr} {od6 an6 : Option Addr} {sl6 : Array (Option Value)} {oc6 kV6 dc6 pm6 cd6 ct6 : Value}
    {f7 : Addr} {od7 an7 : Option Addr} {sl7 : Array (Option Value)} {oc7 kV7 dc7 pm7 cd7 ct7 : Value}
    {f8 : Addr} {od8 an8 : Option Addr} {sl8 : Array (Option Value)} {oc8 kV8 dc8 pm8 cd8 ct8 : Value}
    {f9 : Addr} {od9 an9 : Option Addr} {sl9 : Array (Option Value)} {oc9 kV9 dc9 pm9 cd9 ct9 : Value}
    {f10 : Addr} {od10 an10 : Option Addr} {sl10 : Array (Option Value)} {oc10 kV10 dc10 pm10 cd10 ct10 : Value}
    {f11 : Addr} {od11 an11 : Option Addr} {sl11 : Array (Option Value)} {oc11 kV11 dc11 pm11 cd11 ct11 : Value}
    {f12 : Addr} {od12 an12 : Option Addr} {sl12 : Array (Option Value)} {oc12 kV12 dc12 pm12 cd12 ct12 : Value}
    {f13 : Addr} {od13 an13 : Option Addr} {sl13 : Array (Option Value)} {oc13 kV13 dc13 pm13 cd13 ct13 : Value}
    {f14 : Addr} {od14 an14 : Option Addr} {sl14 : Array (Option Value)} {oc14 kV14 dc14 pm14 cd14 ct14 : Value}
    {f15 : Addr} {od15 an15 : Option Addr} {sl15 : Array (Option Value)} {oc15 kV15 dc15 pm15 cd15 ct15 : Value}
    {f16 : Addr} {od16 an16 : Option Addr} {sl16 : Array (Option Value)} {oc16 kV16 dc16 pm16 cd16 ct16 : Value}
    {f17 : Addr} {od17 an17 : Option Addr} {sl17 : Array (Option Value)} {oc17 kV17 dc17 pm17 cd17 ct17 : Value}
    {f18 : Addr} {od18 an18 : Option Addr} {sl18 : Array (Option Value)} {oc18 kV18 dc18 pm18 cd18 ct18 : Value}
    {f19 : Addr} {od19 an19 : Option Addr} {sl19 : Array (Option Value)} {oc19 kV19 dc19 pm19 cd19 ct19 : Value}
    {f20 : Addr} {od20 an20 : Option Addr} {sl20 : Array (Option Value)} {oc20 kV20 dc20 pm20 cd20 ct20 : Value}
    {f21 : Addr} {od21 an21 : Option Addr} {sl21 : Array (Option Value)} {oc21 kV21 dc21 pm21 cd21 ct21 : Value}
    {f22 : Addr} {od22 an22 : Option Addr} {sl22 : Array (Option Value)} {oc22 kV22 dc22 pm22 cd22 ct22 : Value}
    {f23 : Addr} {od23 an23 : Option Addr} {sl23 : Array (Option Value)} {oc23 kV23 dc23 pm23 cd23 ct23 : Value}
    {f24 : Addr} {od24 an24 : Option Addr} {sl24 : Array (Option Value)} {oc24 kV24 dc24 pm24 cd24 ct24 : Value}
    {f25 : Addr} {od25 an25 : Option Addr} {sl25 : Array (Option Value)} {oc25 kV25 dc25 pm25 cd25 ct25 : Value}
    {f26 : Addr} {od26 an26 : Option Addr} {sl26 : Array (Option Value)} {oc26 kV26 dc26 pm26 cd26 ct26 : Value}
    (c_BadMany : PySem.W.nsIn K mainGlobals "BadMany" = some (some (.ref C5)))
    (c_BadPlace : PySem.W.nsIn K mainGlobals "BadPlace" = some (some (.ref C3)))
    (c_BadRules : PySem.W.nsIn K mainGlobals "BadRules" = some (some (.ref C4)))
    (c_BadText : PySem.W.nsIn K mainGlobals "BadText" = some (some (.ref C2)))
    (c_Grows : PySem.W.nsIn K mainGlobals "Grows" = some (some (.ref C8)))
    (c_Round : PySem.W.nsIn K mainGlobals "Round" = some (some (.ref C7)))
    (g_LETTERS : PySem.W.nsIn K mainGlobals "LETTERS" = some (some (.str "abcdefghijklmnopqrstuvwxyz" tk_LETTERS)))
    (g_LONGEST : PySem.W.nsIn K mainGlobals "LONGEST" = some (some (.int (30) tk_LONGEST)))
    (g_MOST_PUT : PySem.W.nsIn K mainGlobals "MOST_PUT" = some (some (.int (3) tk_MOST_PUT)))
    (g_MOST_ROUNDS : PySem.W.nsIn K mainGlobals "MOST_ROUNDS" = some (some (.int (40) tk_MOST_ROUNDS)))
    (g_MOST_RULES : PySem.W.nsIn K mainGlobals "MOST_RULES" = some (some (.int (4) tk_MOST_RULES)))
    (z_all : PySem.W.nsIn K mainGlobals "all" = some none)
    (z_any : PySem.W.nsIn K mainGlobals "any" = some none)
    (z_bool : PySem.W.nsIn K mainGlobals "bool" = some none)
    (z_dict : PySem.W.nsIn K mainGlobals "dict" = some none)
    (z_int : PySem.W.nsIn K mainGlobals "int" = some none)
    (z_isinstance : PySem.W.nsIn K mainGlobals "isinstance" = some none)
    (z_len : PySem.W.nsIn K mainGlobals "len" = some none)
    (z_list : PySem.W.nsIn K mainGlobals "list" = some none)
    (z_max : PySem.W.nsIn K mainGlobals "max" = some none)
    (z_min : PySem.W.nsIn K mainGlobals "min" = some none)
    (z_range : PySem.W.nsIn K mainGlobals "range" = some none)
    (z_set : PySem.W.nsIn K mainGlobals "set" = some none)
    (z_sorted : PySem.W.nsIn K mainGlobals "sorted" = some none)
    (z_str : PySem.W.nsIn K mainGlobals "str" = some none)
    (z_sum : PySem.W.nsIn K mainGlobals "sum" = some none)
    (z_tuple : PySem.W.nsIn K mainGlobals "tuple" = some none)
    (z_zip : PySem.W.nsIn K mainGlobals "zip" = some none)
    (b_BadMany : PySem.W.subIn K (.ref C5) (.type "BaseException") = some true)
    (b_BadPlace : PySem.W.subIn K (.ref C3) (.type "BaseException") = some true)
    (b_BadRules : PySem.W.subIn K (.ref C4) (.type "BaseException") = some true)
    (b_BadText : PySem.W.subIn K (.ref C2) (.type "BaseException") = some true)
    (k_BadMany : PySem.W.keepIn K (.ref C5) = true)
    (k_BadPlace : PySem.W.keepIn K (.ref C3) = true)
    (k_BadRules : PySem.W.keepIn K (.ref C4) = true)
    (k_BadText : PySem.W.keepIn K (.ref C2) = true)
    (t_BadMany : PySem.W.typeIn K (.ref C5) = some (.type "type"))
    (t_BadPlace : PySem.W.typeIn K (.ref C3) = some (.type "type"))
    (t_BadRules : PySem.W.typeIn K (.ref C4) = some (.type "type"))
    (t_BadText : PySem.W.typeIn K (.ref C2) = some (.type "type"))
    (x_BadMany : PySem.W.excIn K C5 [.type "ValueError", .type "Exception", .type "BaseException", .type "object"] "ValueError.__new__" = true)
    (x_BadPlace : PySem.W.excIn K C3 [.type "ValueError", .type "Exception", .type "BaseException", .type "object"] "ValueError.__new__" = true)
    (x_BadRules : PySem.W.excIn K C4 [.type "ValueError", .type "Exception", .type "BaseException", .type "object"] "ValueError.__new__" = true)
    (x_BadText : PySem.W.excIn K C2 [.type "ValueError", .type "Exception", .type "BaseException", .type "object"] "ValueError.__new__" = true)
    (pg7 : PySem.W.plainGet K C7 Str.empty = true)
    (hd7 : PySem.W.hasDictIn K C7 = true)
    (po7 : PySem.W.plainOver K C7 = true)
    (sa7 : PySem.W.findIn K (.ref C7) "__setattr__" = some (some (.builtin "object.__setattr__")))
    (mk7 : PySem.W.makesIn K C7 = true)
    (kc7 : PySem.W.keepIn K (.ref C7) = true)
    (nf7_0 : PySem.W.findIn K (.ref C7) "first" = some none)
    (nf7_1 : PySem.W.findIn K (.ref C7) "many" = some none)
    (ai7 : PySem.W.findIn K (.ref C7) "__init__" = some (some (.ref fi7)))
    (ii7 : PySem.W.isFn K (.ref fi7) = true)
    (li7 : K.lookup fi7 = some ⟨oci7, odi7, .func (PySem.W.fnOf "__init__" "Round.__init__" (defArgs st_Round___init__) (defBody st_Round___init__) (defScope st_Round___init__) .none kVi7 dci7 pmi7 ani7 cdi7 cti7), sli7⟩)
    (di7 : PySem.W.codeIn K cdi7 "Round.__init__" = true)
    (ei7 : PySem.W.keepIn K (.ref fi7) = true)
    (pg8 : PySem.W.plainGet K C8 Str.empty = true)
    (hd8 : PySem.W.hasDictIn K C8 = true)
    (po8 : PySem.W.plainOver K C8 = true)
    (sa8 : PySem.W.findIn K (.ref C8) "__setattr__" = some (some (.builtin "object.__setattr__")))
    (mk8 : PySem.W.makesIn K C8 = true)
    (kc8 : PySem.W.keepIn K (.ref C8) = true)
    (nf8_0 : PySem.W.findIn K (.ref C8) "letter" = some none)
    (nf8_1 : PySem.W.findIn K (.ref C8) "rounds" = some none)
    (ai8 : PySem.W.findIn K (.ref C8) "__init__" = some (some (.ref fi8)))
    (ii8 : PySem.W.isFn K (.ref fi8) = true)
    (li8 : K.lookup fi8 = some ⟨oci8, odi8, .func (PySem.W.fnOf "__init__" "Grows.__init__" (defArgs st_Grows___init__) (defBody st_Grows___init__) (defScope st_Grows___init__) .none kVi8 dci8 pmi8 ani8 cdi8 cti8), sli8⟩)
    (di8 : PySem.W.codeIn K cdi8 "Grows.__init__" = true)
    (ei8 : PySem.W.keepIn K (.ref fi8) = true)
    (xn : PySem.W.specialIn K (.builtin "object.__class__") "__get__" = some (some (.builtin "getset_descriptor.__get__")))
    (xt : PySem.W.takesIn K (.builtin "object.__class__") = some true)
    (ob7_7 : PySem.W.subIn K (.ref C7) (.ref C7) = some true)
    (ob8_7 : PySem.W.subIn K (.ref C8) (.ref C7) = some false)
    (ob8_8 : PySem.W.subIn K (.ref C8) (.ref C8) = some true)
    (oc7_ : PySem.W.isClsIn K C7 = true)
    (ot7_ : PySem.W.typeIn K (.ref C7) = some (.type "type"))
    (xa7 : PySem.W.findIn K (.ref C7) "__class__" = some (some (.builtin "object.__class__")))
    (xm7 : PySem.W.mroIn K C7 (.type "object") = some true)
    (xa8 : PySem.W.findIn K (.ref C8) "__class__" = some (some (.builtin "object.__class__")))
    (xm8 : PySem.W.mroIn K C8 (.type "object") = some true)
    (a0 : PySem.W.nsIn K mainGlobals "is_whole" = some (some (.ref f0)))
    (l0 : K.lookup f0 = some ⟨oc0, od0, .func (PySem.W.fnOf "is_whole" "is_whole" (defArgs st_is_whole) (defBody st_is_whole) (defScope st_is_whole) .none kV0 dc0 pm0 an0 cd0 ct0), sl0⟩)
    (d0 : PySem.W.codeIn K cd0 "is_whole" = true)
    (e0 : PySem.W.keepIn K (.ref f0) = true)
    (a1 : PySem.W.nsIn K mainGlobals "is_letters" = some (some (.ref f1)))
    (l1 : K.lookup f1 = some ⟨oc1, od1, .func (PySem.W.fnOf "is_letters" "is_letters" (defArgs st_is_letters) (defBody st_is_letters) (defScope st_is_letters) .none kV1 dc1 pm1 an1 cd1 ct1), sl1⟩)
    (d1 : PySem.W.codeIn K cd1 "is_letters" = true)
    (e1 : PySem.W.keepIn K (.ref f1) = true)
    (a2 : PySem.W.nsIn K mainGlobals "round_of" = some (some (.ref f2)))
    (l2 : K.lookup f2 = some ⟨oc2, od2, .func (PySem.W.fnOf "round_of" "round_of" (defArgs st_round_of) (defBody st_round_of) (defScope st_round_of) .none kV2 dc2 pm2 an2 cd2 ct2), sl2⟩)
    (d2 : PySem.W.codeIn K cd2 "round_of" = true)
    (e2 : PySem.W.keepIn K (.ref f2) = true)
    (a3 : PySem.W.nsIn K mainGlobals "vanishing_by" = some (some (.ref f3)))
    (l3 : K.lookup f3 = some ⟨oc3, od3, .func (PySem.W.fnOf "vanishing_by" "vanishing_by" (defArgs st_vanishing_by) (defBody st_vanishing_by) (defScope st_vanishing_by) .none kV3 dc3 pm3 an3 cd3 ct3), sl3⟩)
    (d3 : PySem.W.codeIn K cd3 "vanishing_by" = true)
    (e3 : PySem.W.keepIn K (.ref f3) = true)
    (a4 : PySem.W.nsIn K mainGlobals "sizes_of" = some (some (.ref f4)))
    (l4 : K.lookup f4 = some ⟨oc4, od4, .func (PySem.W.fnOf "sizes_of" "sizes_of" (defArgs st_sizes_of) (defBody st_sizes_of) (defScope st_sizes_of) .none kV4 dc4 pm4 an4 cd4 ct4), sl4⟩)
    (d4 : PySem.W.codeIn K cd4 "sizes_of" = true)
    (e4 : PySem.W.keepIn K (.ref f4) = true)
    (a5 : PySem.W.nsIn K mainGlobals "_law_cell_at" = some (some (.ref f5)))
    (l5 : K.lookup f5 = some ⟨oc5, od5, .func (PySem.W.fnOf "_law_cell_at" "_law_cell_at" (defArgs st__law_cell_at) (defBody st__law_cell_at) (defScope st__law_cell_at) .none kV5 dc5 pm5 an5 cd5 ct5), sl5⟩)
    (d5 : PySem.W.codeIn K cd5 "_law_cell_at" = true)
    (e5 : PySem.W.keepIn K (.ref f5) = true)
    (a6 : PySem.W.nsIn K mainGlobals "_law_draw" = some (some (.ref f6)))
    (l6 : K.lookup f6 = some ⟨oc6, od6, .func (PySem.W.fnOf "_law_draw" "_law_draw" (defArgs st__law_draw) (defBody st__law_draw) (defScope st__law_draw) .none kV6 dc6 pm6 an6 cd6 ct6), sl6⟩)
    (d6 : PySem.W.codeIn K cd6 "_law_draw" = true)
    (e6 : PySem.W.keepIn K (.ref f6) = true)
    (a7 : PySem.W.nsIn K mainGlobals "check_text" = some (some (.ref f7)))
    (l7 : K.lookup f7 = some ⟨oc7, od7, .func (PySem.W.fnOf "check_text" "check_text" (defArgs st_check_text) (defBody st_check_text) (defScope st_check_text) .none kV7 dc7 pm7 an7 cd7 ct7), sl7⟩)
    (d7 : PySem.W.codeIn K cd7 "check_text" = true)
    (e7 : PySem.W.keepIn K (.ref f7) = true)
    (a8 : PySem.W.nsIn K mainGlobals "is_rule" = some (some (.ref f8)))
    (l8 : K.lookup f8 = some ⟨oc8, od8, .func (PySem.W.fnOf "is_rule" "is_rule" (defArgs st_is_rule) (defBody st_is_rule) (defScope st_is_rule) .none kV8 dc8 pm8 an8 cd8 ct8), sl8⟩)
    (d8 : PySem.W.codeIn K cd8 "is_rule" = true)
    (e8 : PySem.W.keepIn K (.ref f8) = true)
    (a9 : PySem.W.nsIn K mainGlobals "lasts" = some (some (.ref f9)))
    (l9 : K.lookup f9 = some ⟨oc9, od9, .func (PySem.W.fnOf "lasts" "lasts" (defArgs st_lasts) (defBody st_lasts) (defScope st_lasts) .none kV9 dc9 pm9 an9 cd9 ct9), sl9⟩)
    (d9 : PySem.W.codeIn K cd9 "lasts" = true)
    (e9 : PySem.W.keepIn K (.ref f9) = true)
    (a10 : PySem.W.nsIn K mainGlobals "reached" = some (some (.ref f10)))
    (l10 : K.lookup f10 = some ⟨oc10, od10, .func (PySem.W.fnOf "reached" "reached" (defArgs st_reached) (defBody st_reached) (defScope st_reached) .none kV10 dc10 pm10 an10 cd10 ct10), sl10⟩)
    (d10 : PySem.W.codeIn K cd10 "reached" = true)
    (e10 : PySem.W.keepIn K (.ref f10) = true)
    (a11 : PySem.W.nsIn K mainGlobals "round_again" = some (some (.ref f11)))
    (l11 : K.lookup f11 = some ⟨oc11, od11, .func (PySem.W.fnOf "round_again" "round_again" (defArgs st_round_again) (defBody st_round_again) (defScope st_round_again) .none kV11 dc11 pm11 an11 cd11 ct11), sl11⟩)
    (d11 : PySem.W.codeIn K cd11 "round_again" = true)
    (e11 : PySem.W.keepIn K (.ref f11) = true)
    (a12 : PySem.W.nsIn K mainGlobals "_law_value" = some (some (.ref f12)))
    (l12 : K.lookup f12 = some ⟨oc12, od12, .func (PySem.W.fnOf "_law_value" "_law_value" (defArgs st__law_value) (defBody st__law_value) (defScope st__law_value) .none kV12 dc12 pm12 an12 cd12 ct12), sl12⟩)
    (d12 : PySem.W.codeIn K cd12 "_law_value" = true)
    (e12 : PySem.W.keepIn K (.ref f12) = true)
    (a13 : PySem.W.nsIn K mainGlobals "check_rules" = some (some (.ref f13)))
    (l13 : K.lookup f13 = some ⟨oc13, od13, .func (PySem.W.fnOf "check_rules" "check_rules" (defArgs st_check_rules) (defBody st_check_rules) (defScope st_check_rules) .none kV13 dc13 pm13 an13 cd13 ct13), sl13⟩)
    (d13 : PySem.W.codeIn K cd13 "check_rules" = true)
    (e13 : PySem.W.keepIn K (.ref f13) = true)
    (a14 : PySem.W.nsIn K mainGlobals "makes_more" = some (some (.ref f14)))
    (l14 : K.lookup f14 = some ⟨oc14, od14, .func (PySem.W.fnOf "makes_more" "makes_more" (defArgs st_makes_more) (defBody st_makes_more) (defScope st_makes_more) .none kV14 dc14 pm14 an14 cd14 ct14), sl14⟩)
    (d14 : PySem.W.codeIn K cd14 "makes_more" = true)
    (e14 : PySem.W.keepIn K (.ref f14) = true)
    (a15 : PySem.W.nsIn K mainGlobals "_law_letter" = some (some (.ref f15)))
    (l15 : K.lookup f15 = some ⟨oc15, od15, .func (PySem.W.fnOf "_law_letter" "_law_letter" (defArgs st__law_letter) (defBody st__law_letter) (defScope st__law_letter) .none kV15 dc15 pm15 an15 cd15 ct15), sl15⟩)
    (d15 : PySem.W.codeIn K cd15 "_law_letter" = true)
    (e15 : PySem.W.keepIn K (.ref f15) = true)
    (a16 : PySem.W.nsIn K mainGlobals "growing" = some (some (.ref f16)))
    (l16 : K.lookup f16 = some ⟨oc16, od16, .func (PySem.W.fnOf "growing" "growing" (defArgs st_growing) (defBody st_growing) (defScope st_growing) .none kV16 dc16 pm16 an16 cd16 ct16), sl16⟩)
    (d16 : PySem.W.codeIn K cd16 "growing" = true)
    (e16 : PySem.W.keepIn K (.ref f16) = true)
    (a17 : PySem.W.nsIn K mainGlobals "check_far" = some (some (.ref f17)))
    (l17 : K.lookup f17 = some ⟨oc17, od17, .func (PySem.W.fnOf "check_far" "check_far" (defArgs st_check_far) (defBody st_check_far) (defScope st_check_far) .none kV17 dc17 pm17 an17 cd17 ct17), sl17⟩)
    (d17 : PySem.W.codeIn K cd17 "check_far" = true)
    (e17 : PySem.W.keepIn K (.ref f17) = true)
    (a18 : PySem.W.nsIn K mainGlobals "gone_round" = some (some (.ref f18)))
    (l18 : K.lookup f18 = some ⟨oc18, od18, .func (PySem.W.fnOf "gone_round" "gone_round" (defArgs st_gone_round) (defBody st_gone_round) (defScope st_gone_round) .none kV18 dc18 pm18 an18 cd18 ct18), sl18⟩)
    (d18 : PySem.W.codeIn K cd18 "gone_round" = true)
    (e18 : PySem.W.keepIn K (.ref f18) = true)
    (a19 : PySem.W.nsIn K mainGlobals "_law_text" = some (some (.ref f19)))
    (l19 : K.lookup f19 = some ⟨oc19, od19, .func (PySem.W.fnOf "_law_text" "_law_text" (defArgs st__law_text) (defBody st__law_text) (defScope st__law_text) .none kV19 dc19 pm19 an19 cd19 ct19), sl19⟩)
    (d19 : PySem.W.codeIn K cd19 "_law_text" = true)
    (e19 : PySem.W.keepIn K (.ref f19) = true)
    (a20 : PySem.W.nsIn K mainGlobals "_law_rules" = some (some (.ref f20)))
    (l20 : K.lookup f20 = some ⟨oc20, od20, .func (PySem.W.fnOf "_law_rules" "_law_rules" (defArgs st__law_rules) (defBody st__law_rules) (defScope st__law_rules) .none kV20 dc20 pm20 an20 cd20 ct20), sl20⟩)
    (d20 : PySem.W.codeIn K cd20 "_law_rules" = true)
    (e20 : PySem.W.keepIn K (.ref f20) = true)
    (a21 : PySem.W.findIn K (.ref C8) "shows" = some (some (.ref f21)))
    (i21 : PySem.W.isFn K (.ref f21) = true)
    (l21 : K.lookup f21 = some ⟨oc21, od21, .func (PySem.W.fnOf "shows" "Grows.shows" (defArgs st_Grows_shows) (defBody st_Grows_shows) (defScope st_Grows_shows) .none kV21 dc21 pm21 an21 cd21 ct21), sl21⟩)
    (d21 : PySem.W.codeIn K cd21 "Grows.shows" = true)
    (e21 : PySem.W.keepIn K (.ref f21) = true)
    (a22 : PySem.W.nsIn K mainGlobals "long_behind" = some (some (.ref f22)))
    (l22 : K.lookup f22 = some ⟨oc22, od22, .func (PySem.W.fnOf "long_behind" "long_behind" (defArgs st_long_behind) (defBody st_long_behind) (defScope st_long_behind) .none kV22 dc22 pm22 an22 cd22 ct22), sl22⟩)
    (d22 : PySem.W.codeIn K cd22 "long_behind" = true)
    (e22 : PySem.W.keepIn K (.ref f22) = true)
    (a23 : PySem.W.nsIn K mainGlobals "letter_at" = some (some (.ref f23)))
    (l23 : K.lookup f23 = some ⟨oc23, od23, .func (PySem.W.fnOf "letter_at" "letter_at" (defArgs st_letter_at) (defBody st_letter_at) (defScope st_letter_at) .none kV23 dc23 pm23 an23 cd23 ct23), sl23⟩)
    (d23 : PySem.W.codeIn K cd23 "letter_at" = true)
    (e23 : PySem.W.keepIn K (.ref f23) = true)
    (a24 : PySem.W.nsIn K mainGlobals "judged" = some (some (.ref f24)))
    (l24 : K.lookup f24 = some ⟨oc24, od24, .func (PySem.W.fnOf "judged" "judged" (defArgs st_judged) (defBody st_judged) (defScope st_judged) .none kV24 dc24 pm24 an24 cd24 ct24), sl24⟩)
    (d24 : PySem.W.codeIn K cd24 "judged" = true)
    (e24 : PySem.W.keepIn K (.ref f24) = true)
    (a25 : PySem.W.findIn K (.ref C7) "shows" = some (some (.ref f25)))
    (i25 : PySem.W.isFn K (.ref f25) = true)
    (l25 : K.lookup f25 = some ⟨oc25, od25, .func (PySem.W.fnOf "shows" "Round.shows" (defArgs st_Round_shows) (defBody st_Round_shows) (defScope st_Round_shows) .none kV25 dc25 pm25 an25 cd25 ct25), sl25⟩)
    (d25 : PySem.W.codeIn K cd25 "Round.shows" = true)
    (e25 : PySem.W.keepIn K (.ref f25) = true)
    (a26 : PySem.W.nsIn K mainGlobals "law" = some (some (.ref f26)))
    (l26 : K.lookup f26 = some ⟨oc26, od26, .func (PySem.W.fnOf "law" "law" (defArgs st_law) (defBody st_law) (defScope st_law) .none kV26 dc26 pm26 an26 cd26 ct26), sl26⟩)
    (d26 : PySem.W.codeIn K cd26 "law" = true)
    (e26 : PySem.W.keepIn K (.ref f26) = true) :
    ∃ fd : FuncData, (∀ (s : Shared) (v : Value), BindsTo s fd ⟨[v], []⟩ [("_law_script", v)]) ∧ ∀ base : Heap, K.In base → base.Ns mainGlobals mg → FnOk P w K mg base (L2.CX P w) 6 fa fd ["_law_script"] (spLaw K) := by
  have e := hfa.symm.trans (PySem.W.mg_of X G a26)
  cases e
  let cm : Nat → Addr := cmOf [0, 0, C2, C3, C4, C5, 0, C7, C8]
  have T : Txt K mg cm := { b_BadMany := b_BadMany, b_BadPlace := b_BadPlace, b_BadRules := b_BadRules, b_BadText := b_BadText, c_BadMany := PySem.W.mg_of X G c_BadMany, c_BadPlace := PySem.W.mg_of X G c_BadPlace, c_BadRules := PySem.W.mg_of X G c_BadRules, c_BadText := PySem.W.mg_of X G c_BadText, c_Grows := PySem.W.mg_of X G c_Grows, c_Round := PySem.W.mg_of X G c_Round, g_LETTERS := ⟨_, PySem.W.mg_of X G g_LETTERS⟩, g_LONGEST := ⟨_, PySem.W.mg_of X G g_LONGEST⟩, g_MOST_PUT := ⟨_, PySem.W.mg_of X G g_MOST_PUT⟩, g_MOST_ROUNDS := ⟨_, PySem.W.mg_of X G g_MOST_ROUNDS⟩, g_MOST_RULES := ⟨_, PySem.W.mg_of X G g_MOST_RULES⟩, k_BadMany := k_BadMany, k_BadPlace := k_BadPlace, k_BadRules := k_BadRules, k_BadText := k_BadText, ob_Grows := ⟨⟨pg8, hd8, po8, sa8⟩, nf8_0, nf8_1⟩, ob_Round := ⟨⟨pg7, hd7, po7, sa7⟩, nf7_0, nf7_1⟩, objs := (List.forall_mem_cons.mpr ⟨⟨⟨pg7, hd7, po7, sa7⟩, xa7, xn, xt, xm7⟩, (List.forall_mem_cons.mpr ⟨⟨⟨pg8, hd8, po8, sa8⟩, xa8, xn, xt, xm8⟩, (fun _ h => nomatch h)⟩)⟩), osubs := (List.forall_mem_cons.mpr ⟨⟨ob7_7, oc7_, ot7_, ob7_7⟩, (List.forall_mem_cons.mpr ⟨⟨ob8_7, oc7_, ot7_, ob8_8⟩, (fun _ h => nomatch h)⟩)⟩), t_BadMany := t_BadMany, t_BadPlace := t_BadPlace, t_BadRules := t_BadRules, t_BadText := t_BadText, x_BadMany := x_BadMany, x_BadPlace := x_BadPlace, x_BadRules := x_BadRules, x_BadText := x_BadText, z_all := PySem.W.mg_none_of X G z_all, z_any := PySem.W.mg_none_of X G z_any, z_bool := PySem.W.mg_none_of X G z_bool, z_dict := PySem.W.mg_none_of X G z_dict, z_int := PySem.W.mg_none_of X G z_int, z_isinstance := PySem.W.mg_none_of X G z_isinstance, z_len := PySem.W.mg_none_of X G z_len, z_list := PySem.W.mg_none_of X G z_list, z_max := PySem.W.mg_none_of X G z_max, z_min := PySem.W.mg_none_of X G z_min, z_range := PySem.W.mg_none_of X G z_range, z_set := PySem.W.mg_none_of X G z_set, z_sorted := PySem.W.mg_none_of X G z_sorted, z_str := PySem.W.mg_none_of X G z_str, z_sum := PySem.W.mg_none_of X G z_sum, z_tuple := PySem.W.mg_none_of X G z_tuple, z_zip := PySem.W.mg_none_of X G z_zip }
  refine ⟨PySem.W.fnOf "law" "law" (defArgs st_law) (defBody st_law) (defScope st_law) .none kV26 dc26 pm26 an26 cd26 ct26, fun s v => .of_eq rfl, fun base _ _ => ?_⟩
  have Fi7 := fun_mk (st := st_Round___init__) li7 di7 ei7
  have c_Round : Kls P w K mg base cm 1 7 "Round" ["first", "many"] := ⟨_, _, _, ⟨mk7, ai7, ii7, kc7⟩, ok_Round___init__ T Fi7, PySem.W.mg_of X G c_Round, Fi7.binds fun _ _ _ _ _ _ us hl => match us, hl with | [_, _, _], _ => rfl⟩
  have Fi8 := fun_mk (st := st_Grows___init__) li8 di8 ei8
  have c_Grows : Kls P w K mg base cm 1 8 "Grows" ["letter", "rounds"] := ⟨_, _, _, ⟨mk8, ai8, ii8, kc8⟩, ok_Grows___init__ T Fi8, PySem.W.mg_of X G c_Grows, Fi8.binds fun _ _ _ _ _ _ us hl => match us, hl with | [_, _, _], _ => rfl⟩
  have F0 := fun_mk (st := st_is_whole) l0 d0 e0
  have G0 : FnOk P w K mg base (L2.CX P w) 1 f0 _ ["thing"] (spV cm K 1 F_is_whole) := ok_is_whole T F0
  have c_is_whole : Fn P w K mg base cm 1 "is_whole" 1 F_is_whole := ⟨_, _, _, rfl, G0, PySem.W.mg_of X G a0, e0, F0.binds fun _ _ _ _ _ _ us hl => match us, hl with | [_], _ => rfl⟩
  have F1 := fun_mk (st := st_is_letters) l1 d1 e1
  have G1 : FnOk P w K mg base (L2.CX P w) 1 f1 _ ["thing", "least", "most"] (spV cm K 3 F_is_letters) := ok_is_letters T F1
  have c_is_letters : Fn P w K mg base cm 1 "is_letters" 3 F_is_letters := ⟨_, _, _, rfl, G1, PySem.W.mg_of X G a1, e1, F1.binds fun _ _ _ _ _ _ us hl => match us, hl with | [_, _, _], _ => rfl⟩
  have F2 := fun_mk (st := st_round_of) l2 d2 e2
  have G2 : FnOk P w K mg base (L2.CX P w) 1 f2 _ ["text", "rules"] (spV cm K 2 F_round_of) := ok_round_of T F2
  have c_round_of : Fn P w K mg base cm 1 "round_of" 2 F_round_of := ⟨_, _, _, rfl, G2, PySem.W.mg_of X G a2, e2, F2.binds fun _ _ _ _ _ _ us hl => match us, hl with | [_, _], _ => rfl⟩
  have F3 := fun_mk (st := st_vanishing_by) l3 d3 e3
  have G3 : FnOk P w K mg base (L2.CX P w) 1 f3 _ ["rules"] (spV cm K 1 F_vanishing_by) := ok_vanishing_by T F3
  have c_vanishing_by : Fn P w K mg base cm 1 "vanishing_by" 1 F_vanishing_by := ⟨_, _, _, rfl, G3, PySem.W.mg_of X G a3, e3, F3.binds fun _ _ _ _ _ _ us hl => match us, hl with | [_], _ => rfl⟩
  have F4 := fun_mk (st := st_sizes_of) l4 d4 e4
  have G4 : FnOk P w K mg base (L2.CX P w) 1 f4 _ ["rules", "many"] (spV cm K 2 F_sizes_of) := ok_sizes_of T F4
  have c_sizes_of : Fn P w K mg base cm 1 "sizes_of" 2 F_sizes_of := ⟨_, _, _, rfl, G4, PySem.W.mg_of X G a4, e4, F4.binds fun _ _ _ _ _ _ us hl => match us, hl with | [_, _], _ => rfl⟩
  have F5 := fun_mk (st := st__law_cell_at) l5 d5 e5
  have G5 : FnOk P w K mg base (L2.CX P w) 1 f5 _ ["_law_script", "_law_k"] (spV cm K 2 F__law_cell_at) := ok__law_cell_at T F5
  have c__law_cell_at : Fn P w K mg base cm 1 "_law_cell_at" 2 F__law_cell_at := ⟨_, _, _, rfl, G5, PySem.W.mg_of X G a5, e5, F5.binds fun _ _ _ _ _ _ us hl => match us, hl with | [_, _], _ => rfl⟩
  have F6 := fun_mk (st := st__law_draw) l6 d6 e6
  have G6 : FnOk P w K mg base (L2.CX P w) 1 f6 _ ["_law_cell", "_law_k", "_law_many"] (spV cm K 3 F__law_draw) := ok__law_draw T F6
  have c__law_draw : Fn P w K mg base cm 1 "_law_draw" 3 F__law_draw := ⟨_, _, _, rfl, G6, PySem.W.mg_of X G a6, e6, F6.binds fun _ _ _ _ _ _ us hl => match us, hl with | [_, _, _], _ => rfl⟩
  have F7 := fun_mk (st := st_check_text) l7 d7 e7
  have G7 : FnOk P w K mg base (L2.CX P w) 2 f7 _ ["text", "most"] (spV cm K 2 F_check_text) := ok_check_text T F7 c_is_letters
  have c_check_text : Fn P w K mg base cm 2 "check_text" 2 F_check_text := ⟨_, _, _, rfl, G7, PySem.W.mg_of X G a7, e7, F7.binds fun _ _ _ _ _ _ us hl => match us, hl with | [_, _], _ => rfl⟩
  have F8 := fun_mk (st := st_is_rule) l8 d8 e8
  have G8 : FnOk P w K mg base (L2.CX P w) 2 f8 _ ["thing"] (spV cm K 1 F_is_rule) := ok_is_rule T F8 c_is_letters
  have c_is_rule : Fn P w K mg base cm 2 "is_rule" 1 F_is_rule := ⟨_, _, _, rfl, G8, PySem.W.mg_of X G a8, e8, F8.binds fun _ _ _ _ _ _ us hl => match us, hl with | [_], _ => rfl⟩
  have F9 := fun_mk (st := st_lasts) l9 d9 e9
  have G9 : FnOk P w K mg base (L2.CX P w) 2 f9 _ ["rules", "text"] (spV cm K 2 F_lasts) := ok_lasts T F9 c_vanishing_by
  have c_lasts : Fn P w K mg base cm 2 "lasts" 2 F_lasts := ⟨_, _, _, rfl, G9, PySem.W.mg_of X G a9, e9, F9.binds fun _ _ _ _ _ _ us hl => match us, hl with | [_, _], _ => rfl⟩
  have F10 := fun_mk (st := st_reached) l10 d10 e10
  have G10 : FnOk P w K mg base (L2.CX P w) 2 f10 _ ["text", "rules"] (spV cm K 2 F_reached) := ok_reached T F10 c_round_of
  have c_reached : Fn P w K mg base cm 2 "reached" 2 F_reached := ⟨_, _, _, rfl, G10, PySem.W.mg_of X G a10, e10, F10.binds fun _ _ _ _ _ _ us hl => match us, hl with | [_, _], _ => rfl⟩
  have F11 := fun_mk (st := st_round_again) l11 d11 e11
  have G11 : FnOk P w K mg base (L2.CX P w) 2 f11 _ ["text", "rules"] (spV cm K 2 F_round_again) := ok_round_again T F11 c_round_of
  have c_round_again : Fn P w K mg base cm 2 "round_again" 2 F_round_again := ⟨_, _, _, rfl, G11, PySem.W.mg_of X G a11, e11, F11.binds fun _ _ _ _ _ _ us hl => match us, hl with | [_, _], _ => rfl⟩
  have F12 := fun_mk (st := st__law_value) l12 d12 e12
  have G12 : FnOk P w K mg base (L2.CX P w) 2 f12 _ ["_law_cell", "_law_turn"] (spV cm K 2 F__law_value) := ok__law_value T F12 c__law_draw
  have c__law_value : Fn P w K mg base cm 2 "_law_value" 2 F__law_value := ⟨_, _, _, rfl, G12, PySem.W.mg_of X G a12, e12, F12.binds fun _ _ _ _ _ _ us hl => match us, hl with | [_, _], _ => rfl⟩
  have F13 := fun_mk (st := st_check_rules) l13 d13 e13
  have G13 : FnOk P w K mg base (L2.CX P w) 3 f13 _ ["rules"] (spV cm K 1 F_check_rules) := ok_check_rules T F13 c_is_rule
  have c_check_rules : Fn P w K mg base cm 3 "check_rules" 1 F_check_rules := ⟨_, _, _, rfl, G13, PySem.W.mg_of X G a13, e13, F13.binds fun _ _ _ _ _ _ us hl => match us, hl with | [_], _ => rfl⟩
  have F14 := fun_mk (st := st_makes_more) l14 d14 e14
  have G14 : FnOk P w K mg base (L2.CX P w) 3 f14 _ ["letter", "rules", "rounds"] (spV cm K 3 F_makes_more) := ok_makes_more T F14 c_round_of c_lasts
  have c_makes_more : Fn P w K mg base cm 3 "makes_more" 3 F_makes_more := ⟨_, _, _, rfl, G14, PySem.W.mg_of X G a14, e14, F14.binds fun _ _ _ _ _ _ us hl => match us, hl with | [_, _, _], _ => rfl⟩
  have F15 := fun_mk (st := st__law_letter) l15 d15 e15
  have G15 : FnOk P w K mg base (L2.CX P w) 3 f15 _ ["_law_script", "_law_by", "_law_number"] (spV cm K 3 F__law_letter) := ok__law_letter T F15 c__law_value c__law_cell_at
  have c__law_letter : Fn P w K mg base cm 3 "_law_letter" 3 F__law_letter := ⟨_, _, _, rfl, G15, PySem.W.mg_of X G a15, e15, F15.binds fun _ _ _ _ _ _ us hl => match us, hl with | [_, _, _], _ => rfl⟩
  have F16 := fun_mk (st := st_growing) l16 d16 e16
  have G16 : FnOk P w K mg base (L2.CX P w) 4 f16 _ ["text", "rules"] (spV cm K 2 F_growing) := ok_growing T F16 c_reached c_makes_more
  have c_growing : Fn P w K mg base cm 4 "growing" 2 F_growing := ⟨_, _, _, rfl, G16, PySem.W.mg_of X G a16, e16, F16.binds fun _ _ _ _ _ _ us hl => match us, hl with | [_, _], _ => rfl⟩
  have F17 := fun_mk (st := st_check_far) l17 d17 e17
  have G17 : FnOk P w K mg base (L2.CX P w) 4 f17 _ ["text", "rules", "many"] (spV cm K 3 F_check_far) := ok_check_far T F17 c_check_text c_check_rules c_is_whole
  have c_check_far : Fn P w K mg base cm 4 "check_far" 3 F_check_far := ⟨_, _, _, rfl, G17, PySem.W.mg_of X G a17, e17, F17.binds fun _ _ _ _ _ _ us hl => match us, hl with | [_, _, _], _ => rfl⟩
  have F18 := fun_mk (st := st_gone_round) l18 d18 e18
  have G18 : FnOk P w K mg base (L2.CX P w) 4 f18 _ ["text", "rules"] (spV cm K 2 F_gone_round) := ok_gone_round T F18 c_check_text c_check_rules c_round_of
  have c_gone_round : Fn P w K mg base cm 4 "gone_round" 2 F_gone_round := ⟨_, _, _, rfl, G18, PySem.W.mg_of X G a18, e18, F18.binds fun _ _ _ _ _ _ us hl => match us, hl with | [_, _], _ => rfl⟩
  have F19 := fun_mk (st := st__law_text) l19 d19 e19
  have G19 : FnOk P w K mg base (L2.CX P w) 4 f19 _ ["_law_script", "_law_by", "_law_most", "_law_turn"] (spV cm K 4 F__law_text) := ok__law_text T F19 c__law_cell_at c__law_value c__law_letter
  have c__law_text : Fn P w K mg base cm 4 "_law_text" 4 F__law_text := ⟨_, _, _, rfl, G19, PySem.W.mg_of X G a19, e19, F19.binds fun _ _ _ _ _ _ us hl => match us, hl with | [_, _, _, _], _ => rfl⟩
  have F20 := fun_mk (st := st__law_rules) l20 d20 e20
  have G20 : FnOk P w K mg base (L2.CX P w) 4 f20 _ ["_law_script", "_law_by"] (spV cm K 2 F__law_rules) := ok__law_rules T F20 c__law_value c__law_cell_at c__law_letter
  have c__law_rules : Fn P w K mg base cm 4 "_law_rules" 2 F__law_rules := ⟨_, _, _, rfl, G20, PySem.W.mg_of X G a20, e20, F20.binds fun _ _ _ _ _ _ us hl => match us, hl with | [_, _], _ => rfl⟩
  have F21 := fun_mk (st := st_Grows_shows) l21 d21 e21
  have G21 : FnOk P w K mg base (L2.CX P w) 4 f21 _ ["self", "text", "rules"] (spV cm K 3 F_Grows_shows) := ok_Grows_shows T F21 c_reached c_makes_more
  have c_Grows_shows : Mth P w K mg base cm 4 8 "shows" 2 F_Grows_shows := ⟨_, _, _, ⟨pg8, hd8, po8, sa8⟩, ⟨a21, i21, e21⟩, rfl, G21, F21.binds fun _ _ _ _ _ _ us hl => match us, hl with | [_, _, _], _ => rfl⟩
  have F22 := fun_mk (st := st_long_behind) l22 d22 e22
  have G22 : FnOk P w K mg base (L2.CX P w) 5 f22 _ ["text", "rules", "many"] (spV cm K 3 F_long_behind) := ok_long_behind T F22 c_check_far c_sizes_of
  have c_long_behind : Fn P w K mg base cm 5 "long_behind" 3 F_long_behind := ⟨_, _, _, rfl, G22, PySem.W.mg_of X G a22, e22, F22.binds fun _ _ _ _ _ _ us hl => match us, hl with | [_, _, _], _ => rfl⟩
  have F23 := fun_mk (st := st_letter_at) l23 d23 e23
  have G23 : FnOk P w K mg base (L2.CX P w) 5 f23 _ ["text", "rules", "many", "place"] (spV cm K 4 F_letter_at) := ok_letter_at T F23 c_check_far c_is_whole c_sizes_of
  have c_letter_at : Fn P w K mg base cm 5 "letter_at" 4 F_letter_at := ⟨_, _, _, rfl, G23, PySem.W.mg_of X G a23, e23, F23.binds fun _ _ _ _ _ _ us hl => match us, hl with | [_, _, _, _], _ => rfl⟩
  have F24 := fun_mk (st := st_judged) l24 d24 e24
  have G24 : FnOk P w K mg base (L2.CX P w) 5 f24 _ ["text", "rules"] (spV cm K 2 F_judged) := ok_judged T F24 c_check_text c_check_rules c_growing c_Grows c_round_again c_Round
  have c_judged : Fn P w K mg base cm 5 "judged" 2 F_judged := ⟨_, _, _, rfl, G24, PySem.W.mg_of X G a24, e24, F24.binds fun _ _ _ _ _ _ us hl => match us, hl with | [_, _], _ => rfl⟩
  have F25 := fun_mk (st := st_Round_shows) l25 d25 e25
  have G25 : FnOk P w K mg base (L2.CX P w) 5 f25 _ ["self", "text", "rules"] (spV cm K 3 F_Round_shows) := ok_Round_shows T F25 c_growing c_round_again
  have c_Round_shows : Mth P w K mg base cm 5 7 "shows" 2 F_Round_shows := ⟨_, _, _, ⟨pg7, hd7, po7, sa7⟩, ⟨a25, i25, e25⟩, rfl, G25, F25.binds fun _ _ _ _ _ _ us hl => match us, hl with | [_, _, _], _ => rfl⟩
  have F26 := fun_mk (st := st_law) l26 d26 e26
  have G26 : FnOk P w K mg base (L2.CX P w) 6 fa _ ["_law_script"] (spV cm K 1 F_law) := ok_law T F26 c__law_text c__law_rules c__law_value c__law_cell_at c_gone_round c_long_behind c_letter_at c_judged
  exact G26.imp fun vs H Q E q => by
    obtain ⟨a, ns, e, hs, h1, h2, k⟩ := q
    refine ⟨fun _ => 0, [.scr ns], rfl, ⟨_, [], e, ⟨a, rfl, hs⟩, rfl⟩, ?_⟩
    rw [hl ns h1 h2]
    exact fun c' H' v _ hv => by cases (show v = .bl true from hv); exact k H'
end
theorem walk {l : PySem.W.OpenLaw} {q : Program} {loose : List Str} {XP : (Str → Option Value) → Heap → Prop} {YP : World → Heap → Prop} {d : DefRec} {K : Params → PySem.W.Frag} (hn : l.most = some 63) (hdf : d.params.defaults = [])
    (hY : ∀ (w : World) (h : Heap), YP w h → (K w.params).In h)
    (F : ∀ (w : World) (mg : Str → Option Value) (fa : Addr) (h : Heap), (K w.params).In h → h.Ns mainGlobals mg → mg d.name = some (.ref fa) →
      ∃ fd : FuncData, (∀ (s : Shared) (u : Value), BindsTo s fd ⟨[u], []⟩ [("_law_script", u)]) ∧ ∀ base : Heap, (K w.params).In base → base.Ns mainGlobals mg → FnOk l.prog w (K w.params) mg base (L2.CX l.prog w) 6 fa fd ["_law_script"] (spLaw (K w.params))) :
    PySem.W.WalkO q loose XP YP l.row.toRowW d [] (fun f vs => PySem.call f vs) :=
  L2.walk_ofB (n := 63) (k := 6) (x := "_law_script") (CX := fun w => L2.CX l.prog w) (sp := fun w => spLaw (K w.params)) hn (by decide) hdf ⟨rfl, by decide, by decide⟩ hY F (fun w H a ns h1 h2 _ hs => ⟨a, ns, rfl, hs, h1, h2, fun _ => rfl⟩) fun w H s e s' h => by
    obtain ⟨_, _, _, _, _, _, _, _, _, _, _, _, f⟩ := h
    exact f
end G

/-! ## END08 -/
open PySem PySem.W PyProof.Rows in
set_option maxRecDepth 100000 in
set_option maxHeartbeats 0 in
theorem PySem.Challenge.cw_replaceall_k08_whole_halves_holds : PySem.Challenge.rw_replaceall_k08_whole_halves.Holds := by
  w_on; o_law; k_head; (case hw => w_witness2)
  k_fill
  refine G.walk (l := PySem.Challenge.rw_replaceall_k08_whole_halves) rfl rfl (fun w h Y => PySem.W.kIn_of Y) ?F
  case F =>
    intro w mg fa h KX GX hmg
    refine' G.all_mk KX GX hmg G.lawTrue ?c_BadMany ?c_BadPlace ?c_BadRules ?c_BadText ?c_Grows ?c_Round ?g_LETTERS ?g_LONGEST ?g_MOST_PUT ?g_MOST_ROUNDS ?g_MOST_RULES ?z_all ?z_any ?z_bool ?z_dict ?z_int ?z_isinstance ?z_len ?z_list ?z_max ?z_min ?z_range ?z_set ?z_sorted ?z_str ?z_sum ?z_tuple ?z_zip ?b_BadMany ?b_BadPlace ?b_BadRules ?b_BadText ?k_BadMany ?k_BadPlace ?k_BadRules ?k_BadText ?t_BadMany ?t_BadPlace ?t_BadRules ?t_BadText ?x_BadMany ?x_BadPlace ?x_BadRules ?x_BadText ?pg7 ?hd7 ?po7 ?sa7 ?mk7 ?kc7 ?nf7_0 ?nf7_1 ?ai7 ?ii7 ?li7 ?di7 ?ei7 ?pg8 ?hd8 ?po8 ?sa8 ?mk8 ?kc8 ?nf8_0 ?nf8_1 ?ai8 ?ii8 ?li8 ?di8 ?ei8 ?xn ?xt ?ob7_7 ?ob8_7 ?ob8_8 ?oc7_ ?ot7_ ?xa7 ?xm7 ?xa8 ?xm8 ?a0 ?l0 ?d0 ?e0 ?a1 ?l1 ?d1 ?e1 ?a2 ?l2 ?d2 ?e2 ?a3 ?l3 ?d3 ?e3 ?a4 ?l4 ?d4 ?e4 ?a5 ?l5 ?d5 ?e5 ?a6 ?l6 ?d6 ?e6 ?a7 ?l7 ?d7 ?e7 ?a8 ?l8 ?d8 ?e8 ?a9 ?l9 ?d9 ?e9 ?a10 ?l10 ?d10 ?e10 ?a11 ?l11 ?d11 ?e11 ?a12 ?l12 ?d12 ?e12 ?a13 ?l13 ?d13 ?e13 ?a14 ?l14 ?d14 ?e14 ?a15 ?l15 ?d15 ?e15 ?a16 ?l16 ?d16 ?e16 ?a17 ?l17 ?d17 ?e17 ?a18 ?l18 ?d18 ?e18 ?a19 ?l19 ?d19 ?e19 ?a20 ?l20 ?d20 ?e20 ?a21 ?i21 ?l21 ?d21 ?e21 ?a22 ?l22 ?d22 ?e22 ?a23 ?l23 ?d23 ?e23 ?a24 ?l24 ?d24 ?e24 ?a25 ?i25 ?l25 ?d25 ?e25 ?a26 ?l26 ?d26 ?e26
    (case c_BadMany => k_is)
    (case c_BadPlace => k_is)
    (case c_BadRules => k_is)
    (case c_BadText => k_is)
    (case c_Grows => k_is)
    (case c_Round => k_is)
    (case g_LETTERS => k_is)
    (case g_LONGEST => k_is)
    (case g_MOST_PUT => k_is)
    (case g_MOST_ROUNDS => k_is)
    (case g_MOST_RULES => k_is)
    (case z_all => k_is)
    (case z_any => k_is)
    (case z_bool => k_is)
    (case z_dict => k_is)
    (case z_int => k_is)
    (case z_isinstance => k_is)
    (case z_len => k_is)
    (case z_list => k_is)
    (case z_max => k_is)
    (case z_min => k_is)
    (case z_range => k_is)
    (case z_set => k_is)
    (case z_sorted => k_is)
    (case z_str => k_is)
    (case z_sum => k_is)
    (case z_tuple => k_is)
    (case z_zip => k_is)
    (case b_BadMany => k_is)
    (case b_BadPlace => k_is)
    (case b_BadRules => k_is)
    (case b_BadText => k_is)
    (case k_BadMany => k_is)
    (case k_BadPlace => k_is)
    (case k_BadRules => k_is)
    (case k_BadText => k_is)
    (case t_BadMany => k_is)
    (case t_BadPlace => k_is)
    (case t_BadRules => k_is)
    (case t_BadText => k_is)
    (case x_BadMany => k_exc)
    (case x_BadPlace => k_exc)
    (case x_BadRules => k_exc)
    (case x_BadText => k_exc)
    (case pg7 => k_is)
    (case hd7 => k_is)
    (case po7 => k_is)
    (case sa7 => k_is)
    (case mk7 => k_is)
    (case kc7 => k_is)
    (case nf7_0 => k_is)
    (case nf7_1 => k_is)
    (case ai7 => k_is)
    (case ii7 => k_is)
    (case li7 => k_is)
    (case di7 => k_is)
    (case ei7 => k_is)
    (case pg8 => k_is)
    (case hd8 => k_is)
    (case po8 => k_is)
    (case sa8 => k_is)
    (case mk8 => k_is)
    (case kc8 => k_is)
    (case nf8_0 => k_is)
    (case nf8_1 => k_is)
    (case ai8 => k_is)
    (case ii8 => k_is)
    (case li8 => k_is)
    (case di8 => k_is)
    (case ei8 => k_is)
    (case xn => k_is)
    (case xt => k_is)
    (case ob7_7 => k_is)
    (case ob8_7 => k_is)
    (case ob8_8 => k_is)
    (case oc7_ => k_is)
    (case ot7_ => k_is)
    (case xa7 => k_is)
    (case xm7 => k_is)
    (case xa8 => k_is)
    (case xm8 => k_is)
    (case a0 => k_is)
    (case l0 => k_is)
    (case d0 => k_is)
    (case e0 => k_is)
    (case a1 => k_is)
    (case l1 => k_is)
    (case d1 => k_is)
    (case e1 => k_is)
    (case a2 => k_is)
    (case l2 => k_is)
    (case d2 => k_is)
    (case e2 => k_is)
    (case a3 => k_is)
    (case l3 => k_is)
    (case d3 => k_is)
    (case e3 => k_is)
    (case a4 => k_is)
    (case l4 => k_is)
    (case d4 => k_is)
    (case e4 => k_is)
    (case a5 => k_is)
    (case l5 => k_is)
    (case d5 => k_is)
    (case e5 => k_is)
    (case a6 => k_is)
    (case l6 => k_is)
    (case d6 => k_is)
    (case e6 => k_is)
    (case a7 => k_is)
    (case l7 => k_is)
    (case d7 => k_is)
    (case e7 => k_is)
    (case a8 => k_is)
    (case l8 => k_is)
    (case d8 => k_is)
    (case e8 => k_is)
    (case a9 => k_is)
    (case l9 => k_is)
    (case d9 => k_is)
    (case e9 => k_is)
    (case a10 => k_is)
    (case l10 => k_is)
    (case d10 => k_is)
    (case e10 => k_is)
    (case a11 => k_is)
    (case l11 => k_is)
    (case d11 => k_is)
    (case e11 => k_is)
    (case a12 => k_is)
    (case l12 => k_is)
    (case d12 => k_is)
    (case e12 => k_is)
    (case a13 => k_is)
    (case l13 => k_is)
    (case d13 => k_is)
    (case e13 => k_is)
    (case a14 => k_is)
    (case l14 => k_is)
    (case d14 => k_is)
    (case e14 => k_is)
    (case a15 => k_is)
    (case l15 => k_is)
    (case d15 => k_is)
    (case e15 => k_is)
    (case a16 => k_is)
    (case l16 => k_is)
    (case d16 => k_is)
    (case e16 => k_is)
    (case a17 => k_is)
    (case l17 => k_is)
    (case d17 => k_is)
    (case e17 => k_is)
    (case a18 => k_is)
    (case l18 => k_is)
    (case d18 => k_is)
    (case e18 => k_is)
    (case a19 => k_is)
    (case l19 => k_is)
    (case d19 => k_is)
    (case e19 => k_is)
    (case a20 => k_is)
    (case l20 => k_is)
    (case d20 => k_is)
    (case e20 => k_is)
    (case a21 => k_is)
    (case i21 => k_is)
    (case l21 => k_is)
    (case d21 => k_is)
    (case e21 => k_is)
    (case a22 => k_is)
    (case l22 => k_is)
    (case d22 => k_is)
    (case e22 => k_is)
    (case a23 => k_is)
    (case l23 => k_is)
    (case d23 => k_is)
    (case e23 => k_is)
    (case a24 => k_is)
    (case l24 => k_is)
    (case d24 => k_is)
    (case e24 => k_is)
    (case a25 => k_is)
    (case i25 => k_is)
    (case l25 => k_is)
    (case d25 => k_is)
    (case e25 => k_is)
    (case a26 => k_is)
    (case l26 => k_is)
    (case d26 => k_is)
    (case e26 => k_is)

