import PyProof.Rows.All
import Wide.All
import OpenK.AllK
import Wide.FinOn
import HandS.ForMost
import HandS.ForExc
import HandS.Wide
import HandS.CallSlots
import HandS.Lambda
import HandS.IsInst
import HandS.Flow
import HandS.WideBits
import HandS.Style
import HandS.Defaults
import HandS.Set
import HandS.SetFor
import HandS.More
import HandS.ExcIs
import HandS.Small
import HandS.SortRule
import HandS.SortInts
import HandS.Text
import PyProof.StrWalks
import PyProof.ListStr
import PyProof.EnumMake
import PyProof.Draws
import HandS.Replace
import HandS.Codes
import PyProof.Rows.StrRev
import HandS.EndBits
import HandS.EndTab
import PySem.Challenge.RW_replaceall_k10_refused_rounds
/-! ## ViCore -/
set_option Elab.async false
set_option linter.all false
set_option maxRecDepth 100000
set_option maxHeartbeats 2000000
/-! Vi: plain data over the layer; a small language of evaluators and what they promise. -/
namespace Vi
open PySem L2

/-- plain data -/
inductive D where
  | non | bl (b : Bool) | int (i : Int) | str (s : List Nat) | lst (xs : List D) | tup (xs : List D)
  | dic (ks : List (List Nat)) (xs : List D) | obj (k : Nat) (ns : List Str) (xs : List D) | ty (n : String) | cls (k : Nat) | scr (ns : List Int)

abbrev Col := Addr → Nat
def Gz (c : Col) (H : Hp) : Hp := fun a => if c a = 0 then H a else none
theorem Gz.of {c : Col} {H : Hp} {a : Addr} {o : HO} (h0 : c a = 0) (h : H a = some o) : Gz c H a = some o := by
  unfold Gz; rw [if_pos h0]; exact h
theorem Gz.to {c : Col} {H : Hp} {a : Addr} {o : HO} (h : Gz c H a = some o) : c a = 0 ∧ H a = some o := by
  unfold Gz at h
  by_cases q : c a = 0
  · rw [if_pos q] at h; exact ⟨q, h⟩
  · rw [if_neg q] at h; cases h

def kys (ks : List (List Nat)) (vs : List V) : List (Key × V) := (ks.map fun s => (Sum.inr ⟨s.toArray⟩ : Key)).zip vs

section
variable (cm : Nat → Addr) (K : PySem.W.Frag) (G : Hp)
mutual
def Den : D → V → Prop
  | .non, v => v = .non
  | .bl b, v => v = .bl b
  | .int i, v => v = .int i
  | .str s, v => v = .str ⟨s.toArray⟩
  | .lst xs, v => ∃ a vs, v = .ref a ∧ G a = some (.lst vs) ∧ DenL xs vs
  | .tup xs, v => ∃ a vs, v = .ref a ∧ G a = some (.tup vs) ∧ DenL xs vs
  | .dic ks xs, v => ∃ a vs, v = .ref a ∧ G a = some (.dK (kys ks vs)) ∧ ks.length = vs.length ∧ DenL xs vs
  | .obj k ns xs, v => ∃ a dx vs, v = .ref a ∧ G a = some (.ins (cm k) dx (ns.zip vs)) ∧ ns.length = vs.length ∧ DenL xs vs
  | .ty n, v => v = .ty n
  | .cls k, v => v = .ref (cm k)
  | .scr ns, v => ∃ a, v = .ref a ∧ SqL K G a (ns.map V.int)
def DenL : List D → List V → Prop
  | [], vs => vs = []
  | d :: ds, vs => ∃ v r, vs = v :: r ∧ Den d v ∧ DenL ds r
end
end
section
variable {cm : Nat → Addr} {K : PySem.W.Frag} {G G' : Hp}
theorem rd_mono (e : ∀ a o, G a = some o → G' a = some o) {a : Addr} {u : HO} (h : Rd G a u) : Rd G' a u := by
  rcases h with h | ⟨o, h⟩
  · exact .inl (e _ _ h)
  · exact .inr ⟨o, e _ _ h⟩
theorem sql_mono (e : ∀ a o, G a = some o → G' a = some o) {a : Addr} {xs : List V} (h : SqL K G a xs) : SqL K G' a xs := by
  rcases h with h | h
  · exact .inl (rd_mono e h)
  · exact .inr h
theorem sqt_mono (e : ∀ a o, G a = some o → G' a = some o) {a : Addr} {xs : List V} (h : SqT K G a xs) : SqT K G' a xs := by
  rcases h with h | h
  · exact .inl (rd_mono e h)
  · exact .inr h
mutual
theorem Den.mono (e : ∀ a o, G a = some o → G' a = some o) : ∀ (d : D) (v : V), Den cm K G d v → Den cm K G' d v
  | .non, v, h => h
  | .bl b, v, h => h
  | .int i, v, h => h
  | .str s, v, h => h
  | .lst xs, v, ⟨a, vs, h1, h2, h3⟩ => ⟨a, vs, h1, e _ _ h2, DenL.mono e xs vs h3⟩
  | .tup xs, v, ⟨a, vs, h1, h2, h3⟩ => ⟨a, vs, h1, e _ _ h2, DenL.mono e xs vs h3⟩
  | .dic ks xs, v, ⟨a, vs, h1, h2, h3, h4⟩ => ⟨a, vs, h1, e _ _ h2, h3, DenL.mono e xs vs h4⟩
  | .obj k ns xs, v, ⟨a, dx, vs, h1, h2, h3, h4⟩ => ⟨a, dx, vs, h1, e _ _ h2, h3, DenL.mono e xs vs h4⟩
  | .ty n, v, h => h
  | .cls k, v, h => h
  | .scr ns, v, ⟨a, h1, h2⟩ => ⟨a, h1, sql_mono e h2⟩
theorem DenL.mono (e : ∀ a o, G a = some o → G' a = some o) : ∀ (ds : List D) (vs : List V), DenL cm K G ds vs → DenL cm K G' ds vs
  | [], vs, h => h
  | d :: ds, vs, ⟨v, r, h1, h2, h3⟩ => ⟨v, r, h1, Den.mono e d v h2, DenL.mono e ds r h3⟩
end
theorem DenL.length : ∀ {ds : List D} {vs : List V}, DenL cm K G ds vs → ds.length = vs.length
  | [], vs, h => by cases h; rfl
  | d :: ds, vs, ⟨v, r, h1, h2, h3⟩ => by subst h1; rw [List.length_cons, List.length_cons, DenL.length h3]
theorem DenL.append : ∀ {ds es : List D} {vs us : List V}, DenL cm K G ds vs → DenL cm K G es us → DenL cm K G (ds ++ es) (vs ++ us)
  | [], es, vs, us, h, h' => by cases h; exact h'
  | d :: ds, es, vs, us, ⟨v, r, h1, h2, h3⟩, h' => by subst h1; exact ⟨v, r ++ us, rfl, h2, DenL.append h3 h'⟩
theorem DenL.get : ∀ {ds : List D} {vs : List V} {i : Nat} {d : D}, DenL cm K G ds vs → ds[i]? = some d → ∃ v, vs[i]? = some v ∧ Den cm K G d v
  | [], vs, i, d, h, e => by simp at e
  | d' :: ds, vs, 0, d, ⟨v, r, h1, h2, h3⟩, e => by
    subst h1
    have q : d' = d := by simpa using e
    subst q
    exact ⟨v, rfl, h2⟩
  | d' :: ds, vs, i + 1, d, ⟨v, r, h1, h2, h3⟩, e => by
    subst h1
    obtain ⟨u, q1, q2⟩ := DenL.get (i := i) h3 (by simpa using e)
    exact ⟨u, by simpa using q1, q2⟩
theorem DenL.get' : ∀ {ds : List D} {vs : List V} {i : Nat} {v : V}, DenL cm K G ds vs → vs[i]? = some v → ∃ d, ds[i]? = some d ∧ Den cm K G d v
  | [], vs, i, v, h, e => by cases h; simp at e
  | d' :: ds, vs, 0, v, ⟨v', r, h1, h2, h3⟩, e => by
    subst h1
    have q : v' = v := by simpa using e
    subst q
    exact ⟨d', rfl, h2⟩
  | d' :: ds, vs, i + 1, v, ⟨v', r, h1, h2, h3⟩, e => by
    subst h1
    obtain ⟨u, q1, q2⟩ := DenL.get' (i := i) h3 (by simpa using e)
    exact ⟨u, by simpa using q1, q2⟩
theorem DenL.take : ∀ {ds : List D} {vs : List V} (n : Nat), DenL cm K G ds vs → DenL cm K G (ds.take n) (vs.take n)
  | [], vs, n, h => by cases h; simp [DenL]
  | d :: ds, vs, 0, h => by simp [DenL]
  | d :: ds, vs, n + 1, ⟨v, r, h1, h2, h3⟩ => by subst h1; exact ⟨v, r.take n, rfl, h2, DenL.take n h3⟩
theorem DenL.drop : ∀ {ds : List D} {vs : List V} (n : Nat), DenL cm K G ds vs → DenL cm K G (ds.drop n) (vs.drop n)
  | [], vs, n, h => by cases h; simp [DenL]
  | d :: ds, vs, 0, h => by simpa using h
  | d :: ds, vs, n + 1, ⟨v, r, h1, h2, h3⟩ => by subst h1; exact DenL.drop n h3
theorem DenL.set : ∀ {ds : List D} {vs : List V} {d : D} {v : V} (n : Nat), DenL cm K G ds vs → Den cm K G d v → DenL cm K G (ds.set n d) (vs.set n v)
  | [], vs, d, v, n, h, h' => by cases h; simp [DenL]
  | d0 :: ds, vs, d, v, 0, ⟨v0, r, h1, h2, h3⟩, h' => by subst h1; exact ⟨v, r, rfl, h', h3⟩
  | d0 :: ds, vs, d, v, n + 1, ⟨v0, r, h1, h2, h3⟩, h' => by subst h1; exact ⟨v0, r.set n v, rfl, h2, DenL.set n h3 h'⟩
end

/-! ### what a name holds -/
inductive S where
  | un | fr (d : D) | own (d : D) | bor (d : D) | rc (p : Bool) (d : D) | tab (ts : List (Nat × Str))

/-- what a callee may read: what stands still, and what is not this def's own -/
def Gb (n : Nat) (c : Col) (H : Hp) : Hp := fun a => if c a = 0 ∨ n + 8 < c a then H a else none
theorem Gb.of {n : Nat} {c : Col} {H : Hp} {a : Addr} {o : HO} (h0 : c a = 0 ∨ n + 8 < c a) (h : H a = some o) : Gb n c H a = some o := by
  unfold Gb; rw [if_pos h0]; exact h
theorem Gb.to {n : Nat} {c : Col} {H : Hp} {a : Addr} {o : HO} (h : Gb n c H a = some o) : (c a = 0 ∨ n + 8 < c a) ∧ H a = some o := by
  unfold Gb at h
  by_cases q : c a = 0 ∨ n + 8 < c a
  · rw [if_pos q] at h; exact ⟨q, h⟩
  · rw [if_neg q] at h; cases h
section
variable (cm : Nat → Addr) (K : PySem.W.Frag) (n : Nat)
/-- read at the top from Gt, within from Gi -/
def DenX (Gt Gi : Hp) : D → V → Prop
  | .lst xs, v => ∃ a vs, v = .ref a ∧ Gt a = some (.lst vs) ∧ DenL cm K Gi xs vs
  | .dic ks xs, v => ∃ a vs, v = .ref a ∧ Gt a = some (.dK (kys ks vs)) ∧ ks.length = vs.length ∧ DenL cm K Gi xs vs
  | d, v => Den cm K Gi d v
abbrev DenR (c : Col) (H : Hp) : D → V → Prop := DenX cm K H (Gz c H)
abbrev DenB (c : Col) (H : Hp) : D → V → Prop := DenX cm K (Gb n c H) (Gz c H)
/-- a list, a dict of its own at a -/
def Cont (c : Col) (H : Hp) (a : Addr) : D → Prop
  | .lst xs => ∃ vs, H a = some (.lst vs) ∧ DenL cm K (Gz c H) xs vs
  | .dic ks xs => ∃ vs, H a = some (.dK (kys ks vs)) ∧ ks.length = vs.length ∧ DenL cm K (Gz c H) xs vs
  | _ => False
/-- a field of a record: a list of the record's own, or what stands still -/
def FOk (G H : Hp) (P : Addr → Prop) (d : D) (v : V) : Prop := match d with
  | .lst ys => ∃ b us, v = .ref b ∧ P b ∧ H b = some (.lst us) ∧ DenL cm K G ys us
  | d => Den cm K G d v
structure Flds (G H : Hp) (P : Addr → Prop) (xs : List D) (vs : List V) : Prop where
  len : xs.length = vs.length
  ok : ∀ (i : Nat) (d : D) (v : V), xs[i]? = some d → vs[i]? = some v → FOk cm K G H P d v
  apart : ∀ (i j : Nat) (ys zs : List D) (b : Addr), xs[i]? = some (.lst ys) → xs[j]? = some (.lst zs) → vs[i]? = some (V.ref b) → vs[j]? = some (V.ref b) → i = j
def HeadO (H : Hp) (a : Addr) (d : D) (xs : List D) (vs : List V) : Prop := match d with
  | .obj k ns ys => xs = ys ∧ ns.length = vs.length ∧ ∃ dx, H a = some (.ins (cm k) dx (ns.zip vs))
  | .dic ks ys => xs = ys ∧ ks.length = vs.length ∧ H a = some (.dK (kys ks vs))
  | _ => False
/-- a record: an instance or a dict whose fields may be changed, with lists of its own; P: its addresses -/
def RecC (G H : Hp) (P : Addr → Prop) (v : V) (d : D) : Prop := ∃ a xs vs, v = .ref a ∧ P a ∧ HeadO cm H a d xs vs ∧ Flds cm K G H P xs vs
/-- a table of code objects, all of one name -/
def TabC (G H : Hp) (P : Addr) (q : Str) : Prop := ∃ ps : Array Value, H P = some (.tbl ps) ∧ TriplesOk ps.toList ∧ ∀ (pos : Pos) (cv : Value), codeAmong pos ps.toList = some cv → ∃ a, cv = .ref a ∧ G a = some (LamX.CodeO a q)
def RepS (c : Col) (H : Hp) (i : Nat) (v : Option V) : S → Prop
  | .un => True
  | .fr d => ∃ u, v = some u ∧ Den cm K (Gz c H) d u
  | .own d => ∃ a, v = some (.ref a) ∧ c a = i + 1 ∧ Cont cm K c H a d
  | .bor d => ∃ u, v = some u ∧ DenB cm K n c H d u
  | .rc _ d => ∃ u, v = some u ∧ RecC cm K (Gz c H) H (fun b => c b = i + 1) u d
  | .tab ts => (∀ p ∈ ts, ∀ q ∈ ts, cm p.1 = cm q.1 → p = q) ∧ ∀ p ∈ ts, p.1 ≠ 0 ∧ c (cm p.1) = i + 1 ∧ TabC (Gz c H) H (cm p.1) p.2
structure Rep (c : Col) (H : Hp) (ρ : List S) (σ : St) : Prop where
  len : ρ.length = n
  lenσ : σ.length = n
  at_ : ∀ i s, ρ[i]? = some s → ∃ v, σ[i]? = some v ∧ RepS cm K n c H i v s
end
/-- what a stretch of code leaves as it was -/
def Stp (n : Nat) (c c' : Col) (H H' : Hp) : Prop := ∀ a o, H a = some o → (∃ o', H' a = some o') ∧ (c a = 0 → c' a = 0 ∧ H' a = some o) ∧ (n < c a → c' a = c a ∧ H' a = some o)
theorem Stp.refl {n : Nat} {c : Col} {H : Hp} : Stp n c c H H := fun a o h => ⟨⟨o, h⟩, fun q => ⟨q, h⟩, fun _ => ⟨rfl, h⟩⟩
theorem Stp.trans {n : Nat} {c c1 c2 : Col} {H H1 H2 : Hp} (a : Stp n c c1 H H1) (b : Stp n c1 c2 H1 H2) : Stp n c c2 H H2 := fun x o h => by
  obtain ⟨⟨o1, h1⟩, h2, h3⟩ := a x o h
  obtain ⟨k1, k2, k3⟩ := b x o1 h1
  refine ⟨k1, fun q => ?_, fun q => ?_⟩
  · obtain ⟨e1, e2⟩ := h2 q
    rw [h1] at e2; cases e2
    exact k2 e1
  · obtain ⟨e1, e2⟩ := h3 q
    rw [h1] at e2; cases e2
    obtain ⟨z1, z2⟩ := k3 (by rw [e1]; exact q)
    exact ⟨z1.trans e1, z2⟩
theorem Stp.gz {n : Nat} {c c' : Col} {H H' : Hp} (s : Stp n c c' H H') : ∀ a o, Gz c H a = some o → Gz c' H' a = some o := fun a o h => by
  obtain ⟨h0, h1⟩ := Gz.to h
  obtain ⟨q1, q2⟩ := (s a o h1).2.1 h0
  exact Gz.of q1 q2
theorem Stp.gb {n : Nat} {c c' : Col} {H H' : Hp} (s : Stp n c c' H H') : ∀ a o, Gb n c H a = some o → Gb n c' H' a = some o := fun a o h => by
  obtain ⟨h0, h1⟩ := Gb.to h
  rcases h0 with q | q
  · obtain ⟨q1, q2⟩ := (s a o h1).2.1 q
    exact Gb.of (.inl q1) q2
  · obtain ⟨q1, q2⟩ := (s a o h1).2.2 (by omega)
    exact Gb.of (.inr (by rw [q1]; exact q)) q2
theorem Stp.free {n : Nat} {c c' : Col} {H H' : Hp} (s : Stp n c c' H H') {p : Addr} (h : H' p = none) : H p = none := by
  cases q : H p with
  | none => rfl
  | some o =>
    obtain ⟨⟨o', e⟩, _⟩ := s p o q
    rw [h] at e; cases e

section
variable {cm : Nat → Addr} {K : PySem.W.Frag} {n : Nat} {c c' : Col} {H H' Gt Gi Gt' Gi' : Hp}
theorem gz_sub : ∀ a o, Gz c H a = some o → H a = some o := fun a o h => (Gz.to h).2
theorem gb_sub : ∀ a o, Gb n c H a = some o → H a = some o := fun a o h => (Gb.to h).2
theorem gzb_sub : ∀ a o, Gz c H a = some o → Gb n c H a = some o := fun a o h => Gb.of (.inl (Gz.to h).1) (Gz.to h).2
theorem DenX.mono (et : ∀ a o, Gt a = some o → Gt' a = some o) (ei : ∀ a o, Gi a = some o → Gi' a = some o) {d : D} {v : V} (h : DenX cm K Gt Gi d v) : DenX cm K Gt' Gi' d v := by
  cases d with
  | lst xs => obtain ⟨a, vs, h1, h2, h3⟩ := h; exact ⟨a, vs, h1, et _ _ h2, DenL.mono ei _ _ h3⟩
  | dic ks xs => obtain ⟨a, vs, h1, h2, h3, h4⟩ := h; exact ⟨a, vs, h1, et _ _ h2, h3, DenL.mono ei _ _ h4⟩
  | _ => exact Den.mono ei _ _ h
theorem Den.x {d : D} {v : V} (h : Den cm K Gi d v) (e : ∀ a o, Gi a = some o → Gt a = some o) : DenX cm K Gt Gi d v := by
  cases d with
  | lst xs => obtain ⟨a, vs, h1, h2, h3⟩ := h; exact ⟨a, vs, h1, e _ _ h2, h3⟩
  | dic ks xs => obtain ⟨a, vs, h1, h2, h3, h4⟩ := h; exact ⟨a, vs, h1, e _ _ h2, h3, h4⟩
  | _ => exact h
theorem Den.r {d : D} {v : V} (h : Den cm K (Gz c H) d v) : DenR cm K c H d v := h.x gz_sub
theorem Den.b {d : D} {v : V} (h : Den cm K (Gz c H) d v) : DenB cm K n c H d v := h.x gzb_sub
theorem DenB.r {d : D} {v : V} (h : DenB cm K n c H d v) : DenR cm K c H d v := DenX.mono gb_sub (fun _ _ h => h) h
theorem Cont.r {a : Addr} {d : D} (h : Cont cm K c H a d) : DenR cm K c H d (.ref a) := by
  cases d with
  | lst xs => obtain ⟨vs, h1, h2⟩ := h; exact ⟨a, vs, rfl, h1, h2⟩
  | dic ks xs => obtain ⟨vs, h1, h2, h3⟩ := h; exact ⟨a, vs, rfl, h1, h2, h3⟩
  | _ => exact h.elim
theorem Cont.b {a : Addr} {d : D} (h : Cont cm K c H a d) (q : c a = 0 ∨ n + 8 < c a) : DenB cm K n c H d (.ref a) := by
  cases d with
  | lst xs => obtain ⟨vs, h1, h2⟩ := h; exact ⟨a, vs, rfl, Gb.of q h1, h2⟩
  | dic ks xs => obtain ⟨vs, h1, h2, h3⟩ := h; exact ⟨a, vs, rfl, Gb.of q h1, h2, h3⟩
  | _ => exact h.elim
theorem Cont.some_ {a : Addr} {d : D} (h : Cont cm K c H a d) : ∃ o, H a = some o := by
  cases d with
  | lst xs => obtain ⟨vs, h1, h2⟩ := h; exact ⟨_, h1⟩
  | dic ks xs => obtain ⟨vs, h1, h2, h3⟩ := h; exact ⟨_, h1⟩
  | _ => exact h.elim
theorem Cont.keep {a : Addr} {d : D} (g : ∀ a o, Gz c H a = some o → Gz c' H' a = some o) (h : Cont cm K c H a d) (e : ∀ o, H a = some o → H' a = some o) : Cont cm K c' H' a d := by
  cases d with
  | lst xs => obtain ⟨vs, h1, h2⟩ := h; exact ⟨vs, e _ h1, DenL.mono g _ _ h2⟩
  | dic ks xs => obtain ⟨vs, h1, h2, h3⟩ := h; exact ⟨vs, e _ h1, h2, DenL.mono g _ _ h3⟩
  | _ => exact h.elim
theorem Cont.den {a : Addr} {d : D} (h : Cont cm K c H a d) (h0 : c a = 0) : Den cm K (Gz c H) d (.ref a) := by
  cases d with
  | lst xs => obtain ⟨vs, h1, h2⟩ := h; exact ⟨a, vs, rfl, Gz.of h0 h1, h2⟩
  | dic ks xs => obtain ⟨vs, h1, h2, h3⟩ := h; exact ⟨a, vs, rfl, Gz.of h0 h1, h2, h3⟩
  | _ => exact h.elim
theorem FOk.mono {G G' : Hp} {P P' : Addr → Prop} {d : D} {v : V} (g : ∀ a o, G a = some o → G' a = some o) (h : ∀ b o, P b → H b = some o → P' b ∧ H' b = some o) (x : FOk cm K G H P d v) : FOk cm K G' H' P' d v := by
  cases d with
  | lst ys => obtain ⟨b, us, e, p, q, r⟩ := x; exact ⟨b, us, e, (h b _ p q).1, (h b _ p q).2, DenL.mono g _ _ r⟩
  | _ => exact Den.mono g _ _ x
theorem Flds.mono {G G' : Hp} {P P' : Addr → Prop} {xs : List D} {vs : List V} (g : ∀ a o, G a = some o → G' a = some o) (h : ∀ b o, P b → H b = some o → P' b ∧ H' b = some o) (x : Flds cm K G H P xs vs) : Flds cm K G' H' P' xs vs :=
  ⟨x.len, fun i d v e1 e2 => (x.ok i d v e1 e2).mono g h, x.apart⟩
theorem HeadO.some_ {a : Addr} {d : D} {xs : List D} {vs : List V} (x : HeadO cm H a d xs vs) : ∃ o, H a = some o := by
  cases d with
  | obj k ns ys => obtain ⟨_, _, dx, e⟩ := x; exact ⟨_, e⟩
  | dic ks ys => obtain ⟨_, _, e⟩ := x; exact ⟨_, e⟩
  | _ => exact x.elim
theorem HeadO.mono {a : Addr} {d : D} {xs : List D} {vs : List V} (h : ∀ o, H a = some o → H' a = some o) (x : HeadO cm H a d xs vs) : HeadO cm H' a d xs vs := by
  cases d with
  | obj k ns ys => obtain ⟨e1, e2, dx, e⟩ := x; exact ⟨e1, e2, dx, h _ e⟩
  | dic ks ys => obtain ⟨e1, e2, e⟩ := x; exact ⟨e1, e2, h _ e⟩
  | _ => exact x.elim
theorem TabC.mono {G G' : Hp} {P : Addr} {q : Str} (g : ∀ a o, G a = some o → G' a = some o) (h : ∀ o, H P = some o → H' P = some o) (x : TabC G H P q) : TabC G' H' P q := by
  obtain ⟨ps, h1, h2, h3⟩ := x
  refine ⟨ps, h _ h1, h2, fun pos cv e => ?_⟩
  obtain ⟨a, e1, e2⟩ := h3 pos cv e
  exact ⟨a, e1, g _ _ e2⟩
theorem RecC.mono {G G' : Hp} {P P' : Addr → Prop} {v : V} {d : D} (g : ∀ a o, G a = some o → G' a = some o) (h : ∀ b o, P b → H b = some o → P' b ∧ H' b = some o) (x : RecC cm K G H P v d) : RecC cm K G' H' P' v d := by
  obtain ⟨a, xs, vs, e, p, hd, f⟩ := x
  obtain ⟨o, ho⟩ := hd.some_
  exact ⟨a, xs, vs, e, (h a o p ho).1, hd.mono fun o q => (h a o p q).2, f.mono g h⟩
end
end Vi

/-! ## ViSem -/
set_option Elab.async false
set_option linter.all false
set_option maxRecDepth 100000
set_option maxHeartbeats 2000000
namespace Vi
open PySem L2

/-! ### evaluators -/
inductive R (α : Type) where
  | ok (a : α) (ρ : List S) | exc (k : Nat) (ρ : List S) | bad
def M (α : Type) := List S → R α
def M.pure {α : Type} (a : α) : M α := fun ρ => .ok a ρ
def M.bind {α β : Type} (f : M α) (g : α → M β) : M β := fun ρ => match f ρ with
  | .ok a ρ' => g a ρ'
  | .exc k ρ' => .exc k ρ'
  | .bad => .bad
instance : Monad M where
  pure := M.pure
  bind := M.bind
def M.bad {α : Type} : M α := fun _ => .bad
def M.lift {α : Type} (o : Option α) : M α := match o with | some a => M.pure a | none => M.bad
theorem M.pure_run {α : Type} (a : α) (ρ : List S) : (Pure.pure a : M α) ρ = .ok a ρ := rfl
theorem M.bind_run {α β : Type} (f : M α) (g : α → M β) (ρ : List S) : (f >>= g) ρ = match f ρ with
  | .ok a ρ' => g a ρ'
  | .exc k ρ' => .exc k ρ'
  | .bad => .bad := rfl

/-- what an expression gives: a value that stands still, the thing at a name, a new list or dict -/
inductive Hd where
  | val (d : D) | slot (i : Nat) | new (d : D) | rc (j : Nat) (d : D)
def at_ (ρ : List S) (i : Nat) : S := (ρ[i]?).getD .un
theorem at_some {ρ : List S} {i : Nat} {s : S} (h : at_ ρ i = s) (hs : s ≠ .un) : ρ[i]? = some s := by
  unfold at_ at h
  cases q : ρ[i]? with
  | none => rw [q] at h; exact absurd h.symm hs
  | some t => rw [q] at h; exact congrArg some h
def S.rd : S → List S → R D
  | .un, _ => .bad
  | .fr d, ρ => .ok d ρ
  | .own d, ρ => .ok d ρ
  | .bor d, ρ => .ok d ρ
  | .rc _ _, _ => .bad
  | .tab _, _ => .bad
def S.fz (i : Nat) : S → List S → R D
  | .fr d, ρ => .ok d ρ
  | .own d, ρ => .ok d (ρ.set i (.fr d))
  | _, _ => .bad
def S.put (i j : Nat) : S → List S → R Unit
  | .fr d, ρ => .ok () (ρ.set i (.fr d))
  | .own d, ρ => .ok () ((ρ.set j (.fr d)).set i (.fr d))
  | _, _ => .bad
def S.giv : S → List S → R S
  | .fr d, ρ => .ok (.fr d) ρ
  | .own d, ρ => .ok (.own d) ρ
  | _, _ => .bad
def rd : Hd → M D
  | .val d, ρ => .ok d ρ
  | .new d, ρ => .ok d ρ
  | .slot i, ρ => (at_ ρ i).rd ρ
  | .rc _ _, _ => .bad
/-- it is to stand still from now on -/
def fz : Hd → M D
  | .val d, ρ => .ok d ρ
  | .new d, ρ => .ok d ρ
  | .slot i, ρ => (at_ ρ i).fz i ρ
  | .rc _ _, _ => .bad
/-- stored at a name -/
def put (i : Nat) : Hd → M Unit
  | .val d, ρ => .ok () (ρ.set i (.fr d))
  | .new d, ρ => .ok () (ρ.set i (.own d))
  | .slot j, ρ => (at_ ρ j).put i j ρ
  | .rc _ d, ρ => .ok () (ρ.set i (.rc false d))
/-- handed back: s is .fr or .own -/
def giv : Hd → M S
  | .val d, ρ => .ok (.fr d) ρ
  | .new d, ρ => .ok (.own d) ρ
  | .slot j, ρ => (at_ ρ j).giv ρ
  | .rc _ _, _ => .bad

/-- no name becomes a borrowed one -/
def tagS : S → Option (Option D)
  | .bor d => some (some d)
  | .rc true _ => some none
  | _ => none
def tgO (ρ : List S) (i : Nat) : Option (Option D) := (ρ[i]?).bind tagS
theorem tgO_bor {ρ : List S} {i : Nat} {d : D} : tgO ρ i = some (some d) ↔ ρ[i]? = some (.bor d) := by
  unfold tgO
  constructor
  · intro h
    cases q : ρ[i]? with
    | none => rw [q] at h; cases h
    | some s =>
      rw [q] at h
      cases s with
      | bor e => have h : some (some e) = some (some d) := h; cases h; rfl
      | rc p e => cases p with
        | true => cases (show some none = some (some d) from h)
        | false => cases (show none = some (some d) from h)
      | _ => cases (show none = some (some d) from h)
  · intro h; rw [h]; rfl
theorem tgO_rc {ρ : List S} {i : Nat} : tgO ρ i = some none ↔ ∃ d, ρ[i]? = some (.rc true d) := by
  unfold tgO
  constructor
  · intro h
    cases q : ρ[i]? with
    | none => rw [q] at h; cases h
    | some s =>
      rw [q] at h
      cases s with
      | bor e => cases (show some (some e) = some none from h)
      | rc p e => cases p with
        | true => exact ⟨e, rfl⟩
        | false => cases (show none = some none from h)
      | _ => cases (show none = some (none : Option D) from h)
  · intro ⟨d, h⟩; rw [h]; rfl
theorem tgO_set {ρ : List S} {i j : Nat} {s : S} : tgO (ρ.set i s) j = if i = j ∧ j < ρ.length then tagS s else tgO ρ j := by
  unfold tgO
  by_cases e : i = j
  · subst e
    by_cases h : i < ρ.length
    · rw [List.getElem?_set_self h, if_pos ⟨rfl, h⟩]; rfl
    · rw [if_neg (fun z => h z.2), List.getElem?_eq_none (by rw [List.length_set]; omega), List.getElem?_eq_none (by omega)]
  · rw [List.getElem?_set_ne e, if_neg (fun z => e z.1)]
def Kq (ρ ρ' : List S) : Prop := ∀ (i : Nat) (t : Option D), tgO ρ' i = some t → tgO ρ i = some t
structure Stq (n : Nat) (ρ ρ' : List S) (c c' : Col) (H H' : Hp) : Prop where
  st : Stp n c c' H H'
  kq : Kq ρ ρ'
theorem Stq.refl {n : Nat} {ρ : List S} {c : Col} {H : Hp} : Stq n ρ ρ c c H H := ⟨Stp.refl, fun _ _ h => h⟩
theorem Stq.trans {n : Nat} {ρ ρ1 ρ2 : List S} {c c1 c2 : Col} {H H1 H2 : Hp} (a : Stq n ρ ρ1 c c1 H H1) (b : Stq n ρ1 ρ2 c1 c2 H1 H2) : Stq n ρ ρ2 c c2 H H2 := ⟨a.st.trans b.st, fun i d h => a.kq i d (b.kq i d h)⟩
theorem Stp.stq {n : Nat} {ρ : List S} {c c' : Col} {H H' : Hp} (s : Stp n c c' H H') : Stq n ρ ρ c c' H H' := ⟨s, fun _ _ h => h⟩
theorem Stq.app {n : Nat} {ρ ρ1 : List S} {c c1 c2 : Col} {H H1 H2 : Hp} (a : Stq n ρ ρ1 c c1 H H1) (b : Stp n c1 c2 H1 H2) : Stq n ρ ρ1 c c2 H H2 := ⟨a.st.trans b, a.kq⟩
section
variable (cm : Nat → Addr) (K : PySem.W.Frag) (n : Nat) (W : WX)
/-- from the state (ρ₀, c₀, H₀), at σ: what is wanted of an end -/
def QR {α β : Type} (rel : Hp → Col → Hp → St → α → β → Prop) (Q : β → Hp → Prop) (ρ₀ : List S) (c₀ : Col) (H₀ : Hp) (σ : St) : R α → Prop
  | .ok a ρ' => ∀ c' H' x, Stq n ρ₀ ρ' c₀ c' H₀ H' → Rep cm K n c' H' ρ' σ → rel H₀ c' H' σ a x → Q x H'
  | .exc k ρ' => ∀ c' H', Stq n ρ₀ ρ' c₀ c' H₀ H' → Rep cm K n c' H' ρ' σ → W (.ref (cm k)) none σ H'
  | .bad => False
def Sem {α β : Type} (rel : Hp → Col → Hp → St → α → β → Prop) (t : St → Hp → (β → Hp → Prop) → Prop) (f : M α) : Prop :=
  ∀ ρ c σ H Q, Rep cm K n c H ρ σ → QR cm K n W rel Q ρ c H σ (f ρ) → t σ H Q
def SemK {α β γ δ : Type} (rel : Hp → Col → Hp → St → α → β → Prop) (rel' : Hp → Col → Hp → St → γ → δ → Prop) (u : β → St → Hp → (δ → Hp → Prop) → Prop) (g : α → M γ) : Prop :=
  ∀ ρ₀ c₀ H₀ a x ρ c σ H Q, Stq n ρ₀ ρ c₀ c H₀ H → Rep cm K n c H ρ σ → rel H₀ c H σ a x → QR cm K n W rel' Q ρ₀ c₀ H₀ σ (g a ρ) → u x σ H Q
/-- a relation that further steps keep -/
def Stab {α β : Type} (rel : Hp → Col → Hp → St → α → β → Prop) : Prop :=
  (∀ H₀ c c' H H' σ a x, Stp n c c' H H' → rel H₀ c H σ a x → rel H₀ c' H' σ a x) ∧ (∀ c₀ c₁ H₀ H₁ c H σ a x, Stp n c₀ c₁ H₀ H₁ → rel H₁ c H σ a x → rel H₀ c H σ a x)
end
section
variable {cm : Nat → Addr} {K : PySem.W.Frag} {n : Nat} {W : WX} {α β γ δ ε ζ : Type}
variable {rel : Hp → Col → Hp → St → α → β → Prop} {rel' : Hp → Col → Hp → St → γ → δ → Prop} {rel'' : Hp → Col → Hp → St → ε → ζ → Prop}
/-- from a later base -/
theorem QR.later {Q : β → Hp → Prop} {ρ₀ ρ₁ : List S} {c₀ c₁ : Col} {H₀ H₁ : Hp} {σ : St} {r : R α} (st : ∀ c H a x, rel H₁ c H σ a x → rel H₀ c H σ a x) (s : Stq n ρ₀ ρ₁ c₀ c₁ H₀ H₁) (h : QR cm K n W rel Q ρ₀ c₀ H₀ σ r) : QR cm K n W rel Q ρ₁ c₁ H₁ σ r := by
  cases r with
  | ok a ρ' => exact fun c' H' x s' r e => h c' H' x (s.trans s') r (st _ _ _ _ e)
  | exc k ρ' => exact fun c' H' s' r => h c' H' (s.trans s') r
  | bad => exact h
theorem Sem.bind {t : St → Hp → (β → Hp → Prop) → Prop} {u : β → St → Hp → (δ → Hp → Prop) → Prop} {f : M α} {g : α → M γ} (ht : Sem cm K n W rel t f) (hg : SemK cm K n W rel rel' u g) :
    Sem cm K n W rel' (fun σ H Q => t σ H fun x H1 => u x σ H1 Q) (f >>= g) := by
  intro ρ c σ H Q r q
  refine ht ρ c σ H _ r ?_
  rw [M.bind_run] at q
  cases e : f ρ with
  | ok a ρ' =>
    rw [e] at q
    intro c' H' x s r' ex
    exact hg ρ c H a x ρ' c' σ H' Q s r' ex q
  | exc k ρ' => rw [e] at q; exact q
  | bad => rw [e] at q; exact q
/-- a stretch within a continuation -/
theorem SemK.of {t : St → Hp → (δ → Hp → Prop) → Prop} {f : M γ} (st : Stab n rel') (ht : Sem cm K n W rel' t f) : SemK cm K n W rel rel' (fun _ => t) (fun _ => f) := by
  intro ρ₀ c₀ H₀ a x ρ c σ H Q s r _ q
  exact ht ρ c σ H Q r (q.later (fun _ _ _ _ e => st.2 _ _ _ _ _ _ _ _ _ s.st e) s)
end

section
variable (cm : Nat → Addr) (K : PySem.W.Frag) (n : Nat)
/-- what a handle tells of a value; H₀: the heap ahead -/
def HdOk (H₀ : Hp) (c : Col) (H : Hp) (σ : St) (h : Hd) (v : V) : Prop := match h with
  | .val d => Den cm K (Gz c H) d v
  | .slot i => σ[i]? = some (some v)
  | .new d => ∃ a, v = .ref a ∧ H₀ a = none ∧ c a = n + 1 ∧ Cont cm K c H a d
  | .rc j d => j < 6 ∧ RecC cm K (Gz c H) H (fun b => c b = n + 2 + j ∧ H₀ b = none) v d
def DOk (H₀ : Hp) (c : Col) (H : Hp) (σ : St) (d : D) (v : V) : Prop := Den cm K (Gz c H) d v
def DsOk (H₀ : Hp) (c : Col) (H : Hp) (σ : St) (d : List D) (v : List V) : Prop := DenL cm K (Gz c H) d v
def BlOk (H₀ : Hp) (c : Col) (H : Hp) (σ : St) (a b : Bool) : Prop := a = b
end
section
variable {cm : Nat → Addr} {K : PySem.W.Frag} {n : Nat} {W : WX} {c c' c₀ : Col} {H H' H₀ : Hp} {σ : St} {ρ ρ' : List S}
theorem HdOk.stp {h : Hd} {v : V} (s : Stp n c c' H H') (x : HdOk cm K n H₀ c H σ h v) : HdOk cm K n H₀ c' H' σ h v := by
  cases h with
  | val d => exact Den.mono s.gz _ _ x
  | slot i => exact x
  | new d =>
    obtain ⟨a, e, h0, h1, h2⟩ := x
    have hk : ∀ o, H a = some o → c' a = c a ∧ H' a = some o := fun o q => (s a o q).2.2 (by rw [h1]; exact Nat.lt_succ_self n)
    obtain ⟨o, ho⟩ := h2.some_
    exact ⟨a, e, h0, (hk o ho).1.trans h1, h2.keep s.gz fun o q => (hk o q).2⟩
  | rc j d => exact ⟨x.1, x.2.mono s.gz fun b o p q => ⟨⟨((s b o q).2.2 (by rw [p.1]; omega)).1.trans p.1, p.2⟩, ((s b o q).2.2 (by rw [p.1]; omega)).2⟩⟩
theorem hd_stab : Stab n (HdOk cm K n) := by
  refine ⟨fun H₀ c c' H H' σ a x s h => h.stp s, fun c₀ c₁ H₀ H₁ c H σ a x s h => ?_⟩
  cases a with
  | val d => exact h
  | slot i => exact h
  | new d =>
    obtain ⟨a, e, h0, h1, h2⟩ := h
    exact ⟨a, e, s.free h0, h1, h2⟩
  | rc j d => exact ⟨h.1, h.2.mono (fun _ _ q => q) fun b o p q => ⟨⟨p.1, s.free p.2⟩, q⟩⟩
theorem d_stab : Stab n (DOk cm K) := ⟨fun H₀ c c' H H' σ a x s h => Den.mono s.gz _ _ h, fun c₀ c₁ H₀ H₁ c H σ a x s h => h⟩
theorem ds_stab : Stab n (DsOk cm K) := ⟨fun H₀ c c' H H' σ a x s h => DenL.mono s.gz _ _ h, fun c₀ c₁ H₀ H₁ c H σ a x s h => h⟩
theorem bl_stab : Stab n BlOk := ⟨fun H₀ c c' H H' σ a x s h => h, fun c₀ c₁ H₀ H₁ c H σ a x s h => h⟩

theorem slot_ok {i : Nat} {v : V} {s : S} (r : Rep cm K n c H ρ σ) (x : σ[i]? = some (some v)) (e : at_ ρ i = s) (hs : s ≠ .un) : i < n ∧ ρ[i]? = some s ∧ RepS cm K n c H i (some v) s := by
  have q := at_some e hs
  obtain ⟨v', hv, h⟩ := r.at_ i s q
  rw [x] at hv
  obtain rfl : some v = v' := Option.some.inj hv
  exact ⟨by rw [← r.len]; exact (List.getElem?_eq_some_iff.mp q).1, q, h⟩
theorem rd_ok {h : Hd} {v : V} {d : D} (r : Rep cm K n c H ρ σ) (x : HdOk cm K n H₀ c H σ h v) (e : rd h ρ = .ok d ρ') : ρ' = ρ ∧ DenR cm K c H d v := by
  cases h with
  | val d' => cases e; exact ⟨rfl, Den.r x⟩
  | new d' => cases e; obtain ⟨a, e, h0, h1, h2⟩ := x; subst e; exact ⟨rfl, h2.r⟩
  | rc j d' => cases e
  | slot i =>
    have e : (at_ ρ i).rd ρ = .ok d ρ' := e
    cases q : at_ ρ i with
    | un => rw [q] at e; cases e
    | fr d' =>
      rw [q] at e; cases e
      obtain ⟨_, _, u, e1, e2⟩ := slot_ok r x q (fun z => nomatch z)
      cases e1; exact ⟨rfl, e2.r⟩
    | own d' =>
      rw [q] at e; cases e
      obtain ⟨_, _, a, e1, e2, e3⟩ := slot_ok r x q (fun z => nomatch z)
      cases e1; exact ⟨rfl, e3.r⟩
    | bor d' =>
      rw [q] at e; cases e
      obtain ⟨_, _, u, e1, e2⟩ := slot_ok r x q (fun z => nomatch z)
      cases e1; exact ⟨rfl, DenB.r e2⟩
    | rc p d' => rw [q] at e; cases e
    | tab ts => rw [q] at e; cases e
theorem rd_cases (h : Hd) (ρ : List S) : (∃ d, rd h ρ = .ok d ρ) ∨ rd h ρ = .bad := by
  cases h with
  | val d' => exact .inl ⟨_, rfl⟩
  | new d' => exact .inl ⟨_, rfl⟩
  | rc j d' => exact .inr rfl
  | slot i =>
    show (∃ d, (at_ ρ i).rd ρ = .ok d ρ) ∨ (at_ ρ i).rd ρ = .bad
    cases at_ ρ i with
    | un => exact .inr rfl
    | fr d' => exact .inl ⟨_, rfl⟩
    | own d' => exact .inl ⟨_, rfl⟩
    | bor d' => exact .inl ⟨_, rfl⟩
    | rc p d' => exact .inr rfl
    | tab ts => exact .inr rfl

/-! ### steps -/
def cset (c : Col) (a : Addr) (k : Nat) : Col := fun b => if b = a then k else c b
theorem cset_same {a : Addr} {k : Nat} : cset c a k a = k := by unfold cset; rw [if_pos rfl]
theorem cset_ne {a b : Addr} {k : Nat} (h : b ≠ a) : cset c a k b = c b := by unfold cset; rw [if_neg h]
/-- all stays -/
def Ext (c c' : Col) (H H' : Hp) : Prop := ∀ a o, H a = some o → c' a = c a ∧ H' a = some o
theorem Ext.refl : Ext c c H H := fun a o h => ⟨rfl, h⟩
theorem Ext.trans {c1 c2 : Col} {H1 H2 : Hp} (a : Ext c c1 H H1) (b : Ext c1 c2 H1 H2) : Ext c c2 H H2 := fun x o h => by
  obtain ⟨e1, e2⟩ := a x o h
  obtain ⟨f1, f2⟩ := b x o e2
  exact ⟨f1.trans e1, f2⟩
theorem Ext.stp (e : Ext c c' H H') : Stp n c c' H H' := fun a o h => ⟨⟨o, (e a o h).2⟩, fun q => ⟨by rw [(e a o h).1]; exact q, (e a o h).2⟩, fun _ => e a o h⟩
theorem Ext.alloc {p : Addr} {o : HO} {k : Nat} (hp : H p = none) : Ext c (cset c p k) H (upd H p o) := fun a u h => by
  have ne : a ≠ p := ne_of_none h hp
  exact ⟨cset_ne ne, by rw [upd_ne ne]; exact h⟩
/-- what a name holds stays if what it leans on stays -/
theorem RepS.keep {i : Nat} {v : Option V} {s : S} (h : RepS cm K n c H i v s) (g : ∀ a o, Gz c H a = some o → Gz c' H' a = some o) (gb : ∀ a o, Gb n c H a = some o → Gb n c' H' a = some o)
    (ow : ∀ a o, c a = i + 1 → H a = some o → c' a = c a ∧ H' a = some o) : RepS cm K n c' H' i v s := by
  cases s with
  | un => trivial
  | fr d => obtain ⟨u, e1, e2⟩ := h; exact ⟨u, e1, Den.mono g _ _ e2⟩
  | own d =>
    obtain ⟨a, e1, e2, e3⟩ := h
    obtain ⟨o, ho⟩ := e3.some_
    exact ⟨a, e1, (ow a o e2 ho).1.trans e2, e3.keep g fun o q => (ow a o e2 q).2⟩
  | bor d => obtain ⟨u, e1, e2⟩ := h; exact ⟨u, e1, DenX.mono gb g e2⟩
  | rc p d => obtain ⟨u, e1, e2⟩ := h; exact ⟨u, e1, e2.mono g fun b o q z => ⟨(ow b o q z).1.trans q, (ow b o q z).2⟩⟩
  | tab ts =>
    refine ⟨h.1, fun p hp => ?_⟩
    obtain ⟨h1, h2, h3⟩ := h.2 p hp
    obtain ⟨ps, e, _⟩ := id h3
    exact ⟨h1, (ow _ _ h2 e).1.trans h2, h3.mono g fun o q => (ow _ o h2 q).2⟩
theorem Ext.gz (e : Ext c c' H H') : ∀ a o, Gz c H a = some o → Gz c' H' a = some o := (e.stp (n := 0)).gz
theorem Ext.gb (e : Ext c c' H H') : ∀ a o, Gb n c H a = some o → Gb n c' H' a = some o := (e.stp (n := n)).gb
theorem Rep.ext (r : Rep cm K n c H ρ σ) (e : Ext c c' H H') : Rep cm K n c' H' ρ σ :=
  ⟨r.len, r.lenσ, fun i s q => by
    obtain ⟨v, h1, h2⟩ := r.at_ i s q
    exact ⟨v, h1, h2.keep e.gz e.gb fun a o _ h => e a o h⟩⟩
/-- an address of no name's is coloured anew -/
theorem Rep.recol {p : Addr} {k : Nat} (r : Rep cm K n c H ρ σ) (hp : n < c p) (hp2 : c p ≤ n + 8) : Rep cm K n (cset c p k) H ρ σ :=
  ⟨r.len, r.lenσ, fun i s q => by
    obtain ⟨v, h1, h2⟩ := r.at_ i s q
    have hi : i < n := by rw [← r.len]; exact (List.getElem?_eq_some_iff.mp q).1
    refine ⟨v, h1, h2.keep (fun a o h => ?_) (fun a o h => ?_) fun a o e h => ?_⟩
    · obtain ⟨z1, z2⟩ := Gz.to h
      exact Gz.of (by rw [cset_ne (fun e => by rw [e] at z1; omega)]; exact z1) z2
    · obtain ⟨z1, z2⟩ := Gb.to h
      exact Gb.of (by rw [cset_ne (fun e => by rw [e] at z1; omega)]; exact z1) z2
    · exact ⟨cset_ne (fun q => by rw [q] at e; omega), h⟩⟩
theorem Stp.recol {p : Addr} {k : Nat} (s : Stp n c₀ c H₀ H) (h0 : H₀ p = none) : Stp n c₀ (cset c p k) H₀ H := fun a o h => by
  have ne : a ≠ p := ne_of_none h h0
  rw [cset_ne ne]
  exact s a o h
theorem Stp.recolS {p : Addr} {k : Nat} (s : Stp n c₀ c H₀ H) (h1 : c p ≠ 0) (h2 : c p ≤ n) : Stp n c₀ (cset c p k) H₀ H := fun b o h => by
  obtain ⟨k1, k2, k3⟩ := s b o h
  refine ⟨k1, fun q => ?_, fun q => ?_⟩
  · obtain ⟨z1, z2⟩ := k2 q
    exact ⟨by rw [cset_ne (fun e => by rw [e] at z1; exact h1 z1)]; exact z1, z2⟩
  · obtain ⟨z1, z2⟩ := k3 q
    exact ⟨by rw [cset_ne (fun e => by rw [e] at z1 q; omega)]; exact z1, z2⟩
theorem gz_recol {p : Addr} {k : Nat} (hp : c p ≠ 0) : ∀ a o, Gz c H a = some o → Gz (cset c p k) H a = some o := fun a o h => by
  obtain ⟨z1, z2⟩ := Gz.to h
  exact Gz.of (by rw [cset_ne (fun e => by rw [e] at z1; exact hp z1)]; exact z1) z2
open Classical in
noncomputable def csetP (c : Col) (P : Addr → Prop) (k : Nat) : Col := fun b => if P b then k else c b
theorem csetP_in {P : Addr → Prop} {k : Nat} {b : Addr} (h : P b) : csetP c P k b = k := by unfold csetP; rw [if_pos h]
theorem csetP_out {P : Addr → Prop} {k : Nat} {b : Addr} (h : ¬ P b) : csetP c P k b = c b := by unfold csetP; rw [if_neg h]
theorem gz_recolP {P : Addr → Prop} {k : Nat} (hp : ∀ b, P b → c b ≠ 0) : ∀ a o, Gz c H a = some o → Gz (csetP c P k) H a = some o := fun a o h => by
  obtain ⟨z1, z2⟩ := Gz.to h
  exact Gz.of (by rw [csetP_out (fun e => hp a e z1)]; exact z1) z2
theorem Rep.recolP {P : Addr → Prop} {k : Nat} (r : Rep cm K n c H ρ σ) (hp : ∀ b, P b → n < c b ∧ c b ≤ n + 8) : Rep cm K n (csetP c P k) H ρ σ :=
  ⟨r.len, r.lenσ, fun i s q => by
    obtain ⟨v, h1, h2⟩ := r.at_ i s q
    have hi : i < n := by rw [← r.len]; exact (List.getElem?_eq_some_iff.mp q).1
    refine ⟨v, h1, h2.keep (gz_recolP fun b p z => ?_) (fun a o h => ?_) fun a o e h => ?_⟩
    · have := hp b p; omega
    · obtain ⟨z1, z2⟩ := Gb.to h
      exact Gb.of (by rw [csetP_out (fun e => by have := hp a e; omega)]; exact z1) z2
    · exact ⟨csetP_out (fun q => by have := hp a q; omega), h⟩⟩
theorem Stp.recolP {P : Addr → Prop} {k : Nat} (s : Stp n c₀ c H₀ H) (h0 : ∀ b, P b → H₀ b = none) : Stp n c₀ (csetP c P k) H₀ H := fun a o h => by
  rw [csetP_out (fun e => by rw [h0 a e] at h; cases h)]
  exact s a o h
/-- a name's own list stands still from now on -/
theorem Rep.still {i : Nat} {a : Addr} {d : D} (r : Rep cm K n c H ρ σ) (hs : ρ[i]? = some (.own d)) (ha : σ[i]? = some (some (.ref a))) (hc : c a = i + 1) : Rep cm K n (cset c a 0) H (ρ.set i (.fr d)) σ ∧ Cont cm K (cset c a 0) H a d := by
  have hi : i < n := by rw [← r.len]; exact (List.getElem?_eq_some_iff.mp hs).1
  have g : ∀ b o, Gz c H b = some o → Gz (cset c a 0) H b = some o := gz_recol (by omega)
  obtain ⟨v, h1, ⟨a', e1, e2, e3⟩⟩ := r.at_ i _ hs
  rw [ha] at h1
  cases h1
  cases e1
  have ct := e3.keep (c' := cset c a 0) (H' := H) g fun o q => q
  refine ⟨⟨by rw [List.length_set]; exact r.len, r.lenσ, fun j s q => ?_⟩, ct⟩
  by_cases hj : i = j
  · subst hj
    rw [List.getElem?_set_self (by rw [r.len]; exact hi)] at q
    cases q
    exact ⟨_, ha, _, rfl, ct.den cset_same⟩
  · rw [List.getElem?_set_ne hj] at q
    obtain ⟨v, h1, h2⟩ := r.at_ j s q
    refine ⟨v, h1, h2.keep g (fun b o h => ?_) fun b o e h => ⟨cset_ne (fun q => by rw [q] at e; omega), h⟩⟩
    obtain ⟨z1, z2⟩ := Gb.to h
    exact Gb.of (by rw [cset_ne (fun e => by rw [e] at z1; omega)]; exact z1) z2
/-- a name stored: σ has v there -/
theorem Rep.store {i : Nat} {v : V} {s : S} (r : Rep cm K n c H ρ σ) (h : RepS cm K n c H i (some v) s) : Rep cm K n c H (ρ.set i s) (σ.set i (some v)) :=
  ⟨by rw [List.length_set]; exact r.len, by rw [List.length_set]; exact r.lenσ, fun j t q => by
    by_cases hj : i = j
    · subst hj
      have hi : i < n := by
        have := (List.getElem?_eq_some_iff.mp q).1
        rw [List.length_set, r.len] at this
        exact this
      rw [List.getElem?_set_self (by rw [r.len]; exact hi)] at q
      cases q
      exact ⟨_, List.getElem?_set_self (by rw [r.lenσ]; exact hi), h⟩
    · rw [List.getElem?_set_ne hj] at q
      obtain ⟨v', h1, h2⟩ := r.at_ j t q
      exact ⟨v', by rw [List.getElem?_set_ne hj]; exact h1, h2⟩⟩
def Kp (ρ ρ' : List S) (σ σ' : St) : Prop := ∀ (i : Nat) (t : Option D), tgO ρ' i = some t → tgO ρ i = some t ∧ σ'[i]? = σ[i]?
theorem Kp.refl {ρ : List S} {σ : St} : Kp ρ ρ σ σ := fun i d h => ⟨h, rfl⟩
theorem Kp.trans {ρ ρ1 ρ2 : List S} {σ σ1 σ2 : St} (a : Kp ρ ρ1 σ σ1) (b : Kp ρ1 ρ2 σ1 σ2) : Kp ρ ρ2 σ σ2 := fun i d h => by
  obtain ⟨h1, e1⟩ := b i d h
  obtain ⟨h2, e2⟩ := a i d h1
  exact ⟨h2, e1.trans e2⟩
theorem Kp.set {ρ : List S} {σ : St} {i : Nat} {s : S} {v : Option V} (h : tagS s = none) : Kp ρ (ρ.set i s) σ (σ.set i v) := fun j t q => by
  rw [tgO_set] at q
  by_cases hj : i = j ∧ j < ρ.length
  · rw [if_pos hj, h] at q; cases q
  · rw [if_neg hj] at q
    by_cases e : i = j
    · subst e
      have : tgO ρ i = none := by unfold tgO; rw [List.getElem?_eq_none (by omega)]; rfl
      rw [this] at q; cases q
    · exact ⟨q, by rw [List.getElem?_set_ne e]⟩
theorem Kp.set1 {ρ : List S} {σ : St} {i : Nat} {s : S} (h : tagS s = none) : Kp ρ (ρ.set i s) σ σ := fun j t q => by
  rw [tgO_set] at q
  by_cases hj : i = j ∧ j < ρ.length
  · rw [if_pos hj, h] at q; cases q
  · rw [if_neg hj] at q
    exact ⟨q, rfl⟩
/-- the same tag as before -/
theorem Kp.setT {ρ : List S} {σ : St} {i : Nat} {s : S} (h : tagS s = none ∨ tagS s = tgO ρ i) : Kp ρ (ρ.set i s) σ σ := fun j t q => by
  rw [tgO_set] at q
  by_cases hj : i = j ∧ j < ρ.length
  · rw [if_pos hj] at q
    rcases h with h | h
    · rw [h] at q; cases q
    · rw [h, hj.1] at q; exact ⟨q, rfl⟩
  · rw [if_neg hj] at q
    exact ⟨q, rfl⟩
theorem fz_ok {ρ₀ : List S} {h : Hd} {v : V} {d : D} (s : Stq n ρ₀ ρ c₀ c H₀ H) (r : Rep cm K n c H ρ σ) (x : HdOk cm K n H₀ c H σ h v) (e : fz h ρ = .ok d ρ') :
    ∃ c', Stq n ρ₀ ρ' c₀ c' H₀ H ∧ Rep cm K n c' H ρ' σ ∧ Den cm K (Gz c' H) d v ∧ ∀ b o, Gz c H b = some o → Gz c' H b = some o := by
  cases h with
  | val d' => cases e; exact ⟨c, s, r, x, fun _ _ h => h⟩
  | rc j d' => cases e
  | new d' =>
    cases e
    obtain ⟨a, e, h0, h1, h2⟩ := x
    subst e
    have g : ∀ b o, Gz c H b = some o → Gz (cset c a 0) H b = some o := gz_recol (by omega)
    exact ⟨cset c a 0, ⟨s.st.recol h0, s.kq⟩, r.recol (by omega) (by omega), (h2.keep g fun o q => q).den cset_same, g⟩
  | slot i =>
    have e : (at_ ρ i).fz i ρ = .ok d ρ' := e
    cases q : at_ ρ i with
    | un => rw [q] at e; cases e
    | bor d' => rw [q] at e; cases e
    | rc p d' => rw [q] at e; cases e
    | tab ts => rw [q] at e; cases e
    | fr d' =>
      rw [q] at e; cases e
      obtain ⟨_, _, u, e1, e2⟩ := slot_ok r x q (fun z => nomatch z)
      cases e1; exact ⟨c, s, r, e2, fun _ _ h => h⟩
    | own d' =>
      rw [q] at e; cases e
      obtain ⟨hi, hs, a, e1, e2, e3⟩ := slot_ok r x q (fun z => nomatch z)
      cases e1
      obtain ⟨r', ct⟩ := r.still hs x e2
      have g : ∀ b o, Gz c H b = some o → Gz (cset c a 0) H b = some o := gz_recol (by omega)
      have e2' : c a = i + 1 := e2
      exact ⟨cset c a 0, ⟨s.st.recolS (by omega) (by omega), fun j e q => s.kq j e ((Kp.set1 (s := S.fr d) (σ := σ) rfl) j e q).1⟩, r', ct.den cset_same, g⟩

theorem put_ok {i : Nat} {h : Hd} {v : V} {u : Unit} (s : Stp n c₀ c H₀ H) (r : Rep cm K n c H ρ σ) (x : HdOk cm K n H₀ c H σ h v) (hi : i < n) (e : put i h ρ = .ok u ρ') :
    ∃ c', Stp n c₀ c' H₀ H ∧ Rep cm K n c' H ρ' (σ.set i (some v)) ∧ Kp ρ ρ' σ (σ.set i (some v)) := by
  cases h with
  | val d' => cases e; exact ⟨c, s, r.store ⟨v, rfl, x⟩, Kp.set rfl⟩
  | rc j d' =>
    cases e
    obtain ⟨hj, x⟩ := x
    exact ⟨_, s.recolP (P := fun b => c b = n + 2 + j ∧ H₀ b = none) (k := i + 1) (fun b p => p.2), (r.recolP (fun b p => by omega)).store ⟨v, rfl, x.mono (gz_recolP fun b p => by omega) fun b o p q => ⟨csetP_in p, q⟩⟩, Kp.set rfl⟩
  | new d' =>
    cases e
    obtain ⟨a, e, h0, h1, h2⟩ := x
    subst e
    have g : ∀ b o, Gz c H b = some o → Gz (cset c a (i + 1)) H b = some o := gz_recol (by omega)
    exact ⟨cset c a (i + 1), s.recol h0, (r.recol (by omega) (by omega)).store ⟨a, rfl, cset_same, h2.keep g fun o q => q⟩, Kp.set rfl⟩
  | slot j =>
    have e : (at_ ρ j).put i j ρ = .ok u ρ' := e
    cases q : at_ ρ j with
    | un => rw [q] at e; cases e
    | bor d' => rw [q] at e; cases e
    | rc p d' => rw [q] at e; cases e
    | tab ts => rw [q] at e; cases e
    | fr d' =>
      rw [q] at e; cases e
      obtain ⟨_, _, u, e1, e2⟩ := slot_ok r x q (fun z => nomatch z)
      cases e1; exact ⟨c, s, r.store ⟨v, rfl, e2⟩, Kp.set rfl⟩
    | own d' =>
      rw [q] at e; cases e
      obtain ⟨hj, hs, a, e1, e2, e3⟩ := slot_ok r x q (fun z => nomatch z)
      cases e1
      obtain ⟨r', ct⟩ := r.still hs x e2
      have e2' : c a = j + 1 := e2
      exact ⟨cset c a 0, s.recolS (by omega) (by omega), r'.store ⟨_, rfl, ct.den cset_same⟩, (Kp.set1 (s := S.fr d') (σ := σ) rfl).trans (Kp.set (s := S.fr d') rfl)⟩
end
section
variable (cm : Nat → Addr) (K : PySem.W.Frag) (n : Nat)
def RtOk (H₀ : Hp) (c : Col) (H : Hp) (s : S) (v : V) : Prop := match s with
  | .fr d => Den cm K (Gz c H) d v
  | .own d => ∃ a, v = .ref a ∧ c a ≠ 0 ∧ Cont cm K c H a d ∧ (H₀ a = none ∨ c a ≤ n)
  | _ => False
end
section
variable {cm : Nat → Addr} {K : PySem.W.Frag} {n : Nat} {W : WX} {c c' c₀ : Col} {H H' H₀ : Hp} {σ : St} {ρ ρ' : List S}
theorem giv_ok {h : Hd} {v : V} {s : S} (st : Stp n c₀ c H₀ H) (r : Rep cm K n c H ρ σ) (x : HdOk cm K n H₀ c H σ h v) (e : giv h ρ = .ok s ρ') : ρ' = ρ ∧ RtOk cm K n H₀ c H s v := by
  cases h with
  | val d' => cases e; exact ⟨rfl, x⟩
  | rc j d' => cases e
  | new d' =>
    cases e
    obtain ⟨a, e, h0, h1, h2⟩ := x
    exact ⟨rfl, a, e, by omega, h2, .inl h0⟩
  | slot j =>
    have e : (at_ ρ j).giv ρ = .ok s ρ' := e
    cases q : at_ ρ j with
    | un => rw [q] at e; cases e
    | bor d' => rw [q] at e; cases e
    | rc p d' => rw [q] at e; cases e
    | tab ts => rw [q] at e; cases e
    | fr d' =>
      rw [q] at e; cases e
      obtain ⟨_, _, u, e1, e2⟩ := slot_ok r x q (fun z => nomatch z)
      cases e1; exact ⟨rfl, e2⟩
    | own d' =>
      rw [q] at e; cases e
      obtain ⟨hj, hs, a, e1, e2, e3⟩ := slot_ok r x q (fun z => nomatch z)
      cases e1
      have e2' : c a = j + 1 := e2
      exact ⟨rfl, a, rfl, by omega, e3, .inr (by omega)⟩
theorem giv_cases (h : Hd) (ρ : List S) : (∃ s, giv h ρ = .ok s ρ) ∨ giv h ρ = .bad := by
  cases h with
  | val d' => exact .inl ⟨_, rfl⟩
  | new d' => exact .inl ⟨_, rfl⟩
  | rc j d' => exact .inr rfl
  | slot i =>
    show (∃ s, (at_ ρ i).giv ρ = .ok s ρ) ∨ (at_ ρ i).giv ρ = .bad
    cases at_ ρ i with
    | un => exact .inr rfl
    | bor d' => exact .inr rfl
    | rc p d' => exact .inr rfl
    | tab ts => exact .inr rfl
    | fr d' => exact .inl ⟨_, rfl⟩
    | own d' => exact .inl ⟨_, rfl⟩
theorem fz_cases (h : Hd) (ρ : List S) : (∃ d ρ', fz h ρ = .ok d ρ') ∨ fz h ρ = .bad := by
  cases h with
  | val d' => exact .inl ⟨_, _, rfl⟩
  | new d' => exact .inl ⟨_, _, rfl⟩
  | rc j d' => exact .inr rfl
  | slot i =>
    show (∃ d ρ', (at_ ρ i).fz i ρ = .ok d ρ') ∨ (at_ ρ i).fz i ρ = .bad
    cases at_ ρ i with
    | un => exact .inr rfl
    | bor d' => exact .inr rfl
    | rc p d' => exact .inr rfl
    | tab ts => exact .inr rfl
    | fr d' => exact .inl ⟨_, _, rfl⟩
    | own d' => exact .inl ⟨_, _, rfl⟩
theorem put_cases (i : Nat) (h : Hd) (ρ : List S) : (∃ ρ', put i h ρ = .ok () ρ') ∨ put i h ρ = .bad := by
  cases h with
  | val d' => exact .inl ⟨_, rfl⟩
  | new d' => exact .inl ⟨_, rfl⟩
  | rc k d' => exact .inl ⟨_, rfl⟩
  | slot j =>
    show (∃ ρ', (at_ ρ j).put i j ρ = .ok () ρ') ∨ (at_ ρ j).put i j ρ = .bad
    cases at_ ρ j with
    | un => exact .inr rfl
    | bor d' => exact .inr rfl
    | rc p d' => exact .inr rfl
    | tab ts => exact .inr rfl
    | fr d' => exact .inl ⟨_, rfl⟩
    | own d' => exact .inl ⟨_, rfl⟩
end
end Vi

/-! ## ViRules -/
set_option Elab.async false
set_option linter.all false
set_option maxRecDepth 100000
set_option maxHeartbeats 2000000
namespace Vi
open PySem L2

/-! ### judgements -/
structure VE (cm : Nat → Addr) (X : Cx) (W : WX) (e : Expr) (te : TE) (f : M Hd) : Prop where
  pe : PE X e te
  sem : Sem cm X.K X.N.length W (HdOk cm X.K X.N.length) te f
structure VT (cm : Nat → Addr) (X : Cx) (W : WX) (e : Expr) (te : TT) (f : M Bool) : Prop where
  pe : PT X e te
  sem : Sem cm X.K X.N.length W BlOk te f
structure VW (cm : Nat → Addr) (X : Cx) (W : WX) (e : Expr) (te : TT) (f : M Bool) : Prop where
  pe : PW X e te
  sem : Sem cm X.K X.N.length W BlOk te f
/-- arguments that are read -/
def HsOk (cm : Nat → Addr) (K : PySem.W.Frag) (n : Nat) (H₀ : Hp) (c : Col) (H : Hp) (σ : St) : List Hd → List V → Prop
  | [], vs => vs = []
  | h :: hs, vs => ∃ v r, vs = v :: r ∧ HdOk cm K n H₀ c H σ h v ∧ HsOk cm K n H₀ c H σ hs r
structure VA (cm : Nat → Addr) (X : Cx) (W : WX) (es : List Expr) (ta : TA) (f : M (List Hd)) : Prop where
  pe : PA X es ta
  sem : Sem cm X.K X.N.length W (HsOk cm X.K X.N.length) ta f
/-- items of a display -/
structure VD (cm : Nat → Addr) (X : Cx) (W : WX) (es : List Expr) (ta : TA) (f : M (List D)) : Prop where
  pe : PA X es ta
  sem : Sem cm X.K X.N.length W (DsOk cm X.K) ta f

section
variable {cm : Nat → Addr} {K : PySem.W.Frag} {n : Nat} {W : WX}
theorem HsOk.stp {c c' : Col} {H H' H₀ : Hp} {σ : St} (s : Stp n c c' H H') : ∀ {hs : List Hd} {vs : List V}, HsOk cm K n H₀ c H σ hs vs → HsOk cm K n H₀ c' H' σ hs vs
  | [], _, h => h
  | _ :: _, _, ⟨v, r, e, h1, h2⟩ => ⟨v, r, e, h1.stp s, HsOk.stp s h2⟩
theorem HsOk.base {c₀ c₁ c : Col} {H₀ H₁ H : Hp} {σ : St} (s : Stp n c₀ c₁ H₀ H₁) : ∀ {hs : List Hd} {vs : List V}, HsOk cm K n H₁ c H σ hs vs → HsOk cm K n H₀ c H σ hs vs
  | [], _, h => h
  | _ :: _, _, ⟨v, r, e, h1, h2⟩ => ⟨v, r, e, hd_stab.2 _ _ _ _ _ _ _ _ _ s h1, HsOk.base s h2⟩
theorem hs_stab : Stab n (HsOk cm K n) := ⟨fun _ _ _ _ _ _ _ _ s h => h.stp s, fun _ _ _ _ _ _ _ _ _ s h => h.base s⟩

/-! ### pure ends -/
theorem sem_pure {α β : Type} {rel : Hp → Col → Hp → St → α → β → Prop} {t : St → Hp → (β → Hp → Prop) → Prop} {a : α} {b : β} (ht : ∀ σ H Q, Q b H → t σ H Q) (hr : ∀ c H σ, rel H c H σ a b) : Sem cm K n W rel t (M.pure a) :=
  fun ρ c σ H Q r q => ht σ H Q (q c H b Stq.refl r (hr c H σ))
theorem sem_bad {α β : Type} {rel : Hp → Col → Hp → St → α → β → Prop} {t : St → Hp → (β → Hp → Prop) → Prop} : Sem cm K n W rel t (M.bad : M α) := fun _ _ _ _ _ _ q => q.elim
end

/-! ### evaluators of expressions -/
def S.asHd (i : Nat) : S → List S → R Hd
  | .un, _ => .bad
  | .fr d, ρ => .ok (.val d) ρ
  | .tab _, _ => .bad
  | _, ρ => .ok (.slot i) ρ
def eVar (i : Nat) : M Hd := fun ρ => (at_ ρ i).asHd i ρ
def eC (d : D) : M Hd := M.pure (.val d)
def eOp (g : D → D → Option Hd) (a b : M Hd) : M Hd := a >>= fun x => b >>= fun y => rd x >>= fun d => rd y >>= fun e => M.lift (g d e)
def eUn (g : D → Option Hd) (a : M Hd) : M Hd := a >>= fun x => rd x >>= fun d => M.lift (g d)
def bl? : D → Option Bool | .bl b => some b | _ => none
def eTest (a : M Hd) : M Bool := a >>= fun x => rd x >>= fun d => M.lift (bl? d)
def eAnd (a b : M Bool) : M Bool := a >>= fun x => if x = true then b else pure false
def eOr (a b : M Bool) : M Bool := a >>= fun x => if x = true then pure true else b
def eNot (a : M Bool) : M Bool := a >>= fun x => pure (!x)
def eB (a : M Bool) : M Hd := a >>= fun x => pure (.val (.bl x))
def eIf (c : M Bool) (a b : M Hd) : M Hd := c >>= fun x => if x = true then a else b
def eNil : M (List Hd) := pure []
def eCons (a : M Hd) (r : M (List Hd)) : M (List Hd) := a >>= fun x => r >>= fun xs => pure (x :: xs)
def dNil : M (List D) := pure []
def dCons (a : M Hd) (r : M (List D)) : M (List D) := a >>= fun x => fz x >>= fun d => r >>= fun xs => pure (d :: xs)
def rds : List Hd → M (List D)
  | [] => pure []
  | h :: hs => rd h >>= fun d => rds hs >>= fun ds => pure (d :: ds)

section
variable {cm : Nat → Addr} {X : Cx} {W : WX} {K : PySem.W.Frag} {n : Nat}

theorem sem_var {i : Nat} : Sem cm K n W (HdOk cm K n) (tVar i) (eVar i) := by
  intro ρ c σ H Q r q
  unfold eVar at q
  cases e : at_ ρ i with
  | un => rw [e] at q; exact q.elim
  | fr d =>
    rw [e] at q
    obtain ⟨v, h1, u, e1, e2⟩ := r.at_ i _ (at_some e (fun z => nomatch z))
    subst e1
    exact ⟨u, h1, q c H u Stq.refl r e2⟩
  | own d =>
    rw [e] at q
    obtain ⟨v, h1, a, e1, e2⟩ := r.at_ i _ (at_some e (fun z => nomatch z))
    subst e1
    exact ⟨_, h1, q c H _ Stq.refl r h1⟩
  | bor d =>
    rw [e] at q
    obtain ⟨v, h1, u, e1, e2⟩ := r.at_ i _ (at_some e (fun z => nomatch z))
    subst e1
    exact ⟨_, h1, q c H _ Stq.refl r h1⟩
  | tab ts => rw [e] at q; exact q.elim
  | rc p d =>
    rw [e] at q
    obtain ⟨v, h1, u, e1, e2⟩ := r.at_ i _ (at_some e (fun z => nomatch z))
    subst e1
    exact ⟨_, h1, q c H _ Stq.refl r h1⟩
theorem ve_var (i : Nat) {x : Str} {pos : Pos} (hN : X.N[i]? = some x := by rfl) (hv : Vis X.env.scope x := by first | exact Or.inl rfl | exact Or.inr (Or.inl rfl) | exact Or.inr (Or.inr rfl)) (hd : (x == ("__debug__" : Str)) = false := by decide)
    (hcd : (x == ("__classdict__" : Str)) = false := by decide) : VE cm X W (.Name x pos) (tVar i) (eVar i) := ⟨pe_var hN hv hd hcd, sem_var⟩
theorem sem_c {d : D} {v : V} (h : ∀ G, Den cm K G d v) : Sem cm K n W (HdOk cm K n) (tC v) (eC d) := sem_pure (fun _ _ _ q => q) fun _ _ _ => h _
theorem ve_int {i : Int} {j pos} : VE cm X W (.Constant (.int i) j pos) (tC (.int i)) (eC (.int i)) := ⟨pe_int, sem_c fun _ => rfl⟩
theorem ve_bl {b j pos} : VE cm X W (.Constant (.bool b) j pos) (tC (.bl b)) (eC (.bl b)) := ⟨pe_bl, sem_c fun _ => rfl⟩
theorem ve_non {j pos} : VE cm X W (.Constant .none j pos) (tC .non) (eC .non) := ⟨pe_non, sem_c fun _ => rfl⟩
theorem ve_str (s : List Nat) {x : Str} {j pos} (h : x = ⟨s.toArray⟩ := by rfl) : VE cm X W (.Constant (.str x) j pos) (tC (.str x)) (eC (.str s)) := ⟨pe_str, sem_c fun _ => by show V.str x = _; rw [h]⟩
theorem ve_glob {x : Str} {d : D} {v : V} {u : Value} {pos : Pos} (hm : X.mg x = some u) (r : RelV v u) (h : ∀ G, Den cm X.K G d v) (hg : Gl X x := by rfl) (hd : (x == ("__debug__" : Str)) = false := by decide) : VE cm X W (.Name x pos) (tC v) (eC d) :=
  ⟨pe_glob hg hm r hd, sem_c h⟩
theorem ve_gInt {x : Str} {i : Int} {t : Tok} {pos : Pos} (hm : X.mg x = some (.int i t)) (hg : Gl X x := by rfl) (hd : (x == ("__debug__" : Str)) = false := by decide) : VE cm X W (.Name x pos) (tC (.int i)) (eC (.int i)) :=
  ve_glob hm ⟨t, rfl⟩ (fun _ => rfl) hg hd
theorem ve_gStr (s : List Nat) {x y : Str} {t : Tok} {pos : Pos} (hm : X.mg x = some (.str y t)) (h : y = ⟨s.toArray⟩ := by rfl) (hg : Gl X x := by rfl) (hd : (x == ("__debug__" : Str)) = false := by decide) : VE cm X W (.Name x pos) (tC (.str y)) (eC (.str s)) :=
  ve_glob hm ⟨t, rfl⟩ (fun _ => by show V.str y = _; rw [h]) hg hd
theorem ve_ty {x : Str} {T : String} {pos : Pos} (hm : X.mg x = none) (hv : bootBuiltins x = some (.type T) := by decide +kernel) (hg : Gl X x := by rfl) (hn : x ≠ "__name__" := by decide) (hd : (x == ("__debug__" : Str)) = false := by decide) :
    VE cm X W (.Name x pos) (tC (.ty T)) (eC (.ty T)) := ⟨pe_bltn hg hm hv rfl hn hd, sem_c fun _ => rfl⟩
theorem ve_cls {x : Str} {k : Nat} {pos : Pos} (hm : X.mg x = some (.ref (cm k))) (hg : Gl X x := by rfl) (hd : (x == ("__debug__" : Str)) = false := by decide) : VE cm X W (.Name x pos) (tC (.ref (cm k))) (eC (.cls k)) :=
  ve_glob hm rfl (fun _ => rfl) hg hd

/-! ### operators by values -/
/-- what an operation gives -/
def HdV (cm : Nat → Addr) (K : PySem.W.Frag) (n : Nat) (H : Hp) (c' : Col) (H' : Hp) (h : Hd) (v : V) : Prop := match h with
  | .val d => Den cm K (Gz c' H') d v
  | .slot _ => False
  | .rc _ _ => False
  | .new d => ∃ a, v = .ref a ∧ H a = none ∧ c' a = n + 1 ∧ Cont cm K c' H' a d
def OpS (cm : Nat → Addr) (K : PySem.W.Frag) (n : Nat) (r : R2) (g : D → D → Option Hd) : Prop :=
  ∀ c H d e x y h Q, DenR cm K c H d x → DenR cm K c H e y → g d e = some h → (∀ c' H' v, Ext c c' H H' → HdV cm K n H c' H' h v → Q v H') → r x y H Q
def UnS (cm : Nat → Addr) (K : PySem.W.Frag) (n : Nat) (r : V → Hp → VK → Prop) (g : D → Option Hd) : Prop :=
  ∀ c H d x h Q, DenR cm K c H d x → g d = some h → (∀ c' H' v, Ext c c' H H' → HdV cm K n H c' H' h v → Q v H') → r x H Q
/-- on a list of arguments -/
def DsR (cm : Nat → Addr) (K : PySem.W.Frag) (c : Col) (H : Hp) : List D → List V → Prop
  | [], vs => vs = []
  | d :: ds, vs => ∃ v r, vs = v :: r ∧ DenR cm K c H d v ∧ DsR cm K c H ds r
def CallS (cm : Nat → Addr) (K : PySem.W.Frag) (n : Nat) (r : List V → Hp → VK → Prop) (g : List D → Option Hd) : Prop :=
  ∀ c H ds xs h Q, DsR cm K c H ds xs → g ds = some h → (∀ c' H' v, Ext c c' H H' → HdV cm K n H c' H' h v → Q v H') → r xs H Q
theorem OpS.or {r r' : R2} {g g' : D → D → Option Hd} (a : OpS cm K n r g) (b : OpS cm K n r' g') : OpS cm K n (fun x y H Q => r x y H Q ∨ r' x y H Q) (fun d e => (g d e).or (g' d e)) := by
  intro c H d e x y h Q hd he hg k
  cases q : g d e with
  | some z => simp only [q, Option.or] at hg; cases hg; exact .inl (a c H d e x y _ Q hd he q k)
  | none => simp only [q, Option.or] at hg; exact .inr (b c H d e x y h Q hd he hg k)
theorem CallS.or {r r' : List V → Hp → VK → Prop} {g g' : List D → Option Hd} (a : CallS cm K n r g) (b : CallS cm K n r' g') : CallS cm K n (fun x H Q => r x H Q ∨ r' x H Q) (fun d => (g d).or (g' d)) := by
  intro c H d x h Q hd hg k
  cases q : g d with
  | some z => simp only [q, Option.or] at hg; cases hg; exact .inl (a c H d x _ Q hd q k)
  | none => simp only [q, Option.or] at hg; exact .inr (b c H d x h Q hd hg k)
theorem HdV.hd {H H₀ : Hp} {c c' c₀ : Col} {H' : Hp} {σ : St} {h : Hd} {v : V} (s : Stp n c₀ c H₀ H) (x : HdV cm K n H c' H' h v) : HdOk cm K n H₀ c' H' σ h v := by
  cases h with
  | val d => exact x
  | slot i => exact x.elim
  | rc j d => exact x.elim
  | new d => obtain ⟨a, e, h0, h1, h2⟩ := x; exact ⟨a, e, s.free h0, h1, h2⟩
theorem lift_run {α : Type} (o : Option α) (ρ : List S) : M.lift o ρ = match o with | some a => .ok a ρ | none => .bad := by cases o <;> rfl
theorem rd_bind {α : Type} {h : Hd} {g : D → M α} {ρ : List S} (P : R α → Prop) (hb : ¬ P .bad) (q : P ((rd h >>= g) ρ)) : ∃ d, rd h ρ = .ok d ρ ∧ P (g d ρ) := by
  rw [M.bind_run] at q
  rcases rd_cases h ρ with ⟨d, e⟩ | e
  · rw [e] at q; exact ⟨d, e, q⟩
  · rw [e] at q; exact absurd q hb
theorem QR.nobad {α β : Type} {rel : Hp → Col → Hp → St → α → β → Prop} {Q : β → Hp → Prop} {ρ₀ : List S} {c₀ : Col} {H₀ : Hp} {σ : St} : ¬ QR cm K n W rel Q ρ₀ c₀ H₀ σ (.bad : R α) := fun h => h
theorem sem_op {r : R2} {g : D → D → Option Hd} {ta tb : TE} {fa fb : M Hd} (ho : OpS cm K n r g) (ha : Sem cm K n W (HdOk cm K n) ta fa) (hb : Sem cm K n W (HdOk cm K n) tb fb) : Sem cm K n W (HdOk cm K n) (tOp r ta tb) (eOp g fa fb) := by
  refine Sem.bind (u := fun x σ H1 Q => tb σ H1 fun y H2 => r x y H2 Q) ha ?_
  intro ρ₀ c₀ H₀ a x ρ c σ H Q s0 r0 hx q
  dsimp only at q
  refine hb ρ c σ H _ r0 ?_
  rw [M.bind_run] at q
  cases e : fb ρ with
  | exc k ρ' => rw [e] at q; exact fun c' H' s' r' => q c' H' (s0.trans s') r'
  | bad => rw [e] at q; exact q
  | ok b ρ' =>
    rw [e] at q
    intro c1 H1 y s1 r1 hy
    obtain ⟨d1, e1, q⟩ := rd_bind (P := QR cm K n W (HdOk cm K n) Q ρ₀ c₀ H₀ σ) QR.nobad q
    obtain ⟨d2, e2, q⟩ := rd_bind (P := QR cm K n W (HdOk cm K n) Q ρ₀ c₀ H₀ σ) QR.nobad q
    rw [lift_run] at q
    cases eg : g d1 d2 with
    | none => rw [eg] at q; exact q.elim
    | some h =>
      rw [eg] at q
      have p1 := (rd_ok r1 (hx.stp s1.st) e1).2
      have p2 := (rd_ok r1 hy e2).2
      refine ho c1 H1 d1 d2 x y h Q p1 p2 eg fun c' H' v ex hv => ?_
      exact q c' H' v ((s0.trans s1).app ex.stp) (r1.ext ex) (hv.hd (s0.trans s1).st)
theorem ve_op {op : Operator} {r : R2} {g : D → D → Option Hd} {a b : Expr} {ta tb : TE} {fa fb : M Hd} {pos : Pos} (ho : OpR X (binaryOp op) r) (hs : OpS cm X.K X.N.length r g) (ha : VE cm X W a ta fa) (hb : VE cm X W b tb fb) :
    VE cm X W (.BinOp a op b pos) (tOp r ta tb) (eOp g fa fb) := ⟨pe_op ho ha.pe hb.pe, sem_op hs ha.sem hb.sem⟩
theorem ve_cmp {op : CmpOp} {r : R2} {g : D → D → Option Hd} {a b : Expr} {ta tb : TE} {fa fb : M Hd} {pos : Pos} (ho : OpR X (compareOp op) r) (hs : OpS cm X.K X.N.length r g) (hm : behindInMarks op b = false) (ha : VE cm X W a ta fa) (hb : VE cm X W b tb fb) :
    VE cm X W (.Compare a [op] [b] pos) (tOp r ta tb) (eOp g fa fb) := ⟨pe_cmpR ho ha.pe hb.pe hm, sem_op hs ha.sem hb.sem⟩
theorem sem_test {ta : TE} {fa : M Hd} (ha : Sem cm K n W (HdOk cm K n) ta fa) : Sem cm K n W BlOk (tTest ta) (eTest fa) := by
  refine Sem.bind (u := fun x σ H1 Q => ∃ k, x = .bl k ∧ Q k H1) ha ?_
  intro ρ₀ c₀ H₀ a x ρ c σ H Q s0 r0 hx q
  dsimp only at q
  obtain ⟨d1, e1, q⟩ := rd_bind (P := QR cm K n W BlOk Q ρ₀ c₀ H₀ σ) QR.nobad q
  have p1 := (rd_ok r0 hx e1).2
  rw [lift_run] at q
  cases d1 with
  | bl b => exact ⟨b, p1, q c H b s0 r0 rfl⟩
  | _ => exact q.elim
theorem vt_cmp {op : CmpOp} {r : R2} {g : D → D → Option Hd} {a b : Expr} {ta tb : TE} {fa fb : M Hd} {pos : Pos} (ho : OpR X (compareOp op) r) (hs : OpS cm X.K X.N.length r g) (hm : behindInMarks op b = false) (ha : VE cm X W a ta fa) (hb : VE cm X W b tb fb) :
    VT cm X W (.Compare a [op] [b] pos) (tTest (tOp r ta tb)) (eTest (eOp g fa fb)) := ⟨pt_cmpR ho ha.pe hb.pe hm, sem_test (sem_op hs ha.sem hb.sem)⟩
/-- an expression that gives True or False, as a test -/
theorem vt_val {e : Expr} {te : TE} {f : M Hd} (h : VE cm X W e te f) (he : ∀ whole, isTrue e X.env whole = (do let v ← whole; standAt e.pos; holding [v] (truthy v)) := by intro _; rfl) : VT cm X W e (tTest te) (eTest f) := ⟨pt_val h.pe he, sem_test h.sem⟩
theorem sem_if {α β : Type} {rel : Hp → Col → Hp → St → α → β → Prop} (st : Stab n rel) {tc : TT} {ta tb : St → Hp → (β → Hp → Prop) → Prop} {fc : M Bool} {fa fb : M α} (hc : Sem cm K n W BlOk tc fc) (ha : Sem cm K n W rel ta fa) (hb : Sem cm K n W rel tb fb) :
    Sem cm K n W rel (fun σ H Q => tc σ H fun c H1 => if c = true then ta σ H1 Q else tb σ H1 Q) (fc >>= fun x => if x = true then fa else fb) := by
  refine Sem.bind (u := fun c σ H1 Q => if c = true then ta σ H1 Q else tb σ H1 Q) hc ?_
  intro ρ₀ c₀ H₀ a x ρ c σ H Q s0 r0 hx q
  dsimp only at q
  have hx : a = x := hx
  subst hx
  cases a with
  | true => exact SemK.of (rel := BlOk) st ha ρ₀ c₀ H₀ true true ρ c σ H Q s0 r0 rfl q
  | false => exact SemK.of (rel := BlOk) st hb ρ₀ c₀ H₀ false false ρ c σ H Q s0 r0 rfl q
theorem sem_bl {b : Bool} : Sem cm K n W BlOk (fun _ H Q => Q b H) (M.pure b) := sem_pure (fun _ _ _ q => q) fun _ _ _ => rfl
theorem ve_ifExp {c a b : Expr} {tc : TT} {ta tb : TE} {fc : M Bool} {fa fb : M Hd} {pos : Pos} (hc : VT cm X W c tc fc) (ha : VE cm X W a ta fa) (hb : VE cm X W b tb fb) : VE cm X W (.IfExp c a b pos) (tIf tc ta tb) (eIf fc fa fb) :=
  ⟨pe_ifExp hc.pe ha.pe hb.pe, sem_if hd_stab hc.sem ha.sem hb.sem⟩
theorem vw_and1 {a : Expr} {t : TT} {f : M Bool} {pos : Pos} (h : VT cm X W a t f) : VW cm X W (.BoolOp .And [a] pos) t f := ⟨pw_and1 h.pe, h.sem⟩
theorem vw_or1 {a : Expr} {t : TT} {f : M Bool} {pos : Pos} (h : VT cm X W a t f) : VW cm X W (.BoolOp .Or [a] pos) t f := ⟨pw_or1 h.pe, h.sem⟩
theorem vw_and {a b : Expr} {rest : List Expr} {t u : TT} {f g : M Bool} {pos : Pos} (ha : VT cm X W a t f) (hb : VW cm X W (.BoolOp .And (b :: rest) pos) u g) : VW cm X W (.BoolOp .And (a :: b :: rest) pos) (tAnd t u) (eAnd f g) :=
  ⟨pw_and ha.pe hb.pe, sem_if bl_stab ha.sem hb.sem sem_bl⟩
theorem vw_or {a b : Expr} {rest : List Expr} {t u : TT} {f g : M Bool} {pos : Pos} (ha : VT cm X W a t f) (hb : VW cm X W (.BoolOp .Or (b :: rest) pos) u g) : VW cm X W (.BoolOp .Or (a :: b :: rest) pos) (tOr t u) (eOr f g) :=
  ⟨pw_or ha.pe hb.pe, sem_if bl_stab ha.sem sem_bl hb.sem⟩
theorem VW.vt {e : Expr} {t : TT} {f : M Bool} (h : VW cm X W e t f) : VT cm X W e t f := ⟨h.pe.pt, h.sem⟩
theorem vt_not {a : Expr} {t : TT} {f : M Bool} {pos : Pos} (h : VT cm X W a t f) : VT cm X W (.UnaryOp .Not a pos) (tNot t) (eNot f) := ⟨pt_not h.pe, by
  refine Sem.bind (u := fun c σ H1 Q => Q (!c) H1) h.sem ?_
  intro ρ₀ c₀ H₀ a x ρ c σ H Q s0 r0 hx q
  dsimp only at q
  have hx : a = x := hx
  subst hx
  exact q c H _ s0 r0 rfl⟩

/-! ### argument lists, displays -/
theorem va_nil : VA cm X W [] tNil eNil := ⟨pa_nil, sem_pure (fun _ _ _ q => q) fun _ _ _ => rfl⟩
theorem va_cons {e : Expr} {es : List Expr} {te : TE} {t : TA} {f : M Hd} {g : M (List Hd)} (h : VE cm X W e te f) (hr : VA cm X W es t g) (hs : starEach (e :: es) X.env = (false, eval e X.env) :: starEach es X.env := by rfl) :
    VA cm X W (e :: es) (tCons te t) (eCons f g) := ⟨pa_cons h.pe hr.pe hs, by
  refine Sem.bind (u := fun x σ H1 Q => t σ H1 fun xs H2 => Q (x :: xs) H2) h.sem ?_
  intro ρ₀ c₀ H₀ a x ρ c σ H Q s0 r0 hx q
  dsimp only at q
  refine hr.sem ρ c σ H _ r0 ?_
  rw [M.bind_run] at q
  cases e : g ρ with
  | exc k ρ' => rw [e] at q; exact fun c' H' s' r' => q c' H' (s0.trans s') r'
  | bad => rw [e] at q; exact q
  | ok b ρ' =>
    rw [e] at q
    intro c1 H1 y s1 r1 hy
    exact q c1 H1 _ (s0.trans s1) r1 ⟨x, y, rfl, hx.stp s1.st, hs_stab.2 _ _ _ _ _ _ _ _ _ s0.st hy⟩⟩
theorem vd_nil : VD cm X W [] tNil dNil := ⟨pa_nil, sem_pure (fun _ _ _ q => q) fun _ _ _ => rfl⟩
theorem vd_cons {e : Expr} {es : List Expr} {te : TE} {t : TA} {f : M Hd} {g : M (List D)} (h : VE cm X W e te f) (hr : VD cm X W es t g) (hs : starEach (e :: es) X.env = (false, eval e X.env) :: starEach es X.env := by rfl) :
    VD cm X W (e :: es) (tCons te t) (dCons f g) := ⟨pa_cons h.pe hr.pe hs, by
  refine Sem.bind (u := fun x σ H1 Q => t σ H1 fun xs H2 => Q (x :: xs) H2) h.sem ?_
  intro ρ₀ c₀ H₀ a x ρ c σ H Q s0 r0 hx q
  dsimp only at q
  rw [M.bind_run] at q
  rcases fz_cases a ρ with ⟨d, ρ1, ef⟩ | ef
  · rw [ef] at q
    obtain ⟨c1, s1, r1, dd, gz1⟩ := fz_ok s0 r0 hx ef
    refine hr.sem ρ1 c1 σ H _ r1 ?_
    dsimp only at q
    rw [M.bind_run] at q
    cases e : g ρ1 with
    | exc k ρ' => rw [e] at q; exact fun c' H' s' r' => q c' H' (s1.trans s') r'
    | bad => rw [e] at q; exact q
    | ok b ρ' =>
      rw [e] at q
      intro c2 H2 y s2 r2 hy
      exact q c2 H2 _ (s1.trans s2) r2 ⟨x, y, rfl, Den.mono s2.st.gz _ _ dd, hy⟩
  · rw [ef] at q; exact q.elim⟩

/-- a new object that stands still, a new list -/
theorem den_new_tup {c : Col} {H : Hp} {p : Addr} {xs : List D} {vs : List V} (hp : H p = none) (h : DenL cm K (Gz c H) xs vs) : Den cm K (Gz (cset c p 0) (upd H p (.tup vs))) (.tup xs) (.ref p) := by
  have e : Ext c (cset c p 0) H (upd H p (.tup vs)) := Ext.alloc hp
  exact ⟨p, vs, rfl, Gz.of cset_same upd_same, DenL.mono e.gz _ _ h⟩
theorem cont_new_lst {c : Col} {H : Hp} {p : Addr} {k : Nat} {xs : List D} {vs : List V} (hp : H p = none) (h : DenL cm K (Gz c H) xs vs) : Cont cm K (cset c p k) (upd H p (.lst vs)) p (.lst xs) := by
  have e : Ext c (cset c p k) H (upd H p (.lst vs)) := Ext.alloc hp
  exact ⟨vs, upd_same, DenL.mono e.gz _ _ h⟩
theorem hdv_new_lst {c : Col} {H : Hp} {p : Addr} {xs : List D} {vs : List V} (hp : H p = none) (h : DenL cm K (Gz c H) xs vs) : HdV cm K n H (cset c p (n + 1)) (upd H p (.lst vs)) (.new (.lst xs)) (.ref p) :=
  ⟨p, rfl, hp, cset_same, cont_new_lst hp h⟩
@[irreducible] def SLine : Nat := 1000000
theorem sline : SLine ≤ sizeLine := by unfold SLine; decide
def eTup (f : M (List D)) : M Hd := f >>= fun xs => if xs.length ≤ SLine then pure (.val (.tup xs)) else M.bad
def eLst (f : M (List D)) : M Hd := f >>= fun xs => if xs.length ≤ SLine then pure (.new (.lst xs)) else M.bad
theorem ve_tup {es : List Expr} {t : TA} {f : M (List D)} {x1} {pos : Pos} (h : VD cm X W es t f) : VE cm X W (.Tuple es x1 pos) (tTup t) (eTup f) := ⟨pe_tup h.pe, by
  refine Sem.bind (u := fun xs σ H1 Q => xs.length ≤ sizeLine ∧ ∀ p, H1 p = none → Q (V.ref p) (upd H1 p (.tup xs))) h.sem ?_
  intro ρ₀ c₀ H₀ a x ρ c σ H Q s0 r0 hx q
  dsimp only at q
  have hx : DenL cm X.K (Gz c H) a x := hx
  have hl := hx.length
  by_cases hz : a.length ≤ SLine
  · rw [if_pos hz] at q
    refine ⟨Nat.le_trans (by omega) sline, fun p hp => ?_⟩
    have e : Ext c (cset c p 0) H (upd H p (.tup x)) := Ext.alloc hp
    exact q _ _ _ (s0.app e.stp) (r0.ext e) (den_new_tup hp hx)
  · rw [if_neg hz] at q; exact q.elim⟩
theorem ve_lst {es : List Expr} {t : TA} {f : M (List D)} {pos : Pos} (h : VD cm X W es t f) : VE cm X W (.List es pos) (tLst t) (eLst f) := ⟨pe_lst h.pe, by
  refine Sem.bind (u := fun xs σ H1 Q => xs.length ≤ sizeLine ∧ ∀ p, H1 p = none → Q (V.ref p) (upd H1 p (.lst xs))) h.sem ?_
  intro ρ₀ c₀ H₀ a x ρ c σ H Q s0 r0 hx q
  dsimp only at q
  have hx : DenL cm X.K (Gz c H) a x := hx
  have hl := hx.length
  by_cases hz : a.length ≤ SLine
  · rw [if_pos hz] at q
    refine ⟨Nat.le_trans (by omega) sline, fun p hp => ?_⟩
    have e : Ext c (cset c p (X.N.length + 1)) H (upd H p (.lst x)) := Ext.alloc hp
    exact q _ _ _ (s0.app e.stp) (r0.ext e) ((hdv_new_lst hp hx).hd s0.st)
  · rw [if_neg hz] at q; exact q.elim⟩

/-! ### calls of built-ins -/
def eCB (g : List D → Option Hd) (f : M (List Hd)) : M Hd := f >>= fun hs => rds hs >>= fun ds => M.lift (g ds)
theorem rds_ok {H₀ H : Hp} {c : Col} {σ : St} {ρ : List S} (r : Rep cm K n c H ρ σ) : ∀ {hs : List Hd} {vs : List V}, HsOk cm K n H₀ c H σ hs vs → ((∃ ds, rds hs ρ = .ok ds ρ ∧ DsR cm K c H ds vs) ∨ rds hs ρ = .bad)
  | [], vs, h => .inl ⟨[], rfl, h⟩
  | h :: hs, vs, ⟨v, t, e, h1, h2⟩ => by
    rcases rd_cases h ρ with ⟨d, e1⟩ | e1
    · rcases rds_ok r h2 with ⟨ds, e2, q⟩ | e2
      · refine .inl ⟨d :: ds, ?_, v, t, e, (rd_ok r h1 e1).2, q⟩
        show (rd h >>= fun d => rds hs >>= fun ds => pure (d :: ds)) ρ = _
        rw [M.bind_run, e1]
        show (rds hs >>= fun ds => pure (d :: ds)) ρ = _
        rw [M.bind_run, e2]
        rfl
      · refine .inr ?_
        show (rd h >>= fun d => rds hs >>= fun ds => pure (d :: ds)) ρ = _
        rw [M.bind_run, e1]
        show (rds hs >>= fun ds => pure (d :: ds)) ρ = _
        rw [M.bind_run, e2]
    · refine .inr ?_
      show (rd h >>= fun d => rds hs >>= fun ds => pure (d :: ds)) ρ = _
      rw [M.bind_run, e1]
theorem sem_cb {r : List V → Hp → VK → Prop} {g : List D → Option Hd} {t : TA} {f : M (List Hd)} (hs : CallS cm K n r g) (h : Sem cm K n W (HsOk cm K n) t f) : Sem cm K n W (HdOk cm K n) (tCB r t) (eCB g f) := by
  refine Sem.bind (u := fun vs σ H1 Q => r vs H1 Q) h ?_
  intro ρ₀ c₀ H₀ a x ρ c σ H Q s0 r0 hx q
  dsimp only at q
  rw [M.bind_run] at q
  rcases rds_ok r0 hx with ⟨ds, e, hd⟩ | e
  · rw [e] at q
    dsimp only at q
    rw [lift_run] at q
    cases eg : g ds with
    | none => rw [eg] at q; exact q.elim
    | some h =>
      rw [eg] at q
      exact hs c H ds x h Q hd eg fun c' H' v ex hv => q c' H' v (s0.app ex.stp) (r0.ext ex) (hv.hd s0.st)
  · rw [e] at q; exact q.elim
theorem ve_callB {id : String} {x : Str} {r : List V → Hp → VK → Prop} {g : List D → Option Hd} {e : Expr} {es : List Expr} {t : TA} {f : M (List Hd)} {p pos : Pos} (hc : CallR X (.builtin id) r) (hs : CallS cm X.K X.N.length r g) (hm : X.mg x = none) (ha : VA cm X W (e :: es) t f)
    (hg : Gl X x := by rfl) (hv : bootBuiltins x = some (.builtin id) := by decide +kernel) (hn : x ≠ "__name__" := by decide) (hdb : (x == ("__debug__" : Str)) = false := by decide)
    (he : starEach (e :: es) X.env = (false, eval e X.env) :: starEach es X.env := by rfl) (hpl : (backTo pos (starEach es X.env)).any (·.1) = false := by rfl) : VE cm X W (.Call (.Name x p) (e :: es) [] pos) (tCB r t) (eCB g f) :=
  ⟨pe_callB hc hg hm hv ha.pe hn hdb he hpl, sem_cb hs ha.sem⟩
theorem ve_callTy {T : String} {x : Str} {r : List V → Hp → VK → Prop} {g : List D → Option Hd} {e : Expr} {es : List Expr} {t : TA} {f : M (List Hd)} {p pos : Pos} (hc : CallR X (.type T) r) (hs : CallS cm X.K X.N.length r g) (hm : X.mg x = none) (ha : VA cm X W (e :: es) t f)
    (hg : Gl X x := by rfl) (hv : bootBuiltins x = some (.type T) := by decide +kernel) (hn : x ≠ "__name__" := by decide) (hdb : (x == ("__debug__" : Str)) = false := by decide)
    (he : starEach (e :: es) X.env = (false, eval e X.env) :: starEach es X.env := by rfl) (hpl : (backTo pos (starEach es X.env)).any (·.1) = false := by rfl) : VE cm X W (.Call (.Name x p) (e :: es) [] pos) (tCB r t) (eCB g f) :=
  ⟨pe_callTy hc hg hm hv ha.pe hn hdb he hpl, sem_cb hs ha.sem⟩
end
end Vi

/-! ## ViStm -/
set_option Elab.async false
set_option linter.all false
set_option maxRecDepth 100000
set_option maxHeartbeats 2000000
namespace Vi
open PySem L2

inductive Fl where
  | nx | rt (s : S) | bk | ct | rr (s : S)

section
variable (cm : Nat → Addr) (K : PySem.W.Frag) (n : Nat) (W : WX)
/-- as QR, for statements: the names may have changed -/
def QN (Q : St → Hp → Prop) (ρ₀ : List S) (σ₀ : St) (c₀ : Col) (H₀ : Hp) (ρ' : List S) : Prop := ∀ c' σ' H', Stp n c₀ c' H₀ H' → Kp ρ₀ ρ' σ₀ σ' → Rep cm K n c' H' ρ' σ' → Q σ' H'
def QS (Dn : Ends) (ρ₀ : List S) (σ₀ : St) (c₀ : Col) (H₀ : Hp) : R Fl → Prop
  | .ok .nx ρ' => QN cm K n Dn.nx ρ₀ σ₀ c₀ H₀ ρ'
  | .ok .bk ρ' => QN cm K n Dn.bk ρ₀ σ₀ c₀ H₀ ρ'
  | .ok .ct ρ' => QN cm K n Dn.ct ρ₀ σ₀ c₀ H₀ ρ'
  | .ok (.rt s) ρ' => ∀ c' H' v, Stp n c₀ c' H₀ H' → RtOk cm K n H₀ c' H' s v → Dn.rt v H'
  | .ok (.rr s) ρ' => ∀ c' σ' H' v, Stp n c₀ c' H₀ H' → Kp ρ₀ ρ' σ₀ σ' → Rep cm K n c' H' ρ' σ' → RtOk cm K n H₀ c' H' s v → Dn.rt v H'
  | .exc k ρ' => QN cm K n (W (.ref (cm k)) none) ρ₀ σ₀ c₀ H₀ ρ'
  | .bad => False
def SemS (t : TS) (f : M Fl) : Prop := ∀ ρ c σ H Dn, Rep cm K n c H ρ σ → QS cm K n W Dn ρ σ c H (f ρ) → t Dn σ H
end
structure VS (cm : Nat → Addr) (X : Cx) (W : WX) (st : Stmt) (t : TS) (f : M Fl) : Prop where
  pe : PS X st t
  sem : SemS cm X.K X.N.length W t f
structure VSs (cm : Nat → Addr) (X : Cx) (W : WX) (st : List Stmt) (t : TS) (f : M Fl) : Prop where
  pe : PSs X st t
  sem : SemS cm X.K X.N.length W t f

def sNx : M Fl := pure .nx
def sSeq (f g : M Fl) : M Fl := f >>= fun x => match x with | .nx => g | x => pure x
def sExpr (f : M Hd) : M Fl := f >>= fun _ => pure .nx
def sSet (i : Nat) (f : M Hd) : M Fl := f >>= fun h => put i h >>= fun _ => pure .nx
def sRet (f : M Hd) : M Fl := f >>= fun h => giv h >>= fun s => pure (.rt s)
/-- a return of a def that changes what it was handed -/
def sRetR (f : M Hd) : M Fl := f >>= fun h => giv h >>= fun s => pure (.rr s)
def sIf (c : M Bool) (f g : M Fl) : M Fl := c >>= fun b => if b = true then f else g

section
variable {cm : Nat → Addr} {K : PySem.W.Frag} {n : Nat} {W : WX}
theorem Stq.kp {ρ ρ' : List S} {c c' : Col} {H H' : Hp} {σ : St} (s : Stq n ρ ρ' c c' H H') : Kp ρ ρ' σ σ := fun i d h => ⟨s.kq i d h, rfl⟩
theorem QN.later {Q : St → Hp → Prop} {ρ₀ ρ₁ ρ' : List S} {σ₀ σ₁ : St} {c₀ c₁ : Col} {H₀ H₁ : Hp} (s : Stp n c₀ c₁ H₀ H₁) (k : Kp ρ₀ ρ₁ σ₀ σ₁) (h : QN cm K n Q ρ₀ σ₀ c₀ H₀ ρ') : QN cm K n Q ρ₁ σ₁ c₁ H₁ ρ' :=
  fun c' σ' H' s' k' r => h c' σ' H' (s.trans s') (k.trans k') r
theorem RtOk.base {c₀ c₁ c : Col} {H₀ H₁ H : Hp} {s : S} {v : V} (st : Stp n c₀ c₁ H₀ H₁) (h : RtOk cm K n H₁ c H s v) : RtOk cm K n H₀ c H s v := by
  cases s with
  | un => exact h
  | bor d => exact h
  | rc p d => exact h
  | tab ts => exact h
  | fr d => exact h
  | own d =>
    obtain ⟨a, e, h1, h2, h3⟩ := h
    exact ⟨a, e, h1, h2, h3.imp st.free id⟩
theorem QS.later {Dn : Ends} {ρ₀ ρ₁ : List S} {σ₀ σ₁ : St} {c₀ c₁ : Col} {H₀ H₁ : Hp} {r : R Fl} (s : Stp n c₀ c₁ H₀ H₁) (k : Kp ρ₀ ρ₁ σ₀ σ₁) (h : QS cm K n W Dn ρ₀ σ₀ c₀ H₀ r) : QS cm K n W Dn ρ₁ σ₁ c₁ H₁ r := by
  cases r with
  | bad => exact h
  | exc j ρ' => exact QN.later s k h
  | ok f ρ' =>
    cases f with
    | nx => exact QN.later s k h
    | bk => exact QN.later s k h
    | ct => exact QN.later s k h
    | rt x => exact fun c' H' v s' q => h c' H' v (s.trans s') (q.base s)
    | rr x => exact fun c' σ' H' v s' k' r' q => h c' σ' H' v (s.trans s') (k.trans k') r' (q.base s)
/-- an expression within a statement -/
theorem sem_in {α β : Type} {rel : Hp → Col → Hp → St → α → β → Prop} {t : St → Hp → (β → Hp → Prop) → Prop} {f : M α} {g : α → M Fl} (ht : Sem cm K n W rel t f) {ρ : List S} {c : Col} {σ : St} {H : Hp} {Dn : Ends} {Q : β → Hp → Prop} (r : Rep cm K n c H ρ σ)
    (q : QS cm K n W Dn ρ σ c H ((f >>= g) ρ)) (h : ∀ a ρ' c' H' x, Stq n ρ ρ' c c' H H' → Rep cm K n c' H' ρ' σ → rel H c' H' σ a x → QS cm K n W Dn ρ σ c H (g a ρ') → Q x H') : t σ H Q := by
  refine ht ρ c σ H Q r ?_
  rw [M.bind_run] at q
  cases e : f ρ with
  | ok a ρ' =>
    rw [e] at q
    exact fun c' H' x s r' ex => h a ρ' c' H' x s r' ex q
  | exc k ρ' =>
    rw [e] at q
    exact fun c' H' s r' => q c' σ H' s.st s.kp r'
  | bad => rw [e] at q; exact q.elim
theorem sem_nx : SemS cm K n W tNext sNx := fun ρ c σ H Dn r q => q c σ H Stp.refl Kp.refl r
theorem sem_seq {t u : TS} {f g : M Fl} (h1 : SemS cm K n W t f) (h2 : SemS cm K n W u g) : SemS cm K n W (tSeq t u) (sSeq f g) := by
  intro ρ c σ H Dn r q
  refine h1 ρ c σ H { Dn with nx := u Dn } r ?_
  unfold sSeq at q
  rw [M.bind_run] at q
  cases e : f ρ with
  | bad => rw [e] at q; exact q.elim
  | exc k ρ' => rw [e] at q; exact q
  | ok x ρ' =>
    rw [e] at q
    cases x with
    | nx => exact fun c' σ' H' s k r' => h2 ρ' c' σ' H' Dn r' (QS.later s k q)
    | bk => exact q
    | ct => exact q
    | rt s => exact q
    | rr s => exact q
theorem sem_expr {te : TE} {f : M Hd} (h : Sem cm K n W (HdOk cm K n) te f) : SemS cm K n W (tDrop te) (sExpr f) := fun ρ c σ H Dn r q =>
  sem_in h r q fun a ρ' c' H' x s r' _ q' => q' c' σ H' s.st s.kp r'
theorem put_in {i : Nat} {h : Hd} {v : V} {g : Unit → M Fl} {Dn : Ends} {ρ₀ ρ : List S} {σ : St} {c₀ c : Col} {H₀ H : Hp} (s : Stq n ρ₀ ρ c₀ c H₀ H) (r : Rep cm K n c H ρ σ) (x : HdOk cm K n H₀ c H σ h v) (hi : i < n)
    (q : QS cm K n W Dn ρ₀ σ c₀ H₀ ((put i h >>= g) ρ)) {P : Prop} (k : ∀ ρ' c', Stp n c₀ c' H₀ H → Kp ρ₀ ρ' σ (σ.set i (some v)) → Rep cm K n c' H ρ' (σ.set i (some v)) → QS cm K n W Dn ρ₀ σ c₀ H₀ (g () ρ') → P) : P := by
  rw [M.bind_run] at q
  rcases put_cases i h ρ with ⟨ρ', e⟩ | e
  · rw [e] at q
    obtain ⟨c', s', r', k'⟩ := put_ok s.st r x hi e
    exact k ρ' c' s' (s.kp.trans k') r' q
  · rw [e] at q; exact q.elim
theorem sem_set {i : Nat} {te : TE} {f : M Hd} (hi : i < n) (h : Sem cm K n W (HdOk cm K n) te f) : SemS cm K n W (tAsg te (gName i)) (sSet i f) := fun ρ c σ H Dn r q =>
  sem_in h r q fun a ρ' c' H' x s r' hx q' => put_in s r' hx hi q' fun ρ2 c2 s2 k2 r2 q2 => q2 c2 _ H' s2 k2 r2
theorem sem_ret {te : TE} {f : M Hd} (h : Sem cm K n W (HdOk cm K n) te f) : SemS cm K n W (tRet te) (sRet f) := fun ρ c σ H Dn r q =>
  sem_in h r q fun a ρ' c' H' x s r' hx q' => by
    rw [M.bind_run] at q'
    rcases giv_cases a ρ' with ⟨z, e⟩ | e
    · rw [e] at q'
      exact q' c' H' x s.st (giv_ok s.st r' hx e).2
    · rw [e] at q'; exact q'.elim
theorem sem_retR {te : TE} {f : M Hd} (h : Sem cm K n W (HdOk cm K n) te f) : SemS cm K n W (tRet te) (sRetR f) := fun ρ c σ H Dn r q =>
  sem_in h r q fun a ρ' c' H' x s r' hx q' => by
    rw [M.bind_run] at q'
    rcases giv_cases a ρ' with ⟨z, e⟩ | e
    · rw [e] at q'
      exact q' c' σ H' x s.st s.kp r' (giv_ok s.st r' hx e).2
    · rw [e] at q'; exact q'.elim
theorem sem_ifS {tc : TT} {t u : TS} {fc : M Bool} {f g : M Fl} (hc : Sem cm K n W BlOk tc fc) (h1 : SemS cm K n W t f) (h2 : SemS cm K n W u g) : SemS cm K n W (tIfS tc t u) (sIf fc f g) := fun ρ c σ H Dn r q =>
  sem_in (Q := fun b H1 => if b = true then t Dn σ H1 else u Dn σ H1) hc r q fun a ρ' c' H' x s r' hx q' => by
    have hx : a = x := hx
    subst hx
    cases a with
    | true => exact h1 ρ' c' σ H' Dn r' (QS.later s.st s.kp q')
    | false => exact h2 ρ' c' σ H' Dn r' (QS.later s.st s.kp q')
end

section
variable {cm : Nat → Addr} {X : Cx} {W : WX}
theorem vss_nil : VSs cm X W [] tNext sNx := ⟨pss_nil, sem_nx⟩
theorem vss_cons {st : Stmt} {rest : List Stmt} {t u : TS} {f g : M Fl} (h1 : VS cm X W st t f) (h2 : VSs cm X W rest u g) : VSs cm X W (st :: rest) (tSeq t u) (sSeq f g) := ⟨pss_cons h1.pe h2.pe, sem_seq h1.sem h2.sem⟩
theorem vss_one {st : Stmt} {t : TS} {f : M Fl} (h1 : VS cm X W st t f) : VSs cm X W [st] t f := ⟨pss_one h1.pe, h1.sem⟩
theorem vs_pass {pos : Pos} : VS cm X W (.Pass pos) tNext sNx := ⟨ps_pass, sem_nx⟩
theorem vs_break {pos : Pos} : VS cm X W (.Break pos) tBreak (pure .bk) := ⟨ps_break, fun ρ c σ H Dn r q => q c σ H Stp.refl Kp.refl r⟩
theorem vs_continue {pos : Pos} : VS cm X W (.Continue pos) tCont (pure .ct) := ⟨ps_continue, fun ρ c σ H Dn r q => q c σ H Stp.refl Kp.refl r⟩
theorem vs_expr {e : Expr} {te : TE} {f : M Hd} {pos : Pos} (h : VE cm X W e te f) (hs : swapsWith e none pos.line X.env = pure false := by rfl) : VS cm X W (.Expr e pos) (tDrop te) (sExpr f) := ⟨ps_expr h.pe hs, sem_expr h.sem⟩
theorem vs_ret {e : Expr} {te : TE} {f : M Hd} {pos : Pos} (h : VE cm X W e te f) : VS cm X W (.Return (some e) pos) (tRet te) (sRet f) := ⟨ps_ret h.pe, sem_ret h.sem⟩
theorem vs_retR {e : Expr} {te : TE} {f : M Hd} {pos : Pos} (h : VE cm X W e te f) : VS cm X W (.Return (some e) pos) (tRet te) (sRetR f) := ⟨ps_ret h.pe, sem_retR h.sem⟩
theorem vs_if {c : Expr} {a b : List Stmt} {tc : TT} {t u : TS} {fc : M Bool} {f g : M Fl} {pos : Pos} (hc : VT cm X W c tc fc) (ha : VSs cm X W a t f) (hb : VSs cm X W b u g) : VS cm X W (.If c a b pos) (tIfS tc t u) (sIf fc f g) :=
  ⟨ps_if hc.pe ha.pe hb.pe, sem_ifS hc.sem ha.sem hb.sem⟩
theorem vs_set (i : Nat) {x : Str} {e : Expr} {te : TE} {f : M Hd} {pos pos' : Pos} (hN : X.N.Nodup) (he : VE cm X W e te f) (hi : X.N[i]? = some x := by rfl) (hx : Loc X.env.scope x := by first | exact Or.inl rfl | exact Or.inr rfl) (hs : swapsWith e (some (.Name x pos')) pos.line X.env = pure false := by rfl)
    (hf : X.fn x = true ∨ X.env.scope.names.lookup x = some .local := by first | exact .inl rfl | exact .inr rfl | assumption) : VS cm X W (.Assign [.Name x pos'] e pos) (tAsg te (gName i)) (sSet i f) :=
  ⟨ps_set hN hi hx he.pe hs hf, sem_set (List.getElem?_eq_some_iff.mp hi).1 he.sem⟩
end

/-! ### targets of loops: the value stands still -/
section
variable (cm : Nat → Addr) (K : PySem.W.Frag) (n : Nat)
/-- as QN; only the names at is have changed -/
def QG (is : List Nat) (Q : St → Hp → Prop) (ρ₀ : List S) (σ₀ : St) (c₀ : Col) (H₀ : Hp) (ρ' : List S) : Prop := ∀ c' σ' H', Stp n c₀ c' H₀ H' → Kp ρ₀ ρ' σ₀ σ' → (∀ j, j ∉ is → σ'[j]? = σ₀[j]?) → Rep cm K n c' H' ρ' σ' → Q σ' H'
def SemG (is : List Nat) (g : TG) (f : D → M Unit) : Prop := ∀ d v ρ c σ H (Q : St → Hp → Prop), Rep cm K n c H ρ σ → Den cm K (Gz c H) d v →
  (match f d ρ with | .ok _ ρ' => QG cm K n is Q ρ σ c H ρ' | _ => False) → g v σ H Q
def SemGs (is : List Nat) (g : TGs) (f : List D → M Unit) : Prop := ∀ ds vs ρ c σ H (Q : St → Hp → Prop), Rep cm K n c H ρ σ → DenL cm K (Gz c H) ds vs →
  (match f ds ρ with | .ok _ ρ' => QG cm K n is Q ρ σ c H ρ' | _ => False) → g vs σ H Q
end
theorem QG.later {cm : Nat → Addr} {K : PySem.W.Frag} {n : Nat} {is : List Nat} {Q : St → Hp → Prop} {ρ₀ ρ₁ ρ' : List S} {σ₀ σ₁ : St} {c₀ c₁ : Col} {H₀ H₁ : Hp} (s : Stp n c₀ c₁ H₀ H₁) (k : Kp ρ₀ ρ₁ σ₀ σ₁) (e : ∀ j, j ∉ is → σ₁[j]? = σ₀[j]?) (h : QG cm K n is Q ρ₀ σ₀ c₀ H₀ ρ') : QG cm K n is Q ρ₁ σ₁ c₁ H₁ ρ' :=
  fun c' σ' H' s' k' e' r => h c' σ' H' (s.trans s') (k.trans k') (fun j hj => (e' j hj).trans (e j hj)) r
theorem QG.mono {cm : Nat → Addr} {K : PySem.W.Frag} {n : Nat} {is is' : List Nat} {Q : St → Hp → Prop} {ρ₀ ρ' : List S} {σ₀ : St} {c₀ : Col} {H₀ : Hp} (m : ∀ j, j ∈ is → j ∈ is') (h : QG cm K n is' Q ρ₀ σ₀ c₀ H₀ ρ') : QG cm K n is Q ρ₀ σ₀ c₀ H₀ ρ' :=
  fun c' σ' H' s' k' e' r => h c' σ' H' s' k' (fun j hj => e' j fun z => hj (m j z)) r
structure VG (cm : Nat → Addr) (X : Cx) (is : List Nat) (tg : Expr) (g : TG) (f : D → M Unit) : Prop where
  pe : PG X tg g
  sem : SemG cm X.K X.N.length is g f
structure VGs (cm : Nat → Addr) (X : Cx) (is : List Nat) (tg : List Expr) (g : TGs) (f : List D → M Unit) : Prop where
  pe : PGs X tg g
  sem : SemGs cm X.K X.N.length is g f
def gN (i : Nat) : D → M Unit := fun d => put i (.val d)
def gsNil : List D → M Unit := fun ds => match ds with | [] => pure () | _ => M.bad
def gsCons (f : D → M Unit) (g : List D → M Unit) : List D → M Unit := fun ds => match ds with | d :: r => f d >>= fun _ => g r | [] => M.bad
def gT (k : Nat) (g : List D → M Unit) : D → M Unit := fun d => match d with | .tup ds => if ds.length = k then g ds else M.bad | _ => M.bad
section
variable {cm : Nat → Addr} {X : Cx} {W : WX}
theorem vg_name (i : Nat) {x : Str} {pos : Pos} (hN : X.N.Nodup) (hi : X.N[i]? = some x := by rfl) (hx : Loc X.env.scope x := by first | exact Or.inl rfl | exact Or.inr rfl) (hf : X.fn x = true ∨ X.env.scope.names.lookup x = some .local := by first | exact .inl rfl | exact .inr rfl | assumption) :
    VG cm X [i] (.Name x pos) (gName i) (gN i) := ⟨pg_name hN hi hx hf, by
  intro d v ρ c σ H Q r hd q
  have hlt : i < X.N.length := (List.getElem?_eq_some_iff.mp hi).1
  exact q c _ H Stp.refl (Kp.set rfl) (fun j hj => List.getElem?_set_ne (fun e => hj (by rw [e]; exact List.mem_singleton_self _))) (r.store ⟨v, rfl, hd⟩)⟩
theorem vgs_nil : VGs cm X [] [] gNil gsNil := ⟨pgs_nil, by
  intro ds vs ρ c σ H Q r hd q
  cases ds with
  | nil => cases hd; exact ⟨rfl, q c σ H Stp.refl Kp.refl (fun _ _ => rfl) r⟩
  | cons d r => exact q.elim⟩
theorem vgs_cons {e : Expr} {es : List Expr} {t : TG} {u : TGs} {f : D → M Unit} {g : List D → M Unit} {is js : List Nat} (h1 : VG cm X is e t f) (h2 : VGs cm X js es u g)
    (hs : (assignEach (e :: es) X.env).map (·.2) = assign e X.env :: (assignEach es X.env).map (·.2) := by rfl) : VGs cm X (is ++ js) (e :: es) (gCons t u) (gsCons f g) := ⟨pgs_cons h1.pe h2.pe hs, by
  intro ds vs ρ c σ H Q r hd q
  cases ds with
  | nil => exact q.elim
  | cons d ds =>
    obtain ⟨v, vr, e1, h3, h4⟩ := hd
    subst e1
    refine ⟨v, vr, rfl, h1.sem d v ρ c σ H _ r h3 ?_⟩
    have q : (match (f d >>= fun _ => g ds) ρ with | .ok _ ρ' => QG cm X.K X.N.length (is ++ js) Q ρ σ c H ρ' | _ => False) := q
    rw [M.bind_run] at q
    cases e : f d ρ with
    | bad => rw [e] at q; exact q.elim
    | exc k ρ' => rw [e] at q; exact q.elim
    | ok _ ρ' =>
      rw [e] at q
      intro c' σ' H' s k en r'
      refine h2.sem ds vr ρ' c' σ' H' Q r' (DenL.mono s.gz _ _ h4) ?_
      dsimp only at q
      cases e2 : g ds ρ' with
      | bad => rw [e2] at q; exact q.elim
      | exc k ρ' => rw [e2] at q; exact q.elim
      | ok _ ρ2 => rw [e2] at q; exact QG.mono (fun j hj => List.mem_append_right _ hj) (QG.later s k (fun j hj => en j fun z => hj (List.mem_append_left _ z)) q)⟩
theorem vg_tup {es : List Expr} {k : Nat} {t : TGs} {m : Nat} {g : List D → M Unit} {is : List Nat} {pos : Pos} (hc : X.calm = true) (h : VGs cm X is es t g)
    (hn : (assignEach es X.env).length = m := by rfl) (hst : (assignEach es X.env).findIdx? (·.1) = none := by rfl) : VG cm X is (.Tuple es k pos) (gTup X.K m t) (gT m g) := ⟨pg_tup hc h.pe hn hst, by
  intro d v ρ c σ H Q r hd q
  cases d with
  | tup ds =>
    obtain ⟨a, vs, e, h1, h2⟩ := hd
    subst e
    have q : (match (if ds.length = m then g ds else M.bad) ρ with | .ok _ ρ' => QG cm X.K X.N.length is Q ρ σ c H ρ' | _ => False) := q
    by_cases hl : ds.length = m
    · rw [if_pos hl] at q
      exact ⟨a, vs, rfl, SqT.of (Gz.to h1).2, by rw [← h2.length]; exact hl, h.sem ds vs ρ c σ H Q r h2 q⟩
    · rw [if_neg hl] at q; exact q.elim
  | _ => exact q.elim⟩
end
end Vi

/-! ## ViLoop -/
set_option Elab.async false
set_option linter.all false
set_option maxRecDepth 100000
set_option maxHeartbeats 2000000
namespace Vi
open PySem L2

/-! ### what is walked -/
section
variable (cm : Nat → Addr) (K : PySem.W.Frag) (n : Nat) (W : WX)
/-- from (c₁, H₁) on, whatever is done by steps, the walk J yields ds -/
def Wlk (J : It) (ds : List D) (c₁ : Col) (H₁ : Hp) : Prop := ∀ c H, Stp n c₁ c H₁ H → ∀ i, (i = ds.length → J.stop i H) ∧ (∀ d, ds[i]? = some d → J.go i H ∧ ∀ x H', J.yld i H x H' → ∃ c', Ext c c' H H' ∧ Den cm K (Gz c' H') d x)
/-- the thing walked may be a name's own: it is lent for the while -/
def WlkL (J : It) (σ : St) (l : Option Nat) (ds : List D) (c₁ : Col) (H₁ : Hp) : Prop := match l with
  | none => Wlk cm K n J ds c₁ H₁
  | some i => ∀ a, σ[i]? = some (some (.ref a)) → Wlk cm K n J ds (cset c₁ a (n + 9)) H₁
def QI (Rw : It → Hp → Prop) (ρ₀ : List S) (c₀ : Col) (H₀ : Hp) (σ : St) : R (List D × Option Nat) → Prop
  | .ok p ρ' => ∀ c' H' J, Stq n ρ₀ ρ' c₀ c' H₀ H' → Rep cm K n c' H' ρ' σ → WlkL cm K n J σ p.2 p.1 c' H' → Rw J H'
  | .exc k ρ' => ∀ c' H', Stq n ρ₀ ρ' c₀ c' H₀ H' → Rep cm K n c' H' ρ' σ → W (.ref (cm k)) none σ H'
  | .bad => False
def SemI (wi : TI) (f : M (List D × Option Nat)) : Prop := ∀ ρ c σ H Rw, Rep cm K n c H ρ σ → QI cm K n W Rw ρ c H σ (f ρ) → wi σ H Rw
end
structure VI (cm : Nat → Addr) (X : Cx) (W : WX) (tg iter : Expr) (wi : TI) (f : M (List D × Option Nat)) : Prop where
  pe : PI X tg iter wi
  sem : SemI cm X.K X.N.length W wi f

/-! ### lending -/
def S.lend (i : Nat) : S → List S → R Unit
  | .own d, ρ => .ok () (ρ.set i (.bor d))
  | _, _ => .bad
def S.unlend (i : Nat) : S → List S → R Unit
  | .bor d, ρ => .ok () (ρ.set i (.own d))
  | _, _ => .bad
def lend : Option Nat → M Unit
  | none, ρ => .ok () ρ
  | some i, ρ => (at_ ρ i).lend i ρ
def unlend : Option Nat → M Unit
  | none, ρ => .ok () ρ
  | some i, ρ => (at_ ρ i).unlend i ρ
/-- whatever the end, what was lent is taken back -/
def R.back {α : Type} (l : Option Nat) : R α → R α
  | .ok a ρ => match unlend l ρ with | .ok _ ρ' => .ok a ρ' | _ => .bad
  | .exc k ρ => match unlend l ρ with | .ok _ ρ' => .exc k ρ' | _ => .bad
  | .bad => .bad
/-- .. a return goes as it is -/
def R.backF (l : Option Nat) : R Fl → R Fl
  | .ok .nx ρ => match unlend l ρ with | .ok _ ρ' => .ok .nx ρ' | _ => .bad
  | .ok (.rt s) ρ => .ok (.rt s) ρ
  | .ok (.rr s) ρ => match l with | none => .ok (.rr s) ρ | some _ => .bad
  | .exc k ρ => match unlend l ρ with | .ok _ ρ' => .exc k ρ' | _ => .bad
  | _ => .bad
def lentF (l : Option Nat) (m : M Fl) : M Fl := fun ρ => match lend l ρ with
  | .ok _ ρ' => (m ρ').backF l
  | _ => .bad
def M.nox {α : Type} (m : M α) : M α := fun ρ => match m ρ with | .ok a ρ' => .ok a ρ' | _ => .bad
def lent {α : Type} (l : Option Nat) (m : M α) : M α := fun ρ => match lend l ρ with
  | .ok _ ρ' => (m ρ').back l
  | _ => .bad

section
variable {cm : Nat → Addr} {K : PySem.W.Frag} {n : Nat} {W : WX}
theorem lend_cases (l : Option Nat) (ρ : List S) : (∃ ρ', lend l ρ = .ok () ρ') ∨ lend l ρ = .bad := by
  cases l with
  | none => exact .inl ⟨_, rfl⟩
  | some i =>
    show (∃ ρ', (at_ ρ i).lend i ρ = .ok () ρ') ∨ (at_ ρ i).lend i ρ = .bad
    cases at_ ρ i with
    | own d => exact .inl ⟨_, rfl⟩
    | _ => exact .inr rfl
theorem unlend_cases (l : Option Nat) (ρ : List S) : (∃ ρ', unlend l ρ = .ok () ρ') ∨ unlend l ρ = .bad := by
  cases l with
  | none => exact .inl ⟨_, rfl⟩
  | some i =>
    show (∃ ρ', (at_ ρ i).unlend i ρ = .ok () ρ') ∨ (at_ ρ i).unlend i ρ = .bad
    cases at_ ρ i with
    | bor d => exact .inl ⟨_, rfl⟩
    | _ => exact .inr rfl
/-- the state while a thing is lent, and what stays true till it is taken back -/
theorem lend_ok {l : Option Nat} {ρ ρ1 ρL : List S} {σ : St} {c c1 : Col} {H H1 : Hp} {J : It} {ds : List D} (s1 : Stq n ρ ρ1 c c1 H H1) (r1 : Rep cm K n c1 H1 ρ1 σ) (e : lend l ρ1 = .ok () ρL) (w : WlkL cm K n J σ l ds c1 H1) :
    ∃ cL, Rep cm K n cL H1 ρL σ ∧ Wlk cm K n J ds cL H1 ∧ (∀ c' H', Stp n cL c' H1 H' → Stp n c c' H H') ∧
      ∀ ρ' c' σ' H', Stp n cL c' H1 H' → Kp ρL ρ' σ σ' → Rep cm K n c' H' ρ' σ' → ∀ ρ5, unlend l ρ' = .ok () ρ5 → ∃ c5, Stp n c c5 H H' ∧ Kp ρ ρ5 σ σ' ∧ Rep cm K n c5 H' ρ5 σ' ∧ (∀ b, c' b ≤ n + 8 → c5 b = c' b) ∧ (l = none → c5 = c') := by
  cases l with
  | none =>
    cases e
    exact ⟨c1, r1, w, fun c' H' s => s1.st.trans s, fun ρ' c' σ' H' s k r ρ5 e5 => by cases e5; exact ⟨c', s1.st.trans s, s1.kp.trans k, r, fun _ _ => rfl, fun _ => rfl⟩⟩
  | some i =>
    have e : (at_ ρ1 i).lend i ρ1 = .ok () ρL := e
    cases q : at_ ρ1 i with
    | un => rw [q] at e; cases e
    | fr d => rw [q] at e; cases e
    | bor d => rw [q] at e; cases e
    | rc p d => rw [q] at e; cases e
    | tab ts => rw [q] at e; cases e
    | own d =>
      rw [q] at e; cases e
      have hs := at_some q (fun z => S.noConfusion z)
      obtain ⟨v, hv, a, ev, ha, ct⟩ := r1.at_ i _ hs
      rw [ev] at hv
      have hi : i < n := by rw [← r1.len]; exact (List.getElem?_eq_some_iff.mp hs).1
      obtain ⟨oa, hoa⟩ := ct.some_
      have gz : ∀ b o, Gz c1 H1 b = some o → Gz (cset c1 a (n + 9)) H1 b = some o := gz_recol (by omega)
      have rL : Rep cm K n (cset c1 a (n + 9)) H1 (ρ1.set i (.bor d)) σ := ⟨by rw [List.length_set]; exact r1.len, r1.lenσ, fun j s h => by
        by_cases hj : i = j
        · subst hj
          rw [List.getElem?_set_self (by rw [r1.len]; exact hi)] at h
          cases h
          exact ⟨_, hv, _, rfl, (ct.keep (c' := cset c1 a (n + 9)) (H' := H1) gz fun o q => q).b (.inr (by rw [cset_same]; omega))⟩
        · rw [List.getElem?_set_ne hj] at h
          obtain ⟨v', h1, h2⟩ := r1.at_ j s h
          refine ⟨v', h1, h2.keep gz (fun b o h => ?_) fun b o e h => ⟨cset_ne (fun q => by rw [q] at e; omega), h⟩⟩
          obtain ⟨z1, z2⟩ := Gb.to h
          exact Gb.of (by rw [cset_ne (fun e => by rw [e] at z1; omega)]; exact z1) z2⟩
      have st5 : ∀ c' H', Stp n (cset c1 a (n + 9)) c' H1 H' → Stp n c c' H H' := fun c' H' s b o hb => by
        obtain ⟨⟨o1, ho1⟩, z2, z3⟩ := s1.st b o hb
        refine ⟨(s b o1 ho1).1, fun q0 => ?_, fun qn => ?_⟩
        · obtain ⟨y1, y2⟩ := z2 q0
          have hne : b ≠ a := fun q => by rw [q] at y1; omega
          exact (s b o y2).2.1 (by rw [cset_ne hne]; exact y1)
        · obtain ⟨y1, y2⟩ := z3 qn
          have hne : b ≠ a := fun q => by subst q; omega
          obtain ⟨x1, x2⟩ := (s b o y2).2.2 (by rw [cset_ne hne, y1]; exact qn)
          exact ⟨by rw [x1, cset_ne hne]; exact y1, x2⟩
      refine ⟨cset c1 a (n + 9), rL, w a hv, st5, fun ρ' c' σ' H' s k r ρ5 e5 => ?_⟩
      have e5 : (at_ ρ' i).unlend i ρ' = .ok () ρ5 := e5
      cases q5 : at_ ρ' i with
      | un => rw [q5] at e5; cases e5
      | fr d => rw [q5] at e5; cases e5
      | own d => rw [q5] at e5; cases e5
      | rc p d => rw [q5] at e5; cases e5
      | tab ts => rw [q5] at e5; cases e5
      | bor d5 =>
        rw [q5] at e5; cases e5
        have hs5 := at_some q5 (fun z => S.noConfusion z)
        obtain ⟨k1, k2⟩ := k i (some d5) (tgO_bor.mpr hs5)
        have k1 := tgO_bor.mp k1
        rw [List.getElem?_set_self (by rw [r1.len]; exact hi)] at k1
        cases k1
        have hv' : σ'[i]? = some (some (.ref a)) := k2.trans hv
        obtain ⟨ca, Ha⟩ := (s a oa hoa).2.2 (by rw [cset_same]; omega)
        rw [cset_same] at ca
        have gz5 : ∀ b o, Gz c' H' b = some o → Gz (cset c' a (i + 1)) H' b = some o := gz_recol (by omega)
        obtain ⟨v5, hv5, u5, eu5, db⟩ := r.at_ i _ hs5
        rw [hv'] at hv5
        cases hv5
        cases eu5
        have ct5 : Cont cm K (cset c' a (i + 1)) H' a d := by
          cases d with
          | lst xs => obtain ⟨a', vs, e1, e2, e3⟩ := db; cases e1; exact ⟨vs, (Gb.to e2).2, DenL.mono gz5 _ _ e3⟩
          | dic ks xs => obtain ⟨a', vs, e1, e2, e3, e4⟩ := db; cases e1; exact ⟨vs, (Gb.to e2).2, e3, DenL.mono gz5 _ _ e4⟩
          | _ => exact ct.elim
        refine ⟨cset c' a (i + 1), fun b o hb => ?_, fun j e he => ?_, ⟨by rw [List.length_set]; exact r.len, r.lenσ, fun j s5 h5 => ?_⟩, (fun b hb => cset_ne (fun q => by rw [q] at hb; omega)), fun z => by cases z⟩
        · obtain ⟨⟨o1, ho1⟩, z2, z3⟩ := s1.st b o hb
          have nb : ∀ (hne : b ≠ a), c1 b = (cset c1 a (n + 9)) b := fun hne => (cset_ne hne).symm
          refine ⟨(s b o1 ho1).1, fun q0 => ?_, fun qn => ?_⟩
          · obtain ⟨y1, y2⟩ := z2 q0
            have hne : b ≠ a := fun q => by rw [q] at y1; omega
            obtain ⟨x1, x2⟩ := (s b o y2).2.1 (by rw [cset_ne hne]; exact y1)
            exact ⟨by rw [cset_ne hne]; exact x1, x2⟩
          · obtain ⟨y1, y2⟩ := z3 qn
            have hne : b ≠ a := fun q => by subst q; omega
            obtain ⟨x1, x2⟩ := (s b o y2).2.2 (by rw [cset_ne hne, y1]; exact qn)
            exact ⟨by rw [cset_ne hne, x1, cset_ne hne]; exact y1, x2⟩
        · rw [tgO_set] at he
          by_cases hj : i = j
          · subst hj
            rw [if_pos ⟨rfl, by rw [r.len]; exact hi⟩] at he
            cases he
          · rw [if_neg (fun z => hj z.1)] at he
            obtain ⟨m1, m2⟩ := k j e he
            rw [tgO_set, if_neg (fun z => hj z.1)] at m1
            exact ⟨s1.kq j e m1, m2⟩
        · by_cases hj : i = j
          · subst hj
            rw [List.getElem?_set_self (by rw [r.len]; exact hi)] at h5
            cases h5
            exact ⟨_, hv', _, rfl, cset_same, ct5⟩
          · rw [List.getElem?_set_ne hj] at h5
            obtain ⟨v', h1, h2⟩ := r.at_ j s5 h5
            cases s5 with
            | un => exact ⟨v', h1, trivial⟩
            | fr e => obtain ⟨u, eu, de⟩ := h2; exact ⟨v', h1, u, eu, Den.mono gz5 _ _ de⟩
            | own e =>
              obtain ⟨b, eb, cb, ctb⟩ := h2
              have hne : b ≠ a := fun q => by rw [q, ca] at cb; have hjn : j < n := by rw [← r.len]; exact (List.getElem?_eq_some_iff.mp h5).1
                                              omega
              exact ⟨v', h1, b, eb, by rw [cset_ne hne]; exact cb, ctb.keep gz5 fun o q => q⟩
            | tab ts =>
              refine ⟨v', h1, h2.1, fun p hp => ?_⟩
              obtain ⟨g1, g2, g3⟩ := h2.2 p hp
              refine ⟨g1, ?_, g3.mono gz5 fun o q => q⟩
              have hne : cm p.1 ≠ a := fun q => by rw [q, ca] at g2; have hjn : j < n := by rw [← r.len]; exact (List.getElem?_eq_some_iff.mp h5).1
                                                   omega
              rw [cset_ne hne]; exact g2
            | rc p e =>
              obtain ⟨u, eu, de⟩ := h2
              refine ⟨v', h1, u, eu, de.mono gz5 fun b o cb hb => ⟨?_, hb⟩⟩
              have hne : b ≠ a := fun q => by rw [q, ca] at cb; have hjn : j < n := by rw [← r.len]; exact (List.getElem?_eq_some_iff.mp h5).1
                                              omega
              rw [cset_ne hne]; exact cb
            | bor e =>
              obtain ⟨m1, m2⟩ := k j (some e) (tgO_bor.mpr h5)
              have m1 := tgO_bor.mp m1
              rw [List.getElem?_set_ne hj] at m1
              obtain ⟨v0, g1, u0, eu0, g2⟩ := r1.at_ j _ m1
              refine ⟨v0, m2.trans g1, u0, eu0, DenX.mono (fun b o hb => ?_) (fun b o hb => gz5 _ _ (s.gz _ _ (gz _ _ hb))) g2⟩
              obtain ⟨z1, z2⟩ := Gb.to hb
              have hne : b ≠ a := fun q => by rw [q] at z1; omega
              have y := Gb.of (n := n) (c := cset c1 a (n + 9)) (by rw [cset_ne hne]; exact z1) z2
              obtain ⟨x1, x2⟩ := Gb.to (s.gb _ _ y)
              exact Gb.of (by rw [cset_ne hne]; exact x1) x2
end

/-! ### for -/
def loopS (tg : D → M Unit) (body : M Fl) : List D → M Fl
  | [] => pure .nx
  | d :: ds => (tg d).nox >>= fun _ => body >>= fun x => match x with
    | .nx => loopS tg body ds
    | .ct => loopS tg body ds
    | .bk => pure .nx
    | .rt s => pure (.rt s)
    | .rr s => pure (.rr s)
def sFor (it : M (List D × Option Nat)) (tg : D → M Unit) (body : M Fl) : M Fl := it >>= fun p => lentF p.2 (loopS tg body p.1)

section
variable {cm : Nat → Addr} {K : PySem.W.Frag} {n : Nat} {W : WX}
theorem drop_get {α : Type} {l : List α} {i : Nat} (h : i < l.length) : ∃ d, l[i]? = some d ∧ l.drop i = d :: l.drop (i + 1) := ⟨l[i], List.getElem?_eq_getElem h, List.drop_eq_getElem_cons h⟩
theorem sem_for {wi : TI} {g : TG} {tb : TS} {fi : M (List D × Option Nat)} {tg : D → M Unit} {body : M Fl} (hi : SemI cm K n W wi fi) {is : List Nat} (hg : SemG cm K n is g tg) (hb : SemS cm K n W tb body) : SemS cm K n W (tFor wi g tb) (sFor fi tg body) := by
  intro ρ c σ H Dn r q
  refine hi ρ c σ H _ r ?_
  unfold sFor at q
  rw [M.bind_run] at q
  cases e : fi ρ with
  | bad => rw [e] at q; exact q.elim
  | exc k ρ1 => rw [e] at q; exact fun c' H' s r' => q c' σ H' s.st s.kp r'
  | ok p ρ1 =>
    obtain ⟨ds, l⟩ := p
    rw [e] at q
    intro c1 H1 J s1 r1 w
    have q : QS cm K n W Dn ρ σ c H (match lend l ρ1 with | .ok _ ρ' => (loopS tg body ds ρ').backF l | _ => .bad) := q
    rcases lend_cases l ρ1 with ⟨ρL, el⟩ | el
    case inr => rw [el] at q; exact q.elim
    rw [el] at q
    obtain ⟨cL, rL, wL, stL, back⟩ := lend_ok s1 r1 el w
    refine ⟨fun i m σ' H' => m = ds.length - i ∧ i ≤ ds.length ∧ ∃ ρ' c', Stp n cL c' H1 H' ∧ Kp ρL ρ' σ σ' ∧ Rep cm K n c' H' ρ' σ' ∧ QS cm K n W Dn ρ σ c H ((loopS tg body (ds.drop i) ρ').backF l),
      ⟨_, rfl, Nat.zero_le _, ρL, cL, Stp.refl, Kp.refl, rL, by rw [List.drop_zero]; exact q⟩, ?_⟩
    rintro i m σ' H' ⟨rfl, hil, ρ', c', s, k, r', q'⟩
    have wi := wL c' H' s i
    -- a plain end of the loop
    have fin : ∀ {Q : St → Hp → Prop} {ρ4 c4 σ4 H4}, Stp n cL c4 H1 H4 → Kp ρL ρ4 σ σ4 → Rep cm K n c4 H4 ρ4 σ4 → (∀ ρ5, unlend l ρ4 = .ok () ρ5 → QN cm K n Q ρ σ c H ρ5) → (unlend l ρ4 = .bad → False) → Q σ4 H4 := fun {Q ρ4 c4 σ4 H4} s4 k4 r4 h5 hn => by
      rcases unlend_cases l ρ4 with ⟨ρ5, e5⟩ | e5
      · obtain ⟨c5, a1, a2, a3, a4⟩ := back ρ4 c4 σ4 H4 s4 k4 r4 ρ5 e5
        exact h5 ρ5 e5 c5 σ4 H4 a1 a2 a3
      · exact (hn e5).elim
    by_cases hlt : i < ds.length
    · obtain ⟨d, hd, hdrop⟩ := drop_get hlt
      obtain ⟨go, yl⟩ := wi.2 d hd
      refine .inr ⟨go, fun σ4 H4 => ∃ ρ4 c4, Stp n cL c4 H1 H4 ∧ Kp ρL ρ4 σ σ4 ∧ Rep cm K n c4 H4 ρ4 σ4 ∧ QS cm K n W Dn ρ σ c H ((loopS tg body (ds.drop (i + 1)) ρ4).backF l),
        fun σ4 H4 ⟨ρ4, c4, a1, a2, a3, a4⟩ => ⟨ds.length - (i + 1), by omega, rfl, hlt, ρ4, c4, a1, a2, a3, a4⟩, fun x H2 hy => ?_⟩
      obtain ⟨c2, ex, dx⟩ := yl x H2 hy
      rw [hdrop] at q'
      have q' : QS cm K n W Dn ρ σ c H (R.backF l (((tg d).nox >>= fun _ => body >>= fun x => match x with
        | .nx => loopS tg body (ds.drop (i + 1))
        | .ct => loopS tg body (ds.drop (i + 1))
        | .bk => pure .nx
        | .rt s => pure (.rt s)
        | .rr s => pure (.rr s)) ρ')) := q'
      rw [M.bind_run] at q'
      refine hg d x ρ' c2 σ' H2 _ (r'.ext ex) dx ?_
      cases eg : tg d ρ' with
      | bad => simp only [M.nox, eg] at q'; exact q'.elim
      | exc kk ρ3 => simp only [M.nox, eg] at q'; exact q'.elim
      | ok _ ρ3 =>
        simp only [M.nox, eg] at q'
        rw [M.bind_run] at q'
        intro c3 σ3 H3 s3 k3 _ r3
        have s03 : Stp n cL c3 H1 H3 := (s.trans ex.stp).trans s3
        have k03 : Kp ρL ρ3 σ σ3 := k.trans k3
        refine hb ρ3 c3 σ3 H3 _ r3 ?_
        cases eb : body ρ3 with
        | bad => rw [eb] at q'; exact q'.elim
        | exc kk ρ4 =>
          rw [eb] at q'
          intro c4 σ4 H4 s4 k4 r4
          refine fin (s03.trans s4) (k03.trans k4) r4 (fun ρ5 e5 => ?_) (fun e5 => ?_)
          · simp only [R.backF, e5] at q'; exact q'
          · simp only [R.backF, e5] at q'; exact q'.elim
        | ok y ρ4 =>
          rw [eb] at q'
          cases y with
          | nx => exact fun c4 σ4 H4 s4 k4 r4 => ⟨ρ4, c4, s03.trans s4, k03.trans k4, r4, q'⟩
          | ct => exact fun c4 σ4 H4 s4 k4 r4 => ⟨ρ4, c4, s03.trans s4, k03.trans k4, r4, q'⟩
          | bk =>
            intro c4 σ4 H4 s4 k4 r4
            have q' : QS cm K n W Dn ρ σ c H (R.backF l (.ok Fl.nx ρ4)) := q'
            refine fin (s03.trans s4) (k03.trans k4) r4 (fun ρ5 e5 => ?_) (fun e5 => ?_)
            · simp only [R.backF, e5] at q'; exact q'
            · simp only [R.backF, e5] at q'; exact q'.elim
          | rt z =>
            intro c4 H4 v s4 rt4
            have q' : QS cm K n W Dn ρ σ c H (R.backF l (.ok (Fl.rt z) ρ4)) := q'
            exact q' c4 H4 v (stL _ _ (s03.trans s4)) (rt4.base (stL _ _ s03))
          | rr z =>
            intro c4 σ4 H4 v s4 k4 r4 rt4
            have q' : QS cm K n W Dn ρ σ c H (R.backF l (.ok (Fl.rr z) ρ4)) := q'
            cases l with
            | some i => exact q'.elim
            | none =>
              obtain ⟨c5, a1, a2, a3, _, a4⟩ := back ρ4 c4 σ4 H4 (s03.trans s4) (k03.trans k4) r4 ρ4 rfl
              cases a4 rfl
              exact q' c4 σ4 H4 v a1 a2 a3 (rt4.base (stL _ _ s03))
    · have hil' : i = ds.length := by omega
      refine .inl ⟨wi.1 hil', ?_⟩
      rw [hil', List.drop_length] at q'
      have q' : QS cm K n W Dn ρ σ c H (R.backF l (.ok Fl.nx ρ')) := q'
      refine fin s k r' (fun ρ5 e5 => ?_) (fun e5 => ?_)
      · simp only [R.backF, e5] at q'; exact q'
      · simp only [R.backF, e5] at q'; exact q'.elim

end

/-! ### list comprehensions -/
def wipeS (ρ : List S) : List Nat → List S
  | [] => ρ
  | v :: vs => (wipeS ρ vs).set v .un
/-- the names of the block get back what they held -/
def S.notOwn : S → Bool | .own _ => false | .rc _ _ => false | .tab _ => false | _ => true
def back (ρ' ρ : List S) : List Nat → List S
  | [] => ρ'
  | v :: vs => (back ρ' ρ vs).set v (at_ ρ v)
def guardM {α : Type} (b : Bool) (m : M α) : M α := fun ρ => if b = true then m ρ else .bad
def wipeM {α : Type} (vs : List Nat) (m : M α) : M α := fun ρ => m (wipeS ρ vs)
def lcS (tg : D → M Unit) (cond : M Bool) (elt : M Hd) (vs : List Nat) : List D → List D → M (List D)
  | [], acc => pure acc
  | d :: ds, acc => (tg d).nox >>= fun _ => cond.nox >>= fun b =>
    if b = true then elt.nox >>= fun h => fz h >>= fun x => guardM (decide (acc.length < SLine)) (wipeM vs (lcS tg cond elt vs ds (acc ++ [x])))
    else wipeM vs (lcS tg cond elt vs ds acc)
def lcF (vs : List Nat) (f : M (List D)) : M Hd := fun ρ => if vs.all (fun v => (at_ ρ v).notOwn) = true then
    match f (wipeS ρ vs) with
    | .ok ds ρ' => .ok (.new (.lst ds)) (back ρ' ρ vs)
    | _ => .bad
  else .bad
def eLc (it : M (List D × Option Nat)) (tg : D → M Unit) (cond : M Bool) (elt : M Hd) (vs : List Nat) : M Hd := it >>= fun p => lent p.2 (lcF vs (lcS tg cond elt vs p.1 []))
def tYesM : M Bool := pure true
section
variable {cm : Nat → Addr} {K : PySem.W.Frag} {n : Nat} {W : WX}
theorem wipeS_len (ρ : List S) : ∀ vs : List Nat, (wipeS ρ vs).length = ρ.length
  | [] => rfl
  | v :: vs => by unfold wipeS; rw [List.length_set, wipeS_len ρ vs]
theorem back_len (ρ' ρ : List S) : ∀ vs : List Nat, (back ρ' ρ vs).length = ρ'.length
  | [] => rfl
  | v :: vs => by unfold back; rw [List.length_set, back_len ρ' ρ vs]
theorem wipeS_get {ρ : List S} {i : Nat} : ∀ {vs : List Nat} {s : S}, (wipeS ρ vs)[i]? = some s → s ≠ .un → ρ[i]? = some s ∧ i ∉ vs
  | [], s, h, _ => ⟨h, by simp⟩
  | v :: vs, s, h, hs => by
    unfold wipeS at h
    by_cases hi : v = i
    · subst hi
      by_cases hv : v < (wipeS ρ vs).length
      · rw [List.getElem?_set_self hv] at h; exact absurd (Option.some.inj h).symm hs
      · rw [List.getElem?_eq_none (by simpa using hv)] at h; cases h
    · rw [List.getElem?_set_ne hi] at h
      obtain ⟨h1, h2⟩ := wipeS_get h hs
      exact ⟨h1, by simp only [List.mem_cons, not_or]; exact ⟨fun e => hi e.symm, h2⟩⟩
theorem back_get {ρ' ρ : List S} {i : Nat} : ∀ {vs : List Nat} {s : S}, (back ρ' ρ vs)[i]? = some s → (i ∈ vs ∧ s = at_ ρ i) ∨ (i ∉ vs ∧ ρ'[i]? = some s)
  | [], s, h => .inr ⟨by simp, h⟩
  | v :: vs, s, h => by
    unfold back at h
    by_cases hi : v = i
    · subst hi
      by_cases hv : v < (back ρ' ρ vs).length
      · rw [List.getElem?_set_self hv] at h; exact .inl ⟨List.mem_cons_self, (Option.some.inj h).symm⟩
      · rw [List.getElem?_eq_none (by simpa using hv)] at h; cases h
    · rw [List.getElem?_set_ne hi] at h
      rcases back_get h with ⟨h1, h2⟩ | ⟨h1, h2⟩
      · exact .inl ⟨List.mem_cons_of_mem _ h1, h2⟩
      · exact .inr ⟨by simp only [List.mem_cons, not_or]; exact ⟨fun e => hi e.symm, h1⟩, h2⟩
theorem tgO_wipe {ρ : List S} {vs : List Nat} {i : Nat} {t : Option D} (h : tgO (wipeS ρ vs) i = some t) : tgO ρ i = some t := by
  unfold tgO at h ⊢
  cases q : (wipeS ρ vs)[i]? with
  | none => rw [q] at h; cases h
  | some s =>
    rw [q] at h
    have hs : s ≠ .un := fun z => by subst z; cases (show none = some t from h)
    rw [(wipeS_get q hs).1]; exact h
theorem tgO_back {ρ' ρ : List S} {vs : List Nat} {i : Nat} {t : Option D} (h : tgO (back ρ' ρ vs) i = some t) : tgO ρ i = some t ∨ tgO ρ' i = some t := by
  unfold tgO at h ⊢
  cases q : (back ρ' ρ vs)[i]? with
  | none => rw [q] at h; cases h
  | some s =>
    rw [q] at h
    have h : tagS s = some t := h
    rcases back_get q with ⟨h1, h2⟩ | ⟨h1, h2⟩
    · have hs : s ≠ .un := fun z => by subst z; cases (show none = some t from h)
      rw [at_some h2.symm hs]; exact .inl h
    · rw [h2]; exact .inr h
theorem wipe_in {σ : St} {i : Nat} : ∀ {vs : List Nat}, i ∈ vs → i < σ.length → (wipe σ vs)[i]? = some none
  | v :: vs, h, hl => by
    unfold wipe
    by_cases hi : v = i
    · subst hi; exact List.getElem?_set_self (by rw [wipe_length]; exact hl)
    · rw [List.getElem?_set_ne hi]
      exact wipe_in ((List.mem_cons.mp h).resolve_left fun e => hi e.symm) hl
theorem wipe_ext {σ σ' : St} {vs : List Nat} (hl : σ.length = σ'.length) (h : ∀ j, j ∉ vs → σ[j]? = σ'[j]?) : wipe σ vs = wipe σ' vs := by
  apply List.ext_getElem?
  intro i
  by_cases hi : i ∈ vs
  · by_cases hlt : i < σ.length
    · rw [wipe_in hi hlt, wipe_in hi (by omega)]
    · rw [List.getElem?_eq_none (by rw [wipe_length]; omega), List.getElem?_eq_none (by rw [wipe_length]; omega)]
  · rw [wipe_out hi, wipe_out hi]; exact h i hi
theorem Rep.wipe {c : Col} {H : Hp} {ρ : List S} {σ : St} (r : Rep cm K n c H ρ σ) (vs : List Nat) : Rep cm K n c H (wipeS ρ vs) (wipe σ vs) :=
  ⟨by rw [wipeS_len]; exact r.len, by rw [wipe_length]; exact r.lenσ, fun i s h => by
    by_cases hs : s = .un
    · subst hs
      have hi : i < n := by rw [← r.len, ← wipeS_len ρ vs]; exact (List.getElem?_eq_some_iff.mp h).1
      exact ⟨_, List.getElem?_eq_getElem (by rw [wipe_length, r.lenσ]; exact hi), trivial⟩
    · obtain ⟨h1, h2⟩ := wipeS_get h hs
      obtain ⟨v, g1, g2⟩ := r.at_ i s h1
      exact ⟨v, by rw [wipe_out h2]; exact g1, g2⟩⟩
/-- a temporary thing is written -/
theorem Rep.write {c : Col} {H : Hp} {ρ : List S} {σ : St} {p : Addr} {o : HO} (r : Rep cm K n c H ρ σ) (hp : n < c p) (hp2 : c p ≤ n + 8) : Rep cm K n c (upd H p o) ρ σ :=
  ⟨r.len, r.lenσ, fun i s q => by
    obtain ⟨v, h1, h2⟩ := r.at_ i s q
    have hi : i < n := by rw [← r.len]; exact (List.getElem?_eq_some_iff.mp q).1
    refine ⟨v, h1, h2.keep (fun a o h => ?_) (fun a o h => ?_) fun a o e h => ?_⟩
    · obtain ⟨z1, z2⟩ := Gz.to h
      exact Gz.of z1 (by rw [upd_ne (fun e => by rw [e] at z1; omega)]; exact z2)
    · obtain ⟨z1, z2⟩ := Gb.to h
      exact Gb.of z1 (by rw [upd_ne (fun e => by rw [e] at z1; omega)]; exact z2)
    · exact ⟨rfl, by rw [upd_ne (fun q => by rw [q] at e; omega)]; exact h⟩⟩
theorem gz_write {c : Col} {H : Hp} {p : Addr} {o : HO} (hp : c p ≠ 0) : ∀ a u, Gz c H a = some u → Gz c (upd H p o) a = some u := fun a u h => by
  obtain ⟨z1, z2⟩ := Gz.to h
  exact Gz.of z1 (by rw [upd_ne (fun e => by rw [e] at z1; exact hp z1)]; exact z2)
theorem Stp.write {c c' : Col} {H H' : Hp} {p : Addr} {o : HO} (s : Stp n c c' H H') (h0 : H p = none) : Stp n c c' H (upd H' p o) := fun a u h => by
  have ne : a ≠ p := ne_of_none h h0
  rw [upd_ne ne]
  exact s a u h
abbrev W0 : WX := fun _ _ _ _ => False
theorem sem_lc {wi : TI} {g : TG} {tt : TT} {te : TE} {vs is : List Nat} {fi : M (List D × Option Nat)} {tg : D → M Unit} {cond : M Bool} {elt : M Hd} (hi : SemI cm K n W wi fi) (hg : SemG cm K n is g tg) (hsub : ∀ j, j ∈ is → j ∈ vs)
    (ht : Sem cm K n W0 BlOk tt cond) (he : Sem cm K n W0 (HdOk cm K n) te elt) : Sem cm K n W (HdOk cm K n) (tLc wi g tt te vs) (eLc fi tg cond elt vs) := by
  intro ρ c σ H Q r q
  refine hi ρ c σ H _ r ?_
  unfold eLc at q
  rw [M.bind_run] at q
  cases e : fi ρ with
  | bad => rw [e] at q; exact q.elim
  | exc k ρ1 => rw [e] at q; exact q
  | ok p ρ1 =>
    obtain ⟨ds, l⟩ := p
    rw [e] at q
    intro c1 H1 J s1 r1 w D hD
    have q : QR cm K n W (HdOk cm K n) Q ρ c H σ (match lend l ρ1 with | .ok _ ρ' => (lcF vs (lcS tg cond elt vs ds []) ρ').back l | _ => .bad) := q
    rcases lend_cases l ρ1 with ⟨ρL, el⟩ | el
    case inr => rw [el] at q; exact q.elim
    rw [el] at q
    obtain ⟨cL, rL, wL, stL, bk⟩ := lend_ok s1 r1 el w
    have q : QR cm K n W (HdOk cm K n) Q ρ c H σ ((lcF vs (lcS tg cond elt vs ds []) ρL).back l) := q
    unfold lcF at q
    by_cases hall : vs.all (fun v => (at_ ρL v).notOwn) = true
    case neg => rw [if_neg hall] at q; exact q.elim
    rw [if_pos hall] at q
    -- what the end wants
    generalize hfin : (fun r : R (List Vi.D) => (match r with | .ok ds ρ' => (R.ok (Hd.new (.lst ds)) (back ρ' ρL vs) : R Hd) | _ => .bad)) = fin
    have q : QR cm K n W (HdOk cm K n) Q ρ c H σ ((fin (lcS tg cond elt vs ds [] (wipeS ρL vs))).back l) := by rw [← hfin]; exact q
    have hbad : fin .bad = .bad := by rw [← hfin]
    have ex0 : Ext cL (cset cL D (n + 1)) H1 (upd H1 D (.lst [])) := Ext.alloc hD
    refine ⟨fun i m H' => m = ds.length - i ∧ i ≤ ds.length ∧ ∃ ρ' c' acc us, Stp n cL c' H1 H' ∧ Kq (wipeS ρL vs) ρ' ∧ Rep cm K n c' H' ρ' (wipe σ vs) ∧ H' D = some (.lst us) ∧ c' D = n + 1 ∧ DenL cm K (Gz c' H') acc us ∧
        QR cm K n W (HdOk cm K n) Q ρ c H σ ((fin (lcS tg cond elt vs (ds.drop i) acc ρ')).back l),
      ⟨_, rfl, Nat.zero_le _, wipeS ρL vs, cset cL D (n + 1), [], [], ex0.stp, fun _ _ h => h, (rL.wipe vs).ext ex0, upd_same, cset_same, rfl, by rw [List.drop_zero]; exact q⟩, ?_⟩
    rintro i m H' ⟨rfl, hil, ρ', c', acc, us, s, k, r', hDl, hDc, dl, q'⟩
    have wi := wL c' H' s i
    by_cases hlt : i < ds.length
    · obtain ⟨d, hd, hdrop⟩ := drop_get hlt
      obtain ⟨go, yl⟩ := wi.2 d hd
      refine .inr ⟨go, fun H4 => ∃ ρ4 c4 acc4 us4, Stp n cL c4 H1 H4 ∧ Kq (wipeS ρL vs) ρ4 ∧ Rep cm K n c4 H4 ρ4 (wipe σ vs) ∧ H4 D = some (.lst us4) ∧ c4 D = n + 1 ∧ DenL cm K (Gz c4 H4) acc4 us4 ∧
          QR cm K n W (HdOk cm K n) Q ρ c H σ ((fin (lcS tg cond elt vs (ds.drop (i + 1)) acc4 ρ4)).back l),
        fun H4 ⟨ρ4, c4, acc4, us4, a1, a2, a3, a4, a5, a6, a7⟩ => ⟨ds.length - (i + 1), by omega, rfl, hlt, ρ4, c4, acc4, us4, a1, a2, a3, a4, a5, a6, a7⟩, fun x H2 hy => ?_⟩
      obtain ⟨c2, ex, dx⟩ := yl x H2 hy
      rw [hdrop] at q'
      have q' : QR cm K n W (HdOk cm K n) Q ρ c H σ ((fin (((tg d).nox >>= fun _ => cond.nox >>= fun b =>
          if b = true then elt.nox >>= fun h => fz h >>= fun x => guardM (decide (acc.length < SLine)) (wipeM vs (lcS tg cond elt vs (ds.drop (i + 1)) (acc ++ [x])))
          else wipeM vs (lcS tg cond elt vs (ds.drop (i + 1)) acc)) ρ')).back l) := q'
      rw [M.bind_run] at q'
      refine hg d x ρ' c2 (wipe σ vs) H2 _ (r'.ext ex) dx ?_
      obtain ⟨exc, exD⟩ := ex D _ hDl
      cases eg : tg d ρ' with
      | bad => simp only [M.nox, eg, hbad] at q'; exact q'.elim
      | exc kk ρ3 => simp only [M.nox, eg, hbad] at q'; exact q'.elim
      | ok _ ρ3 =>
        simp only [M.nox, eg] at q'
        rw [M.bind_run] at q'
        intro c3 σ3 H3 s3 k3 en3 r3
        have len3 : σ3.length = (wipe σ vs).length := r3.lenσ.trans r'.lenσ.symm
        have w3 : wipe σ3 vs = wipe σ vs := by
          have e1 : wipe σ3 vs = wipe (wipe σ vs) vs := wipe_ext len3 fun j hj => en3 j fun z => hj (hsub j z)
          have e2 : wipe (wipe σ vs) vs = wipe σ vs := wipe_ext (wipe_length σ vs) fun j hj => wipe_out hj
          exact e1.trans e2
        refine ⟨w3, ht ρ3 c3 σ3 H3 _ r3 ?_⟩
        have hD3 : c3 D = n + 1 ∧ H3 D = some (.lst us) := by
          obtain ⟨z1, z2⟩ := (s3 D _ exD).2.2 (by rw [exc, hDc]; exact Nat.lt_succ_self n)
          exact ⟨by rw [z1, exc]; exact hDc, z2⟩
        have s03 : Stp n cL c3 H1 H3 := (s.trans ex.stp).trans s3
        have k03 : Kq (wipeS ρL vs) ρ3 := fun j e h => k j e (k3 j e h).1
        cases eb : cond ρ3 with
        | bad => simp only [M.nox, eb, hbad] at q'; exact q'.elim
        | exc kk ρ4 => simp only [M.nox, eb, hbad] at q'; exact q'.elim
        | ok b ρ4 =>
          simp only [M.nox, eb] at q'
          intro c4 H4 b' s4 r4 hbb
          have hbb : b = b' := hbb
          subst hbb
          have hD4 : c4 D = n + 1 ∧ H4 D = some (.lst us) := by
            obtain ⟨z1, z2⟩ := (s4.st D _ hD3.2).2.2 (by rw [hD3.1]; exact Nat.lt_succ_self n)
            exact ⟨by rw [z1]; exact hD3.1, z2⟩
          cases b with
          | false =>
            simp only [Bool.false_eq_true, if_false] at q' ⊢
            refine ⟨wipeS ρ4 vs, c4, acc, us, s03.trans s4.st, fun j e h => ?_, by rw [← w3]; exact r4.wipe vs, hD4.2, hD4.1, DenL.mono (fun a o h => (s4.st.gz _ _ (s3.gz _ _ (ex.gz _ _ h)))) _ _ dl, q'⟩
            exact k03 j e (s4.kq j e (tgO_wipe h))
          | true =>
            have q' : QR cm K n W (HdOk cm K n) Q ρ c H σ ((fin ((elt.nox >>= fun h => fz h >>= fun x => guardM (decide (acc.length < SLine)) (wipeM vs (lcS tg cond elt vs (ds.drop (i + 1)) (acc ++ [x])))) ρ4)).back l) := q'
            show te σ3 H4 _
            rw [M.bind_run] at q'
            refine he ρ4 c4 σ3 H4 _ r4 ?_
            cases ee : elt ρ4 with
            | bad => simp only [M.nox, ee, hbad] at q'; exact q'.elim
            | exc kk ρ5 => simp only [M.nox, ee, hbad] at q'; exact q'.elim
            | ok h ρ5 =>
              simp only [M.nox, ee] at q'
              intro c5 H5 y s5 r5 hy5
              have hD5 : c5 D = n + 1 ∧ H5 D = some (.lst us) := by
                obtain ⟨z1, z2⟩ := (s5.st D _ hD4.2).2.2 (by rw [hD4.1]; exact Nat.lt_succ_self n)
                exact ⟨by rw [z1]; exact hD4.1, z2⟩
              rw [M.bind_run] at q'
              rcases fz_cases h ρ5 with ⟨z, ρ6, ef⟩ | ef
              case inr => rw [ef] at q'; simp only [hbad] at q'; exact q'.elim
              rw [ef] at q'
              dsimp only at q'
              obtain ⟨c6, s6, r6, dz, g6⟩ := fz_ok s5 r5 hy5 ef
              have hD6 : c6 D = n + 1 := by
                obtain ⟨z1, z2⟩ := (s6.st D _ hD4.2).2.2 (by rw [hD4.1]; exact Nat.lt_succ_self n)
                rw [z1]; exact hD4.1
              have hlen : acc.length = us.length := dl.length
              by_cases hz : acc.length < SLine
              case neg => simp only [guardM, decide_eq_false hz, Bool.false_eq_true, if_false, hbad] at q'; exact q'.elim
              simp only [guardM, decide_eq_true hz, if_true] at q'
              refine ⟨us, hD5.2, Nat.lt_of_lt_of_le (by omega) sline, wipeS ρ6 vs, c6, acc ++ [z], us ++ [y], ?_, fun j e h => ?_, ?_, upd_same, hD6, ?_, q'⟩
              · exact ((s03.trans s4.st).trans s6.st).write hD
              · exact k03 j e (s4.kq j e (s6.kq j e (tgO_wipe h)))
              · rw [← w3]; exact (r6.write (by omega) (by omega)).wipe vs
              · have g7 : ∀ a o, Gz c6 H5 a = some o → Gz c6 (upd H5 D (.lst (us ++ [y]))) a = some o := gz_write (by omega)
                refine DenL.append (DenL.mono (fun a o h => g7 _ _ (s6.st.gz _ _ (s4.st.gz _ _ (s3.gz _ _ (ex.gz _ _ h))))) _ _ dl) ⟨y, [], rfl, Den.mono g7 _ _ dz, rfl⟩
    · have hil' : i = ds.length := by omega
      refine .inl ⟨wi.1 hil', ?_⟩
      rw [hil', List.drop_length] at q'
      have q' : QR cm K n W (HdOk cm K n) Q ρ c H σ ((fin (.ok acc ρ')).back l) := q'
      rw [← hfin] at q'
      have rb : Rep cm K n c' H' (back ρ' ρL vs) σ := ⟨by rw [back_len]; exact r'.len, r.lenσ, fun j s5 h => by
        rcases back_get h with ⟨h1, h2⟩ | ⟨h1, h2⟩
        · subst h2
          have hno : (at_ ρL j).notOwn = true := List.all_eq_true.mp hall j h1
          cases qq : at_ ρL j with
          | own d => rw [qq] at hno; cases hno
          | rc p d => rw [qq] at hno; cases hno
          | tab ts => rw [qq] at hno; cases hno
          | un =>
            have hj : j < n := by rw [← r'.len, ← back_len ρ' ρL vs]; exact (List.getElem?_eq_some_iff.mp h).1
            exact ⟨_, List.getElem?_eq_getElem (by rw [r.lenσ]; exact hj), trivial⟩
          | fr d =>
            obtain ⟨v, g1, u, eu, du⟩ := rL.at_ j _ (at_some qq (fun z => S.noConfusion z))
            exact ⟨v, g1, u, eu, Den.mono s.gz _ _ du⟩
          | bor d =>
            obtain ⟨v, g1, u, eu, du⟩ := rL.at_ j _ (at_some qq (fun z => S.noConfusion z))
            exact ⟨v, g1, u, eu, DenX.mono s.gb s.gz du⟩
        · obtain ⟨v, g1, g2⟩ := r'.at_ j s5 h2
          rw [wipe_out h1] at g1
          exact ⟨v, g1, g2⟩⟩
      have kb : Kp ρL (back ρ' ρL vs) σ σ := fun j e h => by
        rcases tgO_back h with h2 | h2
        · exact ⟨h2, rfl⟩
        · exact ⟨tgO_wipe (k j e h2), rfl⟩
      rcases unlend_cases l (back ρ' ρL vs) with ⟨ρ5, e5⟩ | e5
      · obtain ⟨c5, a1, a2, a3, a4, _⟩ := bk (back ρ' ρL vs) c' σ H' s kb rb ρ5 e5
        simp only [R.back, e5] at q'
        have cD : c5 D = n + 1 := by rw [a4 D (by omega)]; exact hDc
        exact q' c5 H' (.ref D) ⟨a1, fun j e h => (a2 j e h).1⟩ a3 ⟨D, rfl, s1.st.free hD, cD, us, hDl, DenL.mono (fun b o h => by
          obtain ⟨z1, z2⟩ := Gz.to h
          exact Gz.of (by rw [a4 b (by omega)]; exact z1) z2) _ _ dl⟩
      · simp only [R.back, e5] at q'; exact q'.elim
end
end Vi

/-! ## ViIt -/
set_option Elab.async false
set_option linter.all false
set_option maxRecDepth 100000
set_option maxHeartbeats 2000000
namespace Vi
open PySem L2

/-! ### a list, a tuple, a text -/
def iAny (K : PySem.W.Frag) (tl : TE) : TI := fun σ H R => tl σ H fun x H1 => (∃ a, x = .ref a ∧ (∃ xs, SqL K H1 a xs) ∧ R (Itl K a) H1) ∨ (∃ a, x = .ref a ∧ (∃ xs, SqT K H1 a xs) ∧ R (Itt K a) H1) ∨ ∃ z, x = .str z ∧ R (Its z) H1
/-- an expression's reading, its value fixed -/
theorem pi_any {X : Cx} {tg l : Expr} {tl : TE} (hl : PE X l tl) : PI X tg l (iAny X.K tl) := ⟨fun pins s σ H R I h => thn (hl.run pins s σ H _ I h) fun v s1 ⟨x, H1, I1, r1, q1⟩ => by
  rcases q1 with ⟨a, e, ⟨xs, hq⟩, q⟩ | ⟨a, e, ⟨xs, hq⟩, q⟩ | ⟨z, e, q⟩
  · subst e
    cases r1
    obtain ⟨its, _, p, _⟩ := I1.list hq
    exact wpAny_pyIter_list p.isList (pi_one (tk := s1.toks) I1 _ (turn_list a _) ⟨_, Heap.get?_push_size _ rfl, rfl, rfl⟩ q)
  · subst e
    cases r1
    obtain ⟨its, _, p, _⟩ := I1.tuple hq
    exact wpAny_pyIter_tuple (t := a) p (pi_one (tk := s1.toks) I1 _ (turn_tuple a _) ⟨_, Heap.get?_push_size _ rfl, rfl, rfl⟩ q)
  · subst e
    have hx : RelV (.str z) v := r1
    obtain ⟨t, rfl⟩ := hx
    cases ha : z.cps.all (· < 128)
    · exact wpAny_pyIter_wide ha (pi_one (tk := s1.toks) I1 _ (turn_str _ z t "str_iterator" (.inr rfl)) ⟨_, Heap.get?_push_size _ rfl, rfl, rfl⟩ q)
    · exact wpAny_pyIter_ascii ha (pi_one (tk := s1.toks) I1 _ (turn_str _ z t "str_ascii_iterator" (.inl rfl)) ⟨_, Heap.get?_push_size _ rfl, rfl, rfl⟩ q)⟩
def S.lentOf (i : Nat) : S → Option Nat | .own _ => some i | _ => none
def lentOf : Hd → List S → Option Nat
  | .slot i, ρ => (at_ ρ i).lentOf i
  | _, _ => none
def itOf (h : Hd) (d : D) : M (List D × Option Nat) := fun ρ => match d with
  | .lst xs => .ok (xs, lentOf h ρ) ρ
  | .tup xs => .ok (xs, none) ρ
  | .str s => .ok (s.map fun c => .str [c], none) ρ
  | _ => .bad
def itAny (f : M Hd) : M (List D × Option Nat) := f >>= fun h => rd h >>= fun d => itOf h d
section
variable {cm : Nat → Addr} {K : PySem.W.Frag} {n : Nat} {W : WX} {c c' : Col} {H H' : Hp}
theorem sql_eq {a : Addr} {xs ys : List V} (h : H a = some (.lst xs)) (h' : SqL K H a ys) (hk : K.lookup a = none ∨ True) : True := trivial
theorem wlk_list {a : Addr} {ds : List Vi.D} {vs : List V} (ha : H a = some (.lst vs)) (hd : DenL cm K (Gz c H) ds vs) (hc : c a = 0 ∨ n < c a) : Wlk cm K n (Itl K a) ds c H := by
  intro c1 H1 s i
  have h1 : H1 a = some (.lst vs) := by
    rcases hc with q | q
    · exact ((s a _ ha).2.1 q).2
    · exact ((s a _ ha).2.2 q).2
  have hl := hd.length
  refine ⟨fun e => ⟨vs, SqL.of h1, by omega⟩, fun d e => ?_⟩
  obtain ⟨v, hv, dv⟩ := hd.get e
  refine ⟨⟨vs, v, SqL.of h1, hv⟩, fun x H2 hy => ?_⟩
  obtain ⟨e1, e2⟩ := hy
  have e3 := e2 vs (SqL.of h1)
  rw [hv] at e3
  cases e3
  subst e1
  exact ⟨c1, Ext.refl, Den.mono s.gz _ _ dv⟩
theorem wlk_tup {a : Addr} {ds : List Vi.D} {vs : List V} (ha : Gz c H a = some (.tup vs)) (hd : DenL cm K (Gz c H) ds vs) : Wlk cm K n (Itt K a) ds c H := by
  intro c1 H1 s i
  have h1 : H1 a = some (.tup vs) := (Gz.to (s.gz _ _ ha)).2
  have hl := hd.length
  refine ⟨fun e => ⟨vs, SqT.of h1, by omega⟩, fun d e => ?_⟩
  obtain ⟨v, hv, dv⟩ := hd.get e
  refine ⟨⟨vs, v, SqT.of h1, hv⟩, fun x H2 hy => ?_⟩
  obtain ⟨e1, e2⟩ := hy
  have e3 := e2 vs (SqT.of h1)
  rw [hv] at e3
  cases e3
  subst e1
  exact ⟨c1, Ext.refl, Den.mono s.gz _ _ dv⟩
theorem wlk_str {s : List Nat} : Wlk cm K n (Its ⟨s.toArray⟩) (s.map fun c => .str [c]) c H := by
  intro c1 H1 st i
  refine ⟨fun e => ?_, fun d e => ?_⟩
  · show s.toArray.size ≤ i
    rw [e]; simp
  · rw [List.getElem?_map] at e
    cases q : s[i]? with
    | none => rw [q] at e; cases e
    | some x =>
      rw [q] at e
      have e : Vi.D.str [x] = d := Option.some.inj e
      subst e
      refine ⟨?_, fun v H2 hy => ?_⟩
      · show i < s.toArray.size
        simpa using (List.getElem?_eq_some_iff.mp q).1
      · obtain ⟨e1, z, e2, e3⟩ := hy
        subst e1
        have e2 : s.toArray[i]? = some z := e2
        rw [List.getElem?_toArray, q] at e2
        cases e2
        exact ⟨c1, Ext.refl, e3⟩
theorem sem_itAny {tl : TE} {f : M Hd} (h : Sem cm K n W (HdOk cm K n) tl f) : SemI cm K n W (iAny K tl) (itAny f) := by
  intro ρ c σ H Rw r q
  refine h ρ c σ H _ r ?_
  unfold itAny at q
  rw [M.bind_run] at q
  cases e : f ρ with
  | bad => rw [e] at q; exact q.elim
  | exc k ρ1 => rw [e] at q; exact q
  | ok hd ρ1 =>
    rw [e] at q
    intro c1 H1 x s1 r1 hx
    obtain ⟨d, e1, q⟩ := rd_bind (P := QI cm K n W Rw ρ c H σ) (fun h => h) q
    have dr := (rd_ok r1 hx e1).2
    cases d with
    | lst xs =>
      have q : QI cm K n W Rw ρ c H σ (.ok (xs, lentOf hd ρ1) ρ1) := q
      obtain ⟨a, vs, ev, ha, dl⟩ := dr
      refine .inl ⟨a, ev, ⟨vs, SqL.of ha⟩, q c1 H1 _ s1 r1 ?_⟩
      have gen : ∀ c2, (∀ b o, Gz c1 H1 b = some o → Gz c2 H1 b = some o) → (c2 a = 0 ∨ n < c2 a) → Wlk cm K n (Itl K a) xs c2 H1 := fun c2 g hc => wlk_list ha (DenL.mono g _ _ dl) hc
      cases hd with
      | val d' =>
        have e1 : (R.ok d' ρ1 : R Vi.D) = .ok (.lst xs) ρ1 := e1
        cases e1
        obtain ⟨a', vs', e2, h2, h3⟩ := hx
        rw [ev] at e2; cases e2
        exact gen c1 (fun _ _ h => h) (.inl (Gz.to h2).1)
      | rc j d' => cases (show (R.bad : R Vi.D) = .ok (.lst xs) ρ1 from e1)
      | new d' =>
        obtain ⟨a', e2, h0, h1, h2⟩ := hx
        rw [ev] at e2; cases e2
        exact gen c1 (fun _ _ h => h) (.inr (by omega))
      | slot i =>
        have hx : σ[i]? = some (some x) := hx
        rw [ev] at hx
        have e1 : (at_ ρ1 i).rd ρ1 = .ok (.lst xs) ρ1 := e1
        show WlkL cm K n (Itl K a) σ ((at_ ρ1 i).lentOf i) xs c1 H1
        cases qq : at_ ρ1 i with
        | un => rw [qq] at e1; cases e1
        | fr d' =>
          rw [qq] at e1; cases e1
          obtain ⟨_, _, u, e2, e3⟩ := slot_ok r1 hx qq (fun z => S.noConfusion z)
          cases e2
          obtain ⟨a', vs', e2, h2, h3⟩ := e3
          cases e2
          exact gen c1 (fun _ _ h => h) (.inl (Gz.to h2).1)
        | rc p d' => rw [qq] at e1; cases e1
        | tab ts => rw [qq] at e1; cases e1
        | bor d' =>
          rw [qq] at e1; cases e1
          obtain ⟨_, _, u, e2, e3⟩ := slot_ok r1 hx qq (fun z => S.noConfusion z)
          cases e2
          obtain ⟨a', vs', e2, h2, h3⟩ := e3
          cases e2
          exact gen c1 (fun _ _ h => h) ((Gb.to h2).1.imp id fun z => by omega)
        | own d' =>
          obtain ⟨hi, _, a', e2, e3, e4⟩ := slot_ok r1 hx qq (fun z => S.noConfusion z)
          cases e2
          show WlkL cm K n (Itl K a) σ (some i) xs c1 H1
          intro b hb
          rw [hx] at hb
          cases hb
          have e3 : c1 a = i + 1 := e3
          exact gen _ (gz_recol (by omega)) (.inr (by rw [cset_same]; omega))
    | tup xs =>
      have q : QI cm K n W Rw ρ c H σ (.ok (xs, none) ρ1) := q
      obtain ⟨a, vs, ev, ha, dl⟩ := dr
      exact .inr (.inl ⟨a, ev, ⟨vs, SqT.of (Gz.to ha).2⟩, q c1 H1 _ s1 r1 (wlk_tup ha dl)⟩)
    | str s =>
      have q : QI cm K n W Rw ρ c H σ (.ok (s.map fun c => .str [c], none) ρ1) := q
      exact .inr (.inr ⟨_, dr, q c1 H1 _ s1 r1 wlk_str⟩)
    | _ => exact q.elim
theorem vi_any {X : Cx} {tg l : Expr} {tl : TE} {f : M Hd} (h : VE cm X W l tl f) : VI cm X W tg l (iAny X.K tl) (itAny f) := ⟨pi_any h.pe, sem_itAny h.sem⟩

/-! ### ranges -/
def intsFrom (i k : Int) : Nat → List D
  | 0 => []
  | m + 1 => .int i :: intsFrom (i + k) k m
theorem intsFrom_len {k : Int} : ∀ {m : Nat} {i : Int}, (intsFrom i k m).length = m
  | 0, _ => rfl
  | m + 1, i => by unfold intsFrom; rw [List.length_cons, intsFrom_len]
theorem intsFrom_get {k : Int} : ∀ {m j : Nat} {i : Int} {d : D}, (intsFrom i k m)[j]? = some d → j < m ∧ d = .int (i + j * k)
  | 0, j, i, d, h => by simp [intsFrom] at h
  | m + 1, 0, i, d, h => by
    have h : some (D.int i) = some d := h
    cases h
    exact ⟨Nat.succ_pos _, by simp⟩
  | m + 1, j + 1, i, d, h => by
    have h : (intsFrom (i + k) k m)[j]? = some d := by simpa [intsFrom] using h
    obtain ⟨h1, h2⟩ := intsFrom_get h
    refine ⟨Nat.succ_lt_succ h1, ?_⟩
    rw [h2]
    congr 1
    have : ((j + 1 : Nat) : Int) * k = j * k + k := by rw [Int.natCast_add, Int.add_mul]; simp
    omega
theorem wlk_range {i k : Int} {m : Nat} : Wlk cm K n (Itc i k m) (intsFrom i k m) c H := by
  intro c1 H1 st j
  refine ⟨fun e => ?_, fun d e => ?_⟩
  · rw [intsFrom_len] at e
    show m ≤ j
    omega
  · obtain ⟨h1, h2⟩ := intsFrom_get e
    refine ⟨h1, fun v H2 hy => ?_⟩
    obtain ⟨e1, e2⟩ := hy
    subst e1 e2 h2
    exact ⟨c1, Ext.refl, rfl⟩

theorem wlk_range1 {i : Int} {m : Nat} : Wlk cm K n (Itr i m) (intsFrom i 1 m) c H := by
  intro c1 H1 st j
  refine ⟨fun e => ?_, fun d e => ?_⟩
  · rw [intsFrom_len] at e
    show m ≤ j
    omega
  · obtain ⟨h1, h2⟩ := intsFrom_get e
    refine ⟨h1, fun v H2 hy => ?_⟩
    obtain ⟨e1, e2⟩ := hy
    subst e1 e2 h2
    exact ⟨c1, Ext.refl, by show V.int _ = V.int _; rw [Int.mul_one]⟩
def big62 (i : Int) : Bool := decide (-(2 ^ 62) ≤ i) && decide (i < 2 ^ 62)
def rg3 (i j k : Int) : Option Nat := if k ≠ 0 ∧ k.natAbs < 1073741824 ∧ Builtin.Range.small i j k = true ∧ 0 ≤ Builtin.Range.rangeSize i j k then some (Builtin.Range.rangeSize i j k).toNat else none
def rgD : List D → Option (List D)
  | [.int j] => if big62 j = true then some (intsFrom 0 1 j.toNat) else none
  | [.int i, .int j] => if (big62 i && big62 j) = true then some (intsFrom i 1 (j - i).toNat) else none
  | [.int i, .int j, .int k] => (rg3 i j k).map fun m => intsFrom i k m
  | _ => none
def itRng (f : M (List Hd)) : M (List D × Option Nat) := f >>= fun hs => rds hs >>= fun ds => M.lift ((rgD ds).map fun xs => (xs, none))
theorem rng_q {f : M (List Hd)} {Rw : It → Hp → Prop} {ρ : List S} {σ : St} (Q : List V → Hp → Prop) (hQ : ∀ ds vs xs c1 H1, DsR cm K c1 H1 ds vs → rgD ds = some xs → (∀ J, (∀ c2, Wlk cm K n J xs c2 H1) → Rw J H1) → Q vs H1)
    (q : QI cm K n W Rw ρ c H σ (itRng f ρ)) : QR cm K n W (HsOk cm K n) Q ρ c H σ (f ρ) := by
  unfold itRng at q
  rw [M.bind_run] at q
  cases e : f ρ with
  | bad => rw [e] at q; exact q
  | exc k ρ1 => rw [e] at q; exact q
  | ok hs ρ1 =>
    rw [e] at q
    dsimp only at q
    rw [M.bind_run] at q
    intro c1 H1 vs s1 r1 hx
    rcases rds_ok r1 hx with ⟨ds, e2, hd⟩ | e2
    · rw [e2] at q
      dsimp only at q
      rw [lift_run] at q
      cases e3 : rgD ds with
      | none => rw [e3] at q; exact q.elim
      | some xs =>
        rw [e3] at q
        exact hQ ds vs xs c1 H1 hd e3 fun J w => q c1 H1 J s1 r1 (w c1)
    · rw [e2] at q; exact q.elim
theorem dsr_nil {vs : List V} (h : DsR cm K c H [] vs) : vs = [] := h
theorem dsr_cons {d : D} {ds : List D} {vs : List V} (h : DsR cm K c H (d :: ds) vs) : ∃ v r, vs = v :: r ∧ DenR cm K c H d v ∧ DsR cm K c H ds r := h
theorem rgD_cases {ds : List D} {xs : List D} (h : rgD ds = some xs) : (∃ j, ds = [.int j] ∧ big62 j = true ∧ xs = intsFrom 0 1 j.toNat) ∨ (∃ i j, ds = [.int i, .int j] ∧ (big62 i && big62 j) = true ∧ xs = intsFrom i 1 (j - i).toNat) ∨
    ∃ i j k m, ds = [.int i, .int j, .int k] ∧ rg3 i j k = some m ∧ xs = intsFrom i k m := by
  unfold rgD at h
  split at h
  · rename_i j
    by_cases hb : big62 j = true
    · rw [if_pos hb] at h; cases h; exact .inl ⟨_, rfl, hb, rfl⟩
    · rw [if_neg hb] at h; cases h
  · rename_i i j
    by_cases hb : (big62 i && big62 j) = true
    · rw [if_pos hb] at h; cases h; exact .inr (.inl ⟨_, _, rfl, hb, rfl⟩)
    · rw [if_neg hb] at h; cases h
  · rename_i i j k
    cases e : rg3 i j k with
    | none => rw [e] at h; cases h
    | some m => rw [e] at h; cases h; exact .inr (.inr ⟨_, _, _, m, rfl, e, rfl⟩)
  · cases h
theorem big62_ok {i : Int} (h : big62 i = true) : -(2 ^ 62) ≤ i ∧ i < 2 ^ 62 := by
  unfold big62 at h
  rw [Bool.and_eq_true, decide_eq_true_eq, decide_eq_true_eq] at h
  exact h
theorem dsr_ints {a : Int} {vs : List V} (h : DsR cm K c H [.int a] vs) : vs = [.int a] := by
  obtain ⟨v, r, e, h1, h2⟩ := h
  have h1 : v = .int a := h1
  have h2 : r = [] := h2
  rw [e, h1, h2]
theorem dsr_ints2 {a b : Int} {vs : List V} (h : DsR cm K c H [.int a, .int b] vs) : vs = [.int a, .int b] := by
  obtain ⟨v, r, e, h1, h2⟩ := h
  have h1 : v = .int a := h1
  rw [e, h1, dsr_ints h2]
theorem dsr_ints3 {a b k : Int} {vs : List V} (h : DsR cm K c H [.int a, .int b, .int k] vs) : vs = [.int a, .int b, .int k] := by
  obtain ⟨v, r, e, h1, h2⟩ := h
  have h1 : v = .int a := h1
  rw [e, h1, dsr_ints2 h2]
theorem dsr_len : ∀ {ds : List D} {vs : List V}, DsR cm K c H ds vs → ds.length = vs.length
  | [], vs, h => by cases (show vs = [] from h); rfl
  | d :: ds, vs, ⟨v, r, e, _, h⟩ => by rw [e, List.length_cons, List.length_cons, dsr_len (ds := ds) (vs := r) h]
section
variable {X : Cx} {tg : Expr}
/-- range(a), with the number of arguments checked by the evaluator -/
def itRngN (m : Nat) (f : M (List Hd)) : M (List D × Option Nat) := itRng (f >>= fun hs => if hs.length = m then pure hs else M.bad)
theorem HsOk.len {H₀ : Hp} {σ : St} : ∀ {hs : List Hd} {vs : List V}, HsOk cm K n H₀ c H σ hs vs → hs.length = vs.length
  | [], vs, h => by cases (show vs = [] from h); rfl
  | d :: ds, vs, ⟨v, r, e, _, h⟩ => by rw [e, List.length_cons, List.length_cons, HsOk.len (hs := ds) (vs := r) h]
theorem rng_qn {m : Nat} {f : M (List Hd)} {Rw : It → Hp → Prop} {ρ : List S} {σ : St} (Q : List V → Hp → Prop) (hQ : ∀ ds vs xs c1 H1, vs.length = m → DsR cm K c1 H1 ds vs → rgD ds = some xs → (∀ J, (∀ c2, Wlk cm K n J xs c2 H1) → Rw J H1) → Q vs H1)
    (q : QI cm K n W Rw ρ c H σ (itRngN m f ρ)) : QR cm K n W (HsOk cm K n) Q ρ c H σ (f ρ) := by
  have q2 := rng_q (fun vs H1 => vs.length = m → Q vs H1) (fun ds vs xs c1 H1 h1 h2 h3 hm => hQ ds vs xs c1 H1 hm h1 h2 h3) q
  rw [M.bind_run] at q2
  cases e : f ρ with
  | bad => rw [e] at q2; exact q2
  | exc k ρ1 => rw [e] at q2; exact q2
  | ok hs ρ1 =>
    rw [e] at q2
    have q2 : QR cm K n W (HsOk cm K n) (fun vs H1 => vs.length = m → Q vs H1) ρ c H σ ((if hs.length = m then pure hs else M.bad : M (List Hd)) ρ1) := q2
    by_cases hm : hs.length = m
    · rw [if_pos hm] at q2
      exact fun c1 H1 vs s1 r1 hx => q2 c1 H1 vs s1 r1 hx (by rw [← hx.len]; exact hm)
    · rw [if_neg hm] at q2; exact q2.elim
theorem vi_range1 {a : Expr} {ta : TA} {f : M (List Hd)} {p pos : Pos} (hm : X.mg "range" = none) (ha : VA cm X W [a] ta f) (hg : Gl X "range" := by rfl) (hs : starEach [a] X.env = [(false, eval a X.env)] := by rfl) :
    VI cm X W tg (.Call (.Name "range" p) [a] [] pos) (iRng1 ta) (itRngN 1 f) := ⟨pi_range1 hg hm ha.pe hs, fun ρ c σ H Rw r q => by
  refine ha.sem ρ c σ H _ r (rng_qn _ (fun ds vs xs c1 H1 hl hd e k => ?_) q)
  have l2 := dsr_len (ds := ds) (vs := vs) hd
  rcases rgD_cases e with ⟨j, e1, e2, e3⟩ | ⟨i, j, e1, e2, e3⟩ | ⟨i, j, kk, m, e1, e2, e3⟩
  · subst e1 e3
    exact ⟨j, dsr_ints hd, (big62_ok e2).1, (big62_ok e2).2, k _ fun c2 => wlk_range1⟩
  · subst e1; simp only [List.length_cons, List.length_nil] at l2; omega
  · subst e1; simp only [List.length_cons, List.length_nil] at l2; omega⟩
theorem vi_range2 {a b : Expr} {ta : TA} {f : M (List Hd)} {p pos : Pos} (hm : X.mg "range" = none) (ha : VA cm X W [a, b] ta f) (hg : Gl X "range" := by rfl) (hs : starEach [a, b] X.env = [(false, eval a X.env), (false, eval b X.env)] := by rfl) (hs2 : starEach [b] X.env = [(false, eval b X.env)] := by rfl) :
    VI cm X W tg (.Call (.Name "range" p) [a, b] [] pos) (iRng2 ta) (itRngN 2 f) := ⟨pi_range2 hg hm ha.pe hs hs2, fun ρ c σ H Rw r q => by
  refine ha.sem ρ c σ H _ r (rng_qn _ (fun ds vs xs c1 H1 hl hd e k => ?_) q)
  have l2 := dsr_len (ds := ds) (vs := vs) hd
  rcases rgD_cases e with ⟨j, e1, e2, e3⟩ | ⟨i, j, e1, e2, e3⟩ | ⟨i, j, kk, m, e1, e2, e3⟩
  · subst e1; simp only [List.length_cons, List.length_nil] at l2; omega
  · subst e1 e3
    rw [Bool.and_eq_true] at e2
    exact ⟨i, j, dsr_ints2 hd, ⟨(big62_ok e2.1).1, (big62_ok e2.1).2, (big62_ok e2.2).1, (big62_ok e2.2).2⟩, k _ fun c2 => wlk_range1⟩
  · subst e1; simp only [List.length_cons, List.length_nil] at l2; omega⟩
theorem vi_range3 {a b d : Expr} {ta : TA} {f : M (List Hd)} {p pos : Pos} (hm : X.mg "range" = none) (ha : VA cm X W [a, b, d] ta f) (hg : Gl X "range" := by rfl) (hs : starEach [a, b, d] X.env = (false, eval a X.env) :: starEach [b, d] X.env := by rfl) (hpl : (backTo pos (starEach [b, d] X.env)).any (·.1) = false := by rfl) :
    VI cm X W tg (.Call (.Name "range" p) [a, b, d] [] pos) (iRng3 ta) (itRngN 3 f) := ⟨pi_range3 hg hm ha.pe hs hpl, fun ρ c σ H Rw r q => by
  refine ha.sem ρ c σ H _ r (rng_qn _ (fun ds vs xs c1 H1 hl hd e k => ?_) q)
  have l2 := dsr_len (ds := ds) (vs := vs) hd
  rcases rgD_cases e with ⟨j, e1, e2, e3⟩ | ⟨i, j, e1, e2, e3⟩ | ⟨i, j, kk, m, e1, e2, e3⟩
  · subst e1; simp only [List.length_cons, List.length_nil] at l2; omega
  · subst e1; simp only [List.length_cons, List.length_nil] at l2; omega
  · subst e1 e3
    unfold rg3 at e2
    by_cases hc : kk ≠ 0 ∧ kk.natAbs < 1073741824 ∧ Builtin.Range.small i j kk = true ∧ 0 ≤ Builtin.Range.rangeSize i j kk
    · rw [if_pos hc] at e2
      cases e2
      exact ⟨i, j, kk, _, dsr_ints3 hd, ⟨hc.1, hc.2.1, hc.2.2.1, by have := hc.2.2.2; omega⟩, k _ fun c2 => wlk_range⟩
    · rw [if_neg hc] at e2; cases e2⟩

/-! ### for, comprehensions as rules -/
theorem vs_for {iter tg : Expr} {body : List Stmt} {wi : TI} {g : TG} {tb : TS} {is : List Nat} {fi : M (List D × Option Nat)} {ft : D → M Unit} {fb : M Fl} {pos : Pos} (hp : PassesOwn (model X.prog X.w) X.A X.env X.xe) (hc : X.calm = true)
    (hi : VI cm X W tg iter wi fi) (hg : VG cm X is tg g ft) (hb : VSs cm X W body tb fb) (hs : ∀ x, foldedSetIterable iter X.env x = pure x := by intro _; rfl) : VS cm X W (.For tg iter body [] pos) (tFor wi g tb) (sFor fi ft fb) :=
  ⟨ps_for hp hc hi.pe hg.pe hb.pe hs, sem_for hi.sem hg.sem hb.sem⟩
/-- a clause's tests -/
structure VTs (cm : Nat → Addr) (X : Cx) (W : WX) (es : List Expr) (te : TT) (f : M Bool) : Prop where
  pe : PTs X es te
  sem : Sem cm X.K X.N.length W BlOk te f
theorem vts_nil : VTs cm X W [] tYes tYesM := ⟨pts_nil, sem_bl⟩
theorem vts_one {e : Expr} {t : TT} {f : M Bool} (h : VT cm X W e t f) : VTs cm X W [e] t f := ⟨pts_one h.pe, h.sem⟩
theorem ve_lc {elt iter : Expr} {tg : Expr} {ifs : List Expr} {scope : Scope} (own : List (Str × Nat)) {pos : Pos} {wi : TI} {g : TG} {tt : TT} {te : TE} {is : List Nat} {fi : M (List D × Option Nat)} {ft : D → M Unit} {fc : M Bool} {fe : M Hd} (hc : X.calm = true) (hN : X.N.Nodup)
    (hi : VI cm X W tg iter wi fi)
    (hg : ∀ (s : Shared) (H : Hp) (C : Addr) (cl : List (Str × Addr)) (fp : List Addr), VG cm (X.blk s H scope (compEnvC scope cl C X.env) fp) is tg g ft)
    (ht : ∀ (s : Shared) (H : Hp) (C : Addr) (cl : List (Str × Addr)) (fp : List Addr), VTs cm (X.blk s H scope (compEnvC scope cl C X.env) fp) W0 ifs tt fc)
    (he : ∀ (s : Shared) (H : Hp) (C : Addr) (cl : List (Str × Addr)) (fp : List Addr), VE cm (X.blk s H scope (compEnvC scope cl C X.env) fp) W0 elt te fe)
    (ok : blkC X.N X.env.scope scope own = true := by decide +kernel) (hsub : (is.all fun j => (own.map (·.2)).contains j) = true := by rfl) (hs : ∀ x, foldedSetIterable iter X.env x = pure x := by intro _; rfl) :
    VE cm X W (.ListComp elt [⟨tg, iter, ifs, 0⟩] scope pos) (tLc wi g tt te (own.map (·.2))) (eLc fi ft fc fe (own.map (·.2))) :=
  ⟨pe_lc hc hN hi.pe (blkOk_by ok) (fun s H C cl fp => (hg s H C cl fp).pe) (fun s H C cl fp => (ht s H C cl fp).pe) (fun s H C cl fp => (he s H C cl fp).pe) hs,
   sem_lc hi.sem (hg X.s_0 X.H_0 0 [] []).sem (fun j hj => by have := List.all_eq_true.mp hsub j hj; simpa using this) (ht X.s_0 X.H_0 0 [] []).sem (he X.s_0 X.H_0 0 [] []).sem⟩
theorem vs_setLc (i : Nat) {y : Str} {py : Pos} {elt iter : Expr} {tg : Expr} {ifs : List Expr} {scope : Scope} (own : List (Str × Nat)) {pos spos : Pos} {wi : TI} {g : TG} {tt : TT} {te : TE} {is : List Nat} {fi : M (List D × Option Nat)} {ft : D → M Unit} {fc : M Bool} {fe : M Hd} (hc : X.calm = true) (hN : X.N.Nodup)
    (hi : VI cm X W tg iter wi fi)
    (hg : ∀ (s : Shared) (H : Hp) (C : Addr) (cl : List (Str × Addr)) (fp : List Addr), VG cm (X.blk s H scope (compEnvC scope cl C X.env) fp) is tg g ft)
    (ht : ∀ (s : Shared) (H : Hp) (C : Addr) (cl : List (Str × Addr)) (fp : List Addr), VTs cm (X.blk s H scope (compEnvC scope cl C X.env) fp) W0 ifs tt fc)
    (he : ∀ (s : Shared) (H : Hp) (C : Addr) (cl : List (Str × Addr)) (fp : List Addr), VE cm (X.blk s H scope (compEnvC scope cl C X.env) fp) W0 elt te fe)
    (hy : X.N[i]? = some y := by rfl) (hyl : X.env.scope.names.lookup y = some .local := by rfl) (hsw : swapsWith (.ListComp elt [⟨tg, iter, ifs, 0⟩] scope pos) (some (.Name y py)) spos.line X.env = pure true := by exact sw_true rfl rfl rfl (by decide +kernel))
    (ok : blkC X.N X.env.scope scope own = true := by decide +kernel) (hsub : (is.all fun j => (own.map (·.2)).contains j) = true := by rfl) (hs : ∀ x, foldedSetIterable iter X.env x = pure x := by intro _; rfl) :
    VS cm X W (.Assign [.Name y py] (.ListComp elt [⟨tg, iter, ifs, 0⟩] scope pos) spos) (tAsg (tLc wi g tt te (own.map (·.2))) (gName i)) (sSet i (eLc fi ft fc fe (own.map (·.2)))) :=
  ⟨ps_setLc hc hN hy hyl hsw hi.pe (blkOk_by ok) (fun s H C cl fp => (hg s H C cl fp).pe) (fun s H C cl fp => (ht s H C cl fp).pe) (fun s H C cl fp => (he s H C cl fp).pe) hs,
   sem_set (List.getElem?_eq_some_iff.mp hy).1 (sem_lc hi.sem (hg X.s_0 X.H_0 0 [] []).sem (fun j hj => by have := List.all_eq_true.mp hsub j hj; simpa using this) (ht X.s_0 X.H_0 0 [] []).sem (he X.s_0 X.H_0 0 [] []).sem)⟩
end
end
end Vi

/-! ## ViFn -/
set_option Elab.async false
set_option linter.all false
set_option maxRecDepth 100000
set_option maxHeartbeats 2000000
namespace Vi
open PySem L2

/-! ### while -/
def sWhile (c : M Bool) (b : M Fl) : Nat → M Fl
  | 0 => M.bad
  | m + 1 => c >>= fun x => if x = true then b >>= fun y => match y with
      | .nx => sWhile c b m
      | .ct => sWhile c b m
      | .bk => pure .nx
      | .rt s => pure (.rt s)
      | .rr s => pure (.rr s)
    else pure .nx
section
variable {cm : Nat → Addr} {K : PySem.W.Frag} {n : Nat} {W : WX} {c c' : Col} {H H' : Hp}
theorem sem_while (fuel : Nat) {tc : TT} {tb : TS} {fc : M Bool} {fb : M Fl} (hc : Sem cm K n W BlOk tc fc) (hb : SemS cm K n W tb fb) : SemS cm K n W (tWhile tc tb) (sWhile fc fb fuel) := by
  intro ρ c σ H Dn r q
  refine ⟨fun m σ' H' => ∃ ρ' c', Stp n c c' H H' ∧ Kp ρ ρ' σ σ' ∧ Rep cm K n c' H' ρ' σ' ∧ QS cm K n W Dn ρ σ c H (sWhile fc fb m ρ'), ⟨fuel, ρ, c, Stp.refl, Kp.refl, r, q⟩, ?_⟩
  rintro m σ1 H1 ⟨ρ1, c1, s1, k1, r1, q1⟩
  cases m with
  | zero => exact q1.elim
  | succ m =>
    have q1 : QS cm K n W Dn ρ σ c H ((fc >>= fun x => if x = true then fb >>= fun y => match y with
      | .nx => sWhile fc fb m
      | .ct => sWhile fc fb m
      | .bk => pure .nx
      | .rt s => pure (.rt s)
      | .rr s => pure (.rr s)
      else pure .nx) ρ1) := q1
    refine hc ρ1 c1 σ1 H1 _ r1 ?_
    rw [M.bind_run] at q1
    cases e : fc ρ1 with
    | bad => rw [e] at q1; exact q1.elim
    | exc k ρ2 => rw [e] at q1; exact fun c' H' s r' => q1 c' σ1 H' (s1.trans s.st) (k1.trans s.kp) r'
    | ok b ρ2 =>
      rw [e] at q1
      intro c2 H2 b' s2 r2 hbb
      have hbb : b = b' := hbb
      subst hbb
      cases b with
      | false =>
        rw [if_neg Bool.false_ne_true]
        exact (show QN cm K _ Dn.nx ρ σ c H ρ2 from q1) c2 σ1 H2 (s1.trans s2.st) (k1.trans s2.kp) r2
      | true =>
        rw [if_pos rfl]
        have q2 : QS cm K n W Dn ρ σ c H ((fb >>= fun y => match y with
          | .nx => sWhile fc fb m
          | .ct => sWhile fc fb m
          | .bk => pure .nx
          | .rt s => pure (.rt s)
          | .rr s => pure (.rr s)) ρ2) := q1
        refine ⟨fun σ' H' => ∃ ρ' c', Stp n c c' H H' ∧ Kp ρ ρ' σ σ' ∧ Rep cm K n c' H' ρ' σ' ∧ QS cm K n W Dn ρ σ c H (sWhile fc fb m ρ'), fun σ' H' ⟨ρ', c', a1, a2, a3, a4⟩ => ⟨m, Nat.lt_succ_self m, ρ', c', a1, a2, a3, a4⟩, ?_⟩
        have s02 := s1.trans s2.st
        have k02 := k1.trans (s2.kp (σ := σ1))
        refine hb ρ2 c2 σ1 H2 _ r2 ?_
        rw [M.bind_run] at q2
        cases eb : fb ρ2 with
        | bad => rw [eb] at q2; exact q2.elim
        | exc k ρ3 => rw [eb] at q2; exact fun c' σ' H' s k' r' => q2 c' σ' H' (s02.trans s) (k02.trans k') r'
        | ok y ρ3 =>
          rw [eb] at q2
          cases y with
          | nx => exact fun c3 σ3 H3 s3 k3 r3 => ⟨ρ3, c3, s02.trans s3, k02.trans k3, r3, q2⟩
          | ct => exact fun c3 σ3 H3 s3 k3 r3 => ⟨ρ3, c3, s02.trans s3, k02.trans k3, r3, q2⟩
          | bk => exact fun c3 σ3 H3 s3 k3 r3 => (show QN cm K _ Dn.nx ρ σ c H ρ3 from q2) c3 σ3 H3 (s02.trans s3) (k02.trans k3) r3
          | rt z => exact fun c3 H3 v s3 rt3 => q2 c3 H3 v (s02.trans s3) (rt3.base s02)
          | rr z => exact fun c3 σ3 H3 v s3 k3 r3 rt3 => q2 c3 σ3 H3 v (s02.trans s3) (k02.trans k3) r3 (rt3.base s02)
theorem vs_while (fuel : Nat) {X : Cx} {e : Expr} {body : List Stmt} {tc : TT} {tb : TS} {fc : M Bool} {fb : M Fl} {pos : Pos} (hp : PassesOwn (model X.prog X.w) X.A X.env X.xe) (hc : VT cm X W e tc fc) (hb : VSs cm X W body tb fb) :
    VS cm X W (.While e body [] pos) (tWhile tc tb) (sWhile fc fb fuel) := ⟨ps_while hp hc.pe hb.pe, sem_while fuel hc.sem hb.sem⟩

end

/-! ### defs -/
inductive Out where
  | ret (s : S) | exc (k : Nat) | bad
def paramS : D → S
  | .lst xs => .bor (.lst xs)
  | .dic ks xs => .bor (.dic ks xs)
  | d => .fr d
def startS (n : Nat) (ds : List D) : List S := ds.map paramS ++ List.replicate (n - ds.length) .un
def endF : R Fl → Out
  | .ok .nx _ => .ret (.fr .non)
  | .ok (.rt s) _ => .ret s
  | .exc k _ => .exc k
  | _ => .bad
/-- what a def gives -/
def runF (n : Nat) (F : M Fl) (ds : List D) : Out := endF (F (startS n ds))
section
variable (cm : Nat → Addr) (K : PySem.W.Frag)
def RetOk (H : Hp) (c' : Col) (H' : Hp) (s : S) (v : V) : Prop := match s with
  | .fr d => Den cm K (Gz c' H') d v
  | .own d => ∃ a, v = .ref a ∧ H a = none ∧ c' a ≠ 0 ∧ Cont cm K c' H' a d
  | _ => False
/-- a def's promise, by its evaluator -/
def spV (m : Nat) (φ : List D → Out) : Sp := fun vs H Q E => ∃ c ds, ds.length = m ∧ DsR cm K c H ds vs ∧ (match φ ds with
  | .ret s => ∀ c' H' v, Ext c c' H H' → RetOk cm K H c' H' s v → Q v H'
  | .exc k => ∀ c' H', Ext c c' H H' → E (.ref (cm k)) none H'
  | .bad => False)
end
section
variable {cm : Nat → Addr} {K : PySem.W.Frag} {n : Nat} {c : Col} {H : Hp}
theorem dsr_get : ∀ {ds : List D} {vs : List V} {i : Nat} {d : D}, DsR cm K c H ds vs → ds[i]? = some d → ∃ v, vs[i]? = some v ∧ DenR cm K c H d v
  | [], vs, i, d, h, e => by simp at e
  | d' :: ds, vs, 0, d, ⟨v, r, h1, h2, h3⟩, e => by
    subst h1
    have q : d' = d := by simpa using e
    subst q
    exact ⟨v, rfl, h2⟩
  | d' :: ds, vs, i + 1, d, ⟨v, r, h1, h2, h3⟩, e => by
    subst h1
    obtain ⟨u, q1, q2⟩ := dsr_get (ds := ds) (vs := r) (i := i) (d := d) h3 (by simpa using e)
    exact ⟨u, by simpa using q1, q2⟩
/-- the colours at a def's entry -/
def col0 (n : Nat) (c : Col) : Col := fun a => if c a = 0 then 0 else n + 9
theorem gz_col0 : Gz (col0 n c) H = Gz c H := by
  funext a
  unfold Gz col0
  by_cases h : c a = 0
  · rw [if_pos h, if_pos h]; rfl
  · rw [if_neg h, if_neg h]; rfl
theorem gb_col0 : Gb n (col0 n c) H = H := by
  funext a
  unfold Gb col0
  by_cases h : c a = 0
  · rw [if_pos h]; rfl
  · rw [if_neg h]; exact if_pos (.inr (by omega))
theorem rep_start {N : List Str} {ds : List D} {vs : List V} (hl : ds.length ≤ N.length) (h : DsR cm K c H ds vs) : Rep cm K N.length (col0 N.length c) H (startS N.length ds) (L2.start N vs) := by
  have l2 := dsr_len (ds := ds) (vs := vs) h
  refine ⟨by unfold startS; rw [List.length_append, List.length_map, List.length_replicate]; omega, by unfold L2.start; rw [List.length_append, List.length_map, List.length_replicate]; omega, fun i s e => ?_⟩
  unfold startS at e
  unfold L2.start
  by_cases hi : i < ds.length
  · rw [List.getElem?_append_left (by rw [List.length_map]; exact hi), List.getElem?_map] at e
    rw [List.getElem?_append_left (by rw [List.length_map]; omega), List.getElem?_map]
    obtain ⟨d, hd⟩ : ∃ d, ds[i]? = some d := ⟨ds[i], List.getElem?_eq_getElem hi⟩
    rw [hd] at e
    obtain ⟨v, hv, dv⟩ := dsr_get (ds := ds) (vs := vs) h hd
    refine ⟨some v, by rw [hv]; rfl, ?_⟩
    have e : paramS d = s := Option.some.inj e
    subst e
    have gen : ∀ d, DenR cm K c H d v → (∀ xs, d ≠ .lst xs) → (∀ ks xs, d ≠ .dic ks xs) → RepS cm K N.length (col0 N.length c) H i (some v) (.fr d) := fun d h h1 h2 => ⟨v, rfl, by
      rw [gz_col0]
      cases d with
      | lst xs => exact absurd rfl (h1 xs)
      | dic ks xs => exact absurd rfl (h2 ks xs)
      | _ => exact h⟩
    cases d with
    | lst xs => exact ⟨v, rfl, by unfold DenB; rw [gb_col0, gz_col0]; exact dv⟩
    | dic ks xs => exact ⟨v, rfl, by unfold DenB; rw [gb_col0, gz_col0]; exact dv⟩
    | _ => exact gen _ dv (fun _ z => D.noConfusion z) (fun _ _ z => D.noConfusion z)
  · rw [List.getElem?_append_right (by rw [List.length_map]; omega), List.getElem?_replicate] at e
    by_cases hj : i - (ds.map paramS).length < N.length - ds.length
    · rw [if_pos hj] at e
      cases e
      rw [List.length_map] at hj
      refine ⟨none, ?_, trivial⟩
      rw [List.getElem?_append_right (by rw [List.length_map]; omega), List.getElem?_replicate, List.length_map, if_pos (by omega)]
    · rw [if_neg hj] at e; cases e
/-- back in the caller's colours -/
def colB (H : Hp) (c c' : Col) : Col := fun a => match H a with | some _ => c a | none => c' a
theorem colB_old {c' : Col} {a : Addr} {o : HO} (h : H a = some o) : colB H c c' a = c a := by unfold colB; rw [h]
theorem colB_new {c' : Col} {a : Addr} (h : H a = none) : colB H c c' a = c' a := by unfold colB; rw [h]
theorem back_ext {c' : Col} {H' : Hp} (s : Stp n (col0 n c) c' H H') : Ext c (colB H c c') H H' := fun a o h => ⟨colB_old h, by
  by_cases q : c a = 0
  · exact ((s a o h).2.1 (by unfold col0; rw [if_pos q])).2
  · exact ((s a o h).2.2 (by unfold col0; rw [if_neg q]; omega)).2⟩
theorem back_gz {c' : Col} {H' : Hp} (s : Stp n (col0 n c) c' H H') : ∀ a o, Gz c' H' a = some o → Gz (colB H c c') H' a = some o := fun a o h => by
  obtain ⟨h1, h2⟩ := Gz.to h
  refine Gz.of ?_ h2
  cases q : H a with
  | none => rw [colB_new q]; exact h1
  | some u =>
    rw [colB_old q]
    by_cases z : c a = 0
    · exact z
    · have := ((s a u q).2.2 (by unfold col0; rw [if_neg z]; omega)).1
      rw [h1] at this
      unfold col0 at this
      rw [if_neg z] at this
      omega
theorem back_ret {c' : Col} {H' : Hp} {s : S} {v : V} (st : Stp n (col0 n c) c' H H') (h : RtOk cm K n H c' H' s v) : RetOk cm K H (colB H c c') H' s v := by
  cases s with
  | un => exact h
  | bor d => exact h
  | rc p d => exact h
  | tab ts => exact h
  | fr d => exact Den.mono (back_gz st) _ _ h
  | own d =>
    obtain ⟨a, e, h1, h2, h3⟩ := h
    have hn : H a = none := by
      rcases h3 with q | q
      · exact q
      · cases z : H a with
        | none => rfl
        | some u =>
          by_cases y : c a = 0
          · exact absurd ((st a u z).2.1 (by unfold col0; rw [if_pos y])).1 h1
          · have := ((st a u z).2.2 (by unfold col0; rw [if_neg y]; omega)).1
            unfold col0 at this
            rw [if_neg y] at this
            omega
    exact ⟨a, e, hn, by rw [colB_new hn]; exact h1, h2.keep (back_gz st) fun o q => q⟩
end

section
variable {P : Program} {w : World} {K : PySem.W.Frag} {mg : Str → Option Value} {base : Heap} {cm : Nat → Addr}
/-- a def's exceptions are its caller's -/
abbrev WD (E : XK) : WX := fun cls d _ H => E cls d H
theorem fn_ok {x qual : Str} {st : Stmt} {f : Addr} {fd : FuncData} {N ps : List Str} {k : Nat} (F' : M Fl) (F : Fun K x qual st f fd) (sc : FnScope N ps (defScope st)) (hps : ps.length ≤ N.length)
    (hbody : ∀ (cdv : Value) (A : Around) (outer : List Env) (s : Shared) (H : Hp) (E : XK), Room k (A.deeper (PyProof.Rows.envOfC qual (defScope st) s.heap.objs.size f cdv)) →
      ∃ t, VSs cm (cxOf (L2.CX P w) P w K mg base N qual (defScope st) f cdv A outer s H E) (WD E) (defBody st) t F') : FnOk P w K mg base (L2.CX P w) (k + 1) f fd ps (spV cm K ps.length (runF N.length F')) := by
  refine F.okX sc (fun vs H Q E h => ?_) (fun cdv A outer s H vs Q E hr h => ?_)
  · obtain ⟨c, ds, hl, hd, _⟩ := h
    rw [← dsr_len (ds := ds) (vs := vs) hd]
    exact hl
  · obtain ⟨c, ds, hl, hd, q⟩ := h
    obtain ⟨t, ht⟩ := hbody cdv A outer s H E hr
    have hlN : ds.length ≤ N.length := by omega
    refine ⟨t, ht.pe, ht.sem _ _ _ _ _ (rep_start hlN hd) ?_⟩
    show QS cm K N.length (WD E) _ (startS N.length ds) (L2.start N vs) (col0 N.length c) H (F' (startS N.length ds))
    unfold runF at q
    cases e : F' (startS N.length ds) with
    | bad => rw [e] at q; exact q.elim
    | exc k ρ' => rw [e] at q; exact fun c' σ' H' s _ _ => q _ H' (back_ext s)
    | ok y ρ' =>
      rw [e] at q
      cases y with
      | bk => exact q.elim
      | rr z => exact q.elim
      | ct => exact q.elim
      | nx => exact fun c' σ' H' s _ _ => q _ H' .non (back_ext s) rfl
      | rt z => exact fun c' H' v s r => q _ H' v (back_ext s) (back_ret s r)
/-- a def as it is called -/
structure Fn (P : Program) (w : World) (K : PySem.W.Frag) (mg : Str → Option Value) (base : Heap) (cm : Nat → Addr) (j : Nat) (x : Str) (m : Nat) (φ : List D → Out) : Prop where
  ex : ∃ f fd ps, ps.length = m ∧ FnOk P w K mg base (L2.CX P w) j f fd ps (spV cm K m φ) ∧ mg x = some (.ref f) ∧ PySem.W.keepIn K (.ref f) = true ∧ Binds K fd ps []
end

/-! ### calls of defs -/
def outHd : Out → List S → R Hd
  | .ret (.fr d), ρ => .ok (.val d) ρ
  | .ret (.own d), ρ => .ok (.new d) ρ
  | .exc k, ρ => .exc k ρ
  | _, _ => .bad
def callM (m : Nat) (φ : List D → Out) (ds : List D) : M Hd := fun ρ => if ds.length = m then outHd (φ ds) ρ else .bad
def eCall (m : Nat) (φ : List D → Out) (f : M (List Hd)) : M Hd := f >>= fun hs => rds hs >>= fun ds => callM m φ ds
section
variable {cm : Nat → Addr} {X : Cx} {W : WX} {K : PySem.W.Frag} {n : Nat}
theorem sem_call {m : Nat} {φ : List D → Out} {t : TA} {f : M (List Hd)} (h : Sem cm K n W (HsOk cm K n) t f) : Sem cm K n W (HdOk cm K n) (tCallS (spV cm K m φ) (WE W) t) (eCall m φ f) := by
  refine Sem.bind (u := fun vs σ H1 Q => spV cm K m φ vs H1 Q (WE W σ)) h ?_
  intro ρ₀ c₀ H₀ a x ρ c σ H Q s0 r0 hx q
  dsimp only at q
  rw [M.bind_run] at q
  rcases rds_ok r0 hx with ⟨ds, e, hd⟩ | e
  case inr => rw [e] at q; exact q.elim
  rw [e] at q
  dsimp only [callM] at q
  by_cases hl : ds.length = m
  case neg => rw [if_neg hl] at q; exact q.elim
  rw [if_pos hl] at q
  refine ⟨c, ds, hl, hd, ?_⟩
  cases eo : φ ds with
  | bad => rw [eo] at q; exact q.elim
  | exc k => rw [eo] at q; exact fun c' H' ex => q c' H' (s0.app ex.stp) (r0.ext ex)
  | ret s =>
    rw [eo] at q
    cases s with
    | un => exact q.elim
    | bor d => exact q.elim
    | rc p d => exact q.elim
    | tab ts => exact q.elim
    | fr d => exact fun c' H' v ex hv => q c' H' v (s0.app ex.stp) (r0.ext ex) hv
    | own d =>
      intro c' H' v ex hv
      obtain ⟨p, ev, hp, hc, ct⟩ := hv
      have ex2 : Ext c (cset c' p (n + 1)) H H' := fun b o h => by
        have ne : b ≠ p := ne_of_none h hp
        exact ⟨by rw [cset_ne ne]; exact (ex b o h).1, (ex b o h).2⟩
      exact q _ H' v (s0.app ex2.stp) (r0.ext ex2) ⟨p, ev, s0.st.free hp, cset_same, ct.keep (gz_recol hc) fun o q => q⟩
theorem ve_call {j m : Nat} {x : Str} {φ : List D → Out} {e : Expr} {es : List Expr} {t : TA} {f : M (List Hd)} {p pos : Pos} (F : Fn X.prog X.w X.K X.mg X.base cm j x m φ) (hr : Room j X.A) (hx : ∀ σ, PassesAt (L2.CX X.prog X.w) X σ (WE W σ)) (ha : VA cm X W (e :: es) t f)
    (hg : Gl X x := by rfl) (hdb : (x == ("__debug__" : Str)) = false := by decide) (he : starEach (e :: es) X.env = (false, eval e X.env) :: starEach es X.env := by rfl) (hpl : (backTo pos (starEach es X.env)).any (·.1) = false := by rfl) :
    VE cm X W (.Call (.Name x p) (e :: es) [] pos) (tCallS (spV cm X.K m φ) (WE W) t) (eCall m φ f) := by
  obtain ⟨fa, fd, ps, hl, Fk, hm, hk, hb⟩ := F.ex
  exact ⟨pe_callS Fk hr hg hm hk hb hx ha.pe hdb he hpl, sem_call ha.sem⟩
theorem ve_call0 {E : XK} {j : Nat} {x : Str} {φ : List D → Out} {p pos : Pos} (F : Fn X.prog X.w X.K X.mg X.base cm j x 0 φ) (hr : Room j X.A) (hx : Passes (L2.CX X.prog X.w) X E)
    (hg : Gl X x := by rfl) (hdb : (x == ("__debug__" : Str)) = false := by decide) : VE cm X (WD E) (.Call (.Name x p) [] [] pos) (tCall (spV cm X.K 0 φ) [] E tNil) (eCall 0 φ eNil) := by
  obtain ⟨fa, fd, ps, hl, Fk, hm, hk, hb⟩ := F.ex
  refine ⟨pe_call0 Fk hr hg hm hk hb .nil hx hdb, ?_⟩
  exact sem_call (W := WD E) (m := 0) va_nil.sem

/-! ### raise -/
def sRaise (k : Nat) : M Fl := fun ρ => .exc k ρ
theorem vs_raise (k : Nat) {x m : Str} {jj : Nat} {p p2 pos pos2 : Pos} {bmB : List Value} {B newId initId : String} (hc : X.calm = true) (tk : Takes X W) (Fb : ExcBaseFacts B newId initId bmB) (q : PySem.W.excIn X.K (cm k) bmB newId = true) (gC : X.mg x = some (.ref (cm k)))
    (kC : PySem.W.keepIn X.K (.ref (cm k)) = true) (r : Raises X (.ref (cm k))) (hg : Gl X x := by rfl) (hdb : (x == ("__debug__" : Str)) = false := by decide) :
    VS cm X W (.Raise (some (.Call (.Name x p) [.Constant (.str m) jj p2] [] pos)) none pos2) (fun _ σ H => W (.ref (cm k)) none σ H) (sRaise k) :=
  ⟨ps_raise hc tk (pmk_own Fb q gC kC r hg hdb), fun ρ c σ H Dn r q => q c σ H Stp.refl Kp.refl r⟩
end
end Vi

/-! ## ViOps -/
set_option Elab.async false
set_option linter.all false
set_option maxRecDepth 100000
set_option maxHeartbeats 2000000
namespace Vi
open PySem L2

section
variable {cm : Nat → Addr} {X : Cx} {W : WX} {K : PySem.W.Frag} {n : Nat} {c : Col} {H : Hp}
theorem den_int {i : Int} {x : V} (h : DenR cm K c H (.int i) x) : x = .int i := h
theorem den_bl {i : Bool} {x : V} (h : DenR cm K c H (.bl i) x) : x = .bl i := h
theorem den_str {i : List Nat} {x : V} (h : DenR cm K c H (.str i) x) : x = .str ⟨i.toArray⟩ := h
theorem den_non {x : V} (h : DenR cm K c H .non x) : x = .non := h
theorem hv_int {i : Int} : HdV cm K n H c H (.val (.int i)) (.int i) := rfl
theorem hv_bl {i : Bool} : HdV cm K n H c H (.val (.bl i)) (.bl i) := rfl
theorem hv_str {i : List Nat} : HdV cm K n H c H (.val (.str i)) (.str ⟨i.toArray⟩) := rfl
theorem str_len (s : List Nat) : (⟨s.toArray⟩ : Str).length = s.length := by show s.toArray.size = s.length; simp
theorem str_app (s t : List Nat) : ((⟨s.toArray⟩ : Str) ++ ⟨t.toArray⟩) = ⟨(s ++ t).toArray⟩ := by
  show (⟨s.toArray ++ t.toArray⟩ : Str) = _
  rw [List.append_toArray]
theorem sline_str {k : Nat} (h : k ≤ SLine) : k ≤ sizeLine := Nat.le_trans h sline

/-! ### arithmetic -/
def gI (f : Int → Int → Option Hd) : D → D → Option Hd | .int i, .int j => f i j | _, _ => none
def okI (i : Int) : Option Hd := some (.val (.int i))
def okB (b : Bool) : Option Hd := some (.val (.bl b))
theorem gI_cases {f : Int → Int → Option Hd} {d e : D} {h : Hd} (hg : gI f d e = some h) : ∃ i j, d = .int i ∧ e = .int j ∧ f i j = some h := by
  unfold gI at hg
  split at hg
  · exact ⟨_, _, rfl, rfl, hg⟩
  · cases hg
/-- rules on two ints -/
theorem opsI {C : Int → Int → Prop} {g : Int → Int → V} {f : Int → Int → Option Hd} (h : ∀ i j h, f i j = some h → C i j ∧ ∃ d, h = .val d ∧ ∀ G, Den cm K G d (g i j)) : OpS cm K n (rI C g) (gI f) := by
  intro c H d e x y hh Q hd he hg k
  obtain ⟨i, j, e1, e2, e3⟩ := gI_cases hg
  subst e1 e2
  obtain ⟨h1, d, e4, h2⟩ := h i j hh e3
  subst e4
  exact ⟨i, j, den_int hd, den_int he, h1, k c H _ Ext.refl (h2 _)⟩
theorem opsI0 {g : Int → Int → V} {f : Int → Int → Option Hd} (h : ∀ i j h, f i j = some h → ∃ d, h = .val d ∧ ∀ G, Den cm K G d (g i j)) : OpS cm K n (rI0 g) (gI f) := by
  intro c H d e x y hh Q hd he hg k
  obtain ⟨i, j, e1, e2, e3⟩ := gI_cases hg
  subst e1 e2
  obtain ⟨d, e4, h2⟩ := h i j hh e3
  subst e4
  exact ⟨i, j, den_int hd, den_int he, k c H _ Ext.refl (h2 _)⟩
theorem okI_ {i j : Int} {h : Hd} (e : okI i = some h) (q : j = i) : ∃ d, h = .val d ∧ ∀ G, Den cm K G d (.int j) := by cases e; subst q; exact ⟨_, rfl, fun _ => rfl⟩
theorem okB_ {i j : Bool} {h : Hd} (e : okB i = some h) (q : j = i) : ∃ d, h = .val d ∧ ∀ G, Den cm K G d (.bl j) := by cases e; subst q; exact ⟨_, rfl, fun _ => rfl⟩
def aAdd : D → D → Option Hd := gI fun i j => okI (i + j)
def aSub : D → D → Option Hd := gI fun i j => okI (i - j)
def aMul : D → D → Option Hd := gI fun i j => if Builtin.Int.intBits i + Builtin.Int.intBits j ≤ 134217728 then okI (i * j) else none
def aFdiv : D → D → Option Hd := gI fun i j => if 0 < j ∧ j < 1073741824 then okI (i / j) else none
def aMod : D → D → Option Hd := gI fun i j => if 0 < j then okI (i % j) else none
def aPow : D → D → Option Hd := gI fun i j => if 0 ≤ j ∧ j ≤ 1000000 ∧ i.natAbs < 2 ^ 64 then okI (i ^ j.toNat) else none
def aShr : D → D → Option Hd := gI fun i j => if 0 ≤ j then okI (i / 2 ^ j.toNat) else none
theorem s_sub : OpS cm K n (rI0 fun i j => .int (i - j)) aSub := opsI0 fun i j h e => okI_ e rfl
theorem s_add : OpS cm K n (rI0 fun i j => .int (i + j)) aAdd := opsI0 fun i j h e => okI_ e rfl
theorem s_mulI : OpS cm K n (rI CMulX fun i j => .int (i * j)) aMul := opsI fun i j h e => by
  by_cases q : Builtin.Int.intBits i + Builtin.Int.intBits j ≤ 134217728
  · rw [if_pos q] at e; exact ⟨by unfold CMulX; omega, okI_ e rfl⟩
  · rw [if_neg q] at e; cases e
theorem s_fdiv : OpS cm K n (rI CDiv fun i j => .int (i / j)) aFdiv := opsI fun i j h e => by
  by_cases q : 0 < j ∧ j < 1073741824
  · rw [if_pos q] at e; exact ⟨q, okI_ e rfl⟩
  · rw [if_neg q] at e; cases e
theorem s_mod : OpS cm K n (rI (fun _ j => 0 < j) fun i j => .int (i % j)) aMod := opsI fun i j h e => by
  by_cases q : 0 < j
  · rw [if_pos q] at e; exact ⟨q, okI_ e rfl⟩
  · rw [if_neg q] at e; cases e
theorem s_pow : OpS cm K n (rI CPow fun i j => .int (i ^ j.toNat)) aPow := opsI fun i j h e => by
  by_cases q : 0 ≤ j ∧ j ≤ 1000000 ∧ i.natAbs < 2 ^ 64
  · rw [if_pos q] at e; exact ⟨q, okI_ e rfl⟩
  · rw [if_neg q] at e; cases e
theorem s_shr : OpS cm K n (rI (fun _ j => 0 ≤ j) fun i j => .int (i / 2 ^ j.toNat)) aShr := opsI fun i j h e => by
  by_cases q : 0 ≤ j
  · rw [if_pos q] at e; exact ⟨q, okI_ e rfl⟩
  · rw [if_neg q] at e; cases e
/-- texts, lists together -/
def aCatS : D → D → Option Hd | .str s, .str t => if s.length + t.length ≤ SLine then some (.val (.str (s ++ t))) else none | _, _ => none
def rAddS : R2 := fun x y H Q => ∃ i j, x = .str i ∧ y = .str j ∧ i.length + j.length ≤ sizeLine ∧ Q (.str (i ++ j)) H
theorem s_addS : OpS cm K n rAddS aCatS := by
  intro c H d e x y hh Q hd he hg k
  unfold aCatS at hg
  split at hg
  · rename_i s t
    by_cases q : s.length + t.length ≤ SLine
    · rw [if_pos q] at hg
      cases hg
      exact ⟨_, _, den_str hd, den_str he, by rw [str_len, str_len]; exact sline_str q, by rw [str_app]; exact k c H _ Ext.refl hv_str⟩
    · rw [if_neg q] at hg; cases hg
  · cases hg
def aCatL : D → D → Option Hd | .lst s, .lst t => if s.length + t.length ≤ SLine then some (.new (.lst (s ++ t))) else none | _, _ => none
theorem s_addL : OpS cm K n rCat aCatL := by
  intro c H d e x y hh Q hd he hg k
  unfold aCatL at hg
  split at hg
  · rename_i s t
    by_cases q : s.length + t.length ≤ SLine
    · rw [if_pos q] at hg
      cases hg
      obtain ⟨a, vs, e1, h1, h2⟩ := hd
      obtain ⟨b, us, e2, h3, h4⟩ := he
      have l1 := h2.length
      have l2 := h4.length
      refine ⟨a, b, vs, us, e1, e2, h1, h3, sline_str (by omega), fun p hp => ?_⟩
      exact k _ _ _ (Ext.alloc hp) (hdv_new_lst hp (h2.append h4))
    · rw [if_neg q] at hg; cases hg
  · cases hg
def aPlus : D → D → Option Hd := fun d e => (aAdd d e).or ((aCatS d e).or (aCatL d e))
theorem o_add : OpR X (binaryOp .Add) (fun x y H Q => rI0 (fun i j => .int (i + j)) x y H Q ∨ rAddS x y H Q ∨ rCat x y H Q) := op_add.or (OpR.or (r := rAddS) op_add_str op_cat)
theorem s_plus : OpS cm K n (fun x y H Q => rI0 (fun i j => .int (i + j)) x y H Q ∨ rAddS x y H Q ∨ rCat x y H Q) aPlus := s_add.or (s_addS.or s_addL)
/-- a text, a list times a number -/
def repL {α : Type} (s : List α) (k : Int) : List α := (List.replicate k.toNat s).flatten
def aRepS : D → D → Option Hd | .str s, .int k => if 0 ≤ k ∧ k ≤ 1000 ∧ s.length * k.toNat ≤ SLine then some (.val (.str (repL s k))) else none | _, _ => none
def rRepS : R2 := fun x y H Q => ∃ s k, x = .str ⟨s.toArray⟩ ∧ y = .int k ∧ 0 ≤ k ∧ k ≤ 1000 ∧ s.length * k.toNat ≤ SLine ∧ Q (.str ⟨(repL s k).toArray⟩) H
theorem fold_rep (s : List Nat) : ∀ m : Nat, ∀ a : Array Nat, (List.replicate m s.toArray).foldl (· ++ ·) a = a ++ ((List.replicate m s).flatten).toArray
  | 0, a => by simp
  | m + 1, a => by
    rw [List.replicate_succ, List.foldl_cons, fold_rep s m, List.replicate_succ, List.flatten_cons]
    apply Array.ext'
    simp
theorem txt_mul (s : List Nat) (k : Int) (h0 : 0 ≤ k) : Txt.mul ⟨s.toArray⟩ k = ⟨(repL s k).toArray⟩ := by
  unfold Txt.mul repL
  by_cases h1 : k < 1
  · rw [if_pos h1]
    have e : k = 0 := by omega
    subst e
    rfl
  · rw [if_neg h1]
    by_cases h2 : (k == 1 || (⟨s.toArray⟩ : Str).length == 0) = true
    · rw [if_pos h2]
      rw [Bool.or_eq_true] at h2
      rcases h2 with h2 | h2
      · have e : k = 1 := by simpa using h2
        subst e
        simp
      · have e : s.length = 0 := by rw [str_len] at h2; simpa using h2
        have e : s = [] := List.eq_nil_of_length_eq_zero e
        subst e
        have e2 : (List.replicate k.toNat ([] : List Nat)).flatten = [] := by simp
        rw [e2]
    · rw [if_neg h2, fold_rep]
      simp
theorem o_repS : OpR X (binaryOp .Mult) rRepS := by
  intro pins s σ H x y v u Q I rx ry h
  obtain ⟨t, k, rfl, rfl, h0, h1, h2, q⟩ := h
  obtain ⟨t1, rfl⟩ := rx
  obtain ⟨t2, rfl⟩ := ry
  have hl : (⟨t.toArray⟩ : Str).length = t.length := str_len t
  have sl := sline
  have slv : SLine = 1000000 := by unfold SLine; rfl
  refine PySem.SB.mul ⟨?_, fun g1 g2 => ?_, fun g1 g2 => ?_⟩ fun t' kk => ?_
  · rw [decide_eq_false (by omega), decide_eq_false (by omega)]; rfl
  · rw [hl]
    intro g3
    have e1 : ((t.length * k.toNat : Nat) : Int) = (t.length : Int) * k := by rw [Int.natCast_mul, Int.toNat_of_nonneg h0]
    have h4 : (t.length : Int) * k ≤ 1000000 := by rw [← e1]; unfold SLine at h2; exact Int.ofNat_le.mpr h2
    have h5 : (2 ^ 63 - 1 : Int) / k < (t.length : Int) := g3
    have h6 := (Int.ediv_lt_iff_lt_mul (by omega : 0 < k)).mp h5
    omega
  · rw [hl]
    exact decide_eq_false (by omega)
  · rw [txt_mul t k h0]
    exact ⟨.str _, H, I.tok kk, ⟨_, rfl⟩, q⟩
theorem s_repS : OpS cm K n rRepS aRepS := by
  intro c H d e x y hh Q hd he hg k
  unfold aRepS at hg
  split at hg
  · rename_i s j
    by_cases q : 0 ≤ j ∧ j ≤ 1000 ∧ s.length * j.toNat ≤ SLine
    · rw [if_pos q] at hg
      cases hg
      exact ⟨s, j, den_str hd, den_int he, q.1, q.2.1, q.2.2, k c H _ Ext.refl hv_str⟩
    · rw [if_neg q] at hg; cases hg
  · cases hg
def aRepL : D → D → Option Hd | .lst s, .int k => if 0 ≤ k ∧ k ≤ 1000 ∧ s.length * k.toNat ≤ SLine then some (.new (.lst (repL s k))) else none | _, _ => none
theorem DenL.rep {G : Hp} {xs : List D} {vs : List V} (h : DenL cm K G xs vs) : ∀ m : Nat, DenL cm K G (List.replicate m xs).flatten (List.replicate m vs).flatten
  | 0 => rfl
  | m + 1 => by
    rw [List.replicate_succ, List.flatten_cons, List.replicate_succ, List.flatten_cons]
    exact h.append (DenL.rep h m)
theorem s_repL : OpS cm K n rRep aRepL := by
  intro c H d e x y hh Q hd he hg k
  unfold aRepL at hg
  split at hg
  · rename_i s j
    by_cases q : 0 ≤ j ∧ j ≤ 1000 ∧ s.length * j.toNat ≤ SLine
    · rw [if_pos q] at hg
      cases hg
      obtain ⟨a, vs, e1, h1, h2⟩ := hd
      have l1 := h2.length
      exact ⟨a, j, vs, e1, den_int he, h1, by omega, by omega, sline_str (by rw [← l1]; exact q.2.2), fun p hp => k _ _ _ (Ext.alloc hp) (hdv_new_lst hp (h2.rep _))⟩
    · rw [if_neg q] at hg; cases hg
  · cases hg
def aTimes : D → D → Option Hd := fun d e => (aMul d e).or ((aRepS d e).or (aRepL d e))
theorem o_mul : OpR X (binaryOp .Mult) (fun x y H Q => rI CMulX (fun i j => .int (i * j)) x y H Q ∨ rRepS x y H Q ∨ rRep x y H Q) := op_mulX.or (o_repS.or op_rep)
theorem s_mul : OpS cm K n (fun x y H Q => rI CMulX (fun i j => .int (i * j)) x y H Q ∨ rRepS x y H Q ∨ rRep x y H Q) aTimes := s_mulI.or (s_repS.or s_repL)

variable {a b : Expr} {ta tb : TE} {fa fb : M Hd} {pos : Pos}
def aNeg : D → Option Hd | .int i => okI (-i) | _ => none
theorem sem_un {r : V → Hp → VK → Prop} {g : D → Option Hd} (hs : UnS cm K n r g) (ha : Sem cm K n W (HdOk cm K n) ta fa) : Sem cm K n W (HdOk cm K n) (tUn r ta) (eUn g fa) := by
  refine Sem.bind (u := fun x σ H1 Q => r x H1 Q) ha ?_
  intro ρ₀ c₀ H₀ a x ρ c σ H Q s0 r0 hx q
  dsimp only at q
  obtain ⟨d1, e1, q⟩ := rd_bind (P := QR cm K n W (HdOk cm K n) Q ρ₀ c₀ H₀ σ) QR.nobad q
  rw [lift_run] at q
  cases eg : g d1 with
  | none => rw [eg] at q; exact q.elim
  | some h =>
    rw [eg] at q
    exact hs c H d1 x h Q (rd_ok r0 hx e1).2 eg fun c' H' v ex hv => q c' H' v (s0.app ex.stp) (r0.ext ex) (hv.hd s0.st)
theorem ve_neg (ha : VE cm X W a ta fa) : VE cm X W (.UnaryOp .USub a pos) (tUn (rU fun i => .int (-i)) ta) (eUn aNeg fa) := ⟨pe_un un_neg ha.pe, sem_un (fun c H d x h Q hd hg k => by
  unfold aNeg at hg
  split at hg
  · cases hg; exact ⟨_, den_int hd, k c H _ Ext.refl hv_int⟩
  · cases hg) ha.sem⟩

/-! ### comparisons -/
def cLt : D → D → Option Hd := gI fun i j => okB (decide (i < j))
def cLe : D → D → Option Hd := gI fun i j => okB (decide (i ≤ j))
def cGt : D → D → Option Hd := gI fun i j => okB (decide (j < i))
def cGeI : D → D → Option Hd := gI fun i j => okB (decide (j ≤ i))
theorem s_lt : OpS cm K n (rI0 fun i j => .bl (decide (i < j))) cLt := opsI0 fun i j h e => okB_ e rfl
theorem s_le : OpS cm K n (rI0 fun i j => .bl (decide (i ≤ j))) cLe := opsI0 fun i j h e => okB_ e rfl
theorem s_gt : OpS cm K n (rI0 fun i j => .bl (decide (j < i))) cGt := opsI0 fun i j h e => okB_ e rfl
theorem s_geI : OpS cm K n (rI0 fun i j => .bl (decide (j ≤ i))) cGeI := opsI0 fun i j h e => okB_ e rfl
def cGeS : D → D → Option Hd | .str s, .str t => okB (!decide (s < t)) | _, _ => none
def rGeS : R2 := fun x y H Q => ∃ i j, x = .str i ∧ y = .str j ∧ Q (.bl (!decide (i.cps.toList < j.cps.toList))) H
theorem s_geS : OpS cm K n rGeS cGeS := by
  intro c H d e x y hh Q hd he hg k
  unfold cGeS at hg
  split at hg
  · cases hg
    exact ⟨_, _, den_str hd, den_str he, k c H _ Ext.refl hv_bl⟩
  · cases hg
def cGe : D → D → Option Hd := fun d e => (cGeI d e).or (cGeS d e)
theorem o_ge : OpR X (compareOp .GtE) (fun x y H Q => rI0 (fun i j => .bl (decide (j ≤ i))) x y H Q ∨ rGeS x y H Q) := op_ge.or op_ge_str
theorem s_ge : OpS cm K n (fun x y H Q => rI0 (fun i j => .bl (decide (j ≤ i))) x y H Q ∨ rGeS x y H Q) cGe := s_geI.or s_geS

/-! == by plain data -/
mutual
def toPy : D → PyData
  | .non => .none
  | .bl b => .bool b
  | .int i => .int i
  | .str s => .str ⟨s.toArray⟩
  | .lst xs => .list (toPys xs)
  | .tup xs => .tuple (toPys xs)
  | _ => .dict []
def toPys : List D → List PyData
  | [] => []
  | d :: ds => toPy d :: toPys ds
end
mutual
def okD : D → Bool
  | .non => true
  | .bl _ => true
  | .int _ => true
  | .str s => s.all (· < 0x110000)
  | .lst xs => okDs xs
  | .tup xs => okDs xs
  | _ => false
def okDs : List D → Bool
  | [] => true
  | d :: ds => okD d && okDs ds
end
mutual
def depD : D → Nat
  | .lst xs => depDs xs + 1
  | .tup xs => depDs xs + 1
  | _ => 0
def depDs : List D → Nat
  | [] => 0
  | d :: ds => max (depD d) (depDs ds)
end
mutual
theorem okD_lay : ∀ d : D, okD d = true → PyData.canLay0 (toPy d) = true
  | .non, h => rfl
  | .bl b, h => rfl
  | .int i, h => rfl
  | .str s, h => by
    show PyData.strOk _ = true
    unfold PyData.strOk
    have h : s.all (· < 0x110000) = true := h
    simpa using h
  | .lst xs, h => okDs_lay xs h
  | .tup xs, h => okDs_lay xs h
  | .dic ks xs, h => by cases (show false = true from h)
  | .obj k ns xs, h => by cases (show false = true from h)
  | .ty t, h => by cases (show false = true from h)
  | .cls k, h => by cases (show false = true from h)
  | .scr ns, h => by cases (show false = true from h)
theorem okDs_lay : ∀ ds : List D, okDs ds = true → PyData.canLayAll0 (toPys ds) = true
  | [], h => rfl
  | d :: ds, h => by
    have h : (okD d && okDs ds) = true := h
    rw [Bool.and_eq_true] at h
    show (PyData.canLay0 (toPy d) && PyData.canLayAll0 (toPys ds)) = true
    rw [okD_lay d h.1, okDs_lay ds h.2]; rfl
end
mutual
theorem depD_eq : ∀ d : D, okD d = true → PyData.depth (toPy d) = depD d
  | .non, h => rfl
  | .bl b, h => rfl
  | .int i, h => rfl
  | .str s, h => rfl
  | .lst xs, h => congrArg (· + 1) (depDs_eq xs h)
  | .tup xs, h => congrArg (· + 1) (depDs_eq xs h)
  | .dic ks xs, h => by cases (show false = true from h)
  | .obj k ns xs, h => by cases (show false = true from h)
  | .ty t, h => by cases (show false = true from h)
  | .cls k, h => by cases (show false = true from h)
  | .scr ns, h => by cases (show false = true from h)
theorem depDs_eq : ∀ ds : List D, okDs ds = true → PyData.depthAll (toPys ds) = depDs ds
  | [], h => rfl
  | d :: ds, h => by
    have h : (okD d && okDs ds) = true := h
    rw [Bool.and_eq_true] at h
    show max (PyData.depth (toPy d)) (PyData.depthAll (toPys ds)) = max (depD d) (depDs ds)
    rw [depD_eq d h.1, depDs_eq ds h.2]
end
mutual
theorem dp_of {G : Hp} : ∀ (d : D) (v : V), okD d = true → Den cm K G d v → Dp K G v (toPy d)
  | .non, v, h, e => by cases (show v = .non from e); exact .non
  | .bl b, v, h, e => by cases (show v = .bl b from e); exact .bl b
  | .int i, v, h, e => by cases (show v = .int i from e); exact .int i
  | .str s, v, h, e => by cases (show v = .str ⟨s.toArray⟩ from e); exact .str _
  | .lst xs, v, h, ⟨a, vs, e, h1, h2⟩ => by subst e; exact .lst (SqL.of h1) (dps_of xs vs h h2)
  | .tup xs, v, h, ⟨a, vs, e, h1, h2⟩ => by subst e; exact .tup (SqT.of h1) (dps_of xs vs h h2)
  | .dic ks xs, v, h, _ => by cases (show false = true from h)
  | .obj k ns xs, v, h, _ => by cases (show false = true from h)
  | .ty t, v, h, _ => by cases (show false = true from h)
  | .cls k, v, h, _ => by cases (show false = true from h)
  | .scr ns, v, h, _ => by cases (show false = true from h)
theorem dps_of {G : Hp} : ∀ (ds : List D) (vs : List V), okDs ds = true → DenL cm K G ds vs → DpAll K G vs (toPys ds)
  | [], vs, h, e => by cases (show vs = [] from e); exact .nil
  | d :: ds, vs, h, ⟨v, r, e, h1, h2⟩ => by
    subst e
    have h : (okD d && okDs ds) = true := h
    rw [Bool.and_eq_true] at h
    exact .cons (dp_of d v h.1 h1) (dps_of ds r h.2 h2)
end
mutual
theorem Dp.up {G G' : Hp} (e : ∀ a o, G a = some o → G' a = some o) : ∀ (p : PyData) (v : V), Dp K G v p → Dp K G' v p
  | .none, _, .non => .non
  | .bool _, _, .bl b => .bl b
  | .int _, _, .int i => .int i
  | .str _, _, .str s => .str s
  | .list ds, _, .lst h1 h2 => .lst (sql_mono e h1) (Dp.ups e ds _ h2)
  | .tuple ds, _, .tup h1 h2 => .tup (sqt_mono e h1) (Dp.ups e ds _ h2)
  | .dict kvs, _, h => nomatch h
theorem Dp.ups {G G' : Hp} (e : ∀ a o, G a = some o → G' a = some o) : ∀ (ps : List PyData) (vs : List V), DpAll K G vs ps → DpAll K G' vs ps
  | [], _, .nil => .nil
  | p :: ps, _, .cons h1 h2 => .cons (Dp.up e p _ h1) (Dp.ups e ps _ h2)
end
theorem dp_r {d : D} {v : V} (h : okD d = true) (e : DenR cm K c H d v) : Dp K H v (toPy d) := by
  cases d with
  | lst xs => obtain ⟨a, vs, e1, h1, h2⟩ := e; subst e1; exact .lst (SqL.of h1) (Dp.ups gz_sub _ _ (dps_of xs vs h h2))
  | dic ks xs => cases (show false = true from h)
  | non => exact Dp.up (G := Gz c H) gz_sub _ _ (dp_of (cm := cm) _ v h e)
  | bl b => exact Dp.up (G := Gz c H) gz_sub _ _ (dp_of (cm := cm) _ v h e)
  | int b => exact Dp.up (G := Gz c H) gz_sub _ _ (dp_of (cm := cm) _ v h e)
  | str b => exact Dp.up (G := Gz c H) gz_sub _ _ (dp_of (cm := cm) _ v h e)
  | tup b => exact Dp.up (G := Gz c H) gz_sub _ _ (dp_of (cm := cm) _ v h e)
  | _ => cases (show false = true from h)
def eqD (d e : D) : Bool := PyData.eqv (toPy d) (toPy e)
def eqG (d e : D) : Option Bool := match d, e with
  | .str s, .str t => some (s == t)
  | .int i, .int j => some (i == j)
  | .bl a, .bl b => some (a == b)
  | d, e => if okD d = true ∧ okD e = true ∧ depD d ≤ 60 ∧ depD e ≤ 60 then some (eqD d e) else none
def cEq (d e : D) : Option Hd := (eqG d e).map fun b => .val (.bl b)
def cNe (d e : D) : Option Hd := (eqG d e).map fun b => .val (.bl !b)
theorem shaped_of {d : D} (h : okD d = true) (h2 : depD d ≤ 60) : SeqAt.shaped (toPy d) = true := by
  unfold SeqAt.shaped
  rw [okD_lay d h, depD_eq d h, decide_eq_true (by omega)]; rfl
theorem str_eq (s t : List Nat) : decide (V.str ⟨s.toArray⟩ = V.str ⟨t.toArray⟩) = (s == t) := by
  rw [Bool.eq_iff_iff]
  simp
theorem eqG_ok {d e : D} {x y : V} {b : Bool} (hd : DenR cm K c H d x) (he : DenR cm K c H e y) (hg : eqG d e = some b) : (scal x y = true ∧ decide (x = y) = b) ∨ (∃ p q, Dp K H x p ∧ Dp K H y q ∧ SeqAt.shaped p = true ∧ SeqAt.shaped q = true ∧ PyData.eqv p q = b) := by
  unfold eqG at hg
  split at hg
  · cases hg; rw [den_str hd, den_str he]; exact .inl ⟨rfl, str_eq _ _⟩
  · cases hg; rw [den_int hd, den_int he]; exact .inl ⟨rfl, dec_int⟩
  · cases hg; rw [den_bl hd, den_bl he]; exact .inl ⟨rfl, dec_bl⟩
  · split at hg
    · rename_i q
      cases hg
      exact .inr ⟨_, _, dp_r q.1 hd, dp_r q.2.1 he, shaped_of q.1 q.2.2.1, shaped_of q.2.1 q.2.2.2, rfl⟩
    · cases hg
theorem s_eq : OpS cm K n (fun x y H Q => rEq x y H Q ∨ rEqD K x y H Q) cEq := by
  intro c H d e x y hh Q hd he hg k
  unfold cEq at hg
  cases q : eqG d e with
  | none => rw [q] at hg; cases hg
  | some b =>
    rw [q] at hg; cases hg
    have kk := k c H (.bl b) Ext.refl hv_bl
    rcases eqG_ok hd he q with ⟨h1, h2⟩ | ⟨p, r, h1, h2, h3, h4, h5⟩
    · exact .inl ⟨h1, by rw [h2]; exact kk⟩
    · exact .inr ⟨p, r, h1, h2, h3, h4, by rw [h5]; exact kk⟩
theorem s_ne : OpS cm K n (fun x y H Q => rNe x y H Q ∨ rNeD K x y H Q) cNe := by
  intro c H d e x y hh Q hd he hg k
  unfold cNe at hg
  cases q : eqG d e with
  | none => rw [q] at hg; cases hg
  | some b =>
    rw [q] at hg; cases hg
    have kk := k c H (.bl !b) Ext.refl hv_bl
    rcases eqG_ok hd he q with ⟨h1, h2⟩ | ⟨p, r, h1, h2, h3, h4, h5⟩
    · exact .inl ⟨h1, by rw [h2]; exact kk⟩
    · exact .inr ⟨p, r, h1, h2, h3, h4, by rw [h5]; exact kk⟩
theorem o_eq (hu : X.A.units + 64 < cLine) : OpR X (compareOp .Eq) (fun x y H Q => rEq x y H Q ∨ rEqD X.K x y H Q) := op_eq.or (op_eqD hu)
theorem o_ne (hu : X.A.units + 64 < cLine) : OpR X (compareOp .NotEq) (fun x y H Q => rNe x y H Q ∨ rNeD X.K x y H Q) := op_ne.or (op_neD hu)

/-! is None -/
def cIsN : D → D → Option Hd | .non, .non => okB true | .int _, .non => okB false | .str _, .non => okB false | .tup _, .non => okB false | .lst _, .non => okB false | .bl _, .non => okB false | .obj _ _ _, .non => okB false | _, _ => none
def cNotN : D → D → Option Hd | .non, .non => okB false | .int _, .non => okB true | .str _, .non => okB true | .tup _, .non => okB true | .lst _, .non => okB true | .bl _, .non => okB true | .obj _ _ _, .non => okB true | _, _ => none
def rIsNo : R2 := fun x y H Q => y = .non ∧ Q (.bl (decide (x = .non))) H
def rNotNo : R2 := fun x y H Q => y = .non ∧ Q (.bl (!decide (x = .non))) H
theorem o_isN : OpR X (compareOp .Is) rIsNo := op_isN
theorem o_notN : OpR X (compareOp .IsNot) rNotNo := op_notN
theorem s_isN : OpS cm K n rIsNo cIsN := by
  intro c H d e x y hh Q hd he hg k
  unfold cIsN at hg
  split at hg
  · cases hg; exact ⟨den_non he, by rw [den_non hd]; exact k c H _ Ext.refl hv_bl⟩
  · cases hg; exact ⟨den_non he, by rw [den_int hd]; exact k c H _ Ext.refl hv_bl⟩
  · cases hg; exact ⟨den_non he, by rw [den_str hd]; exact k c H _ Ext.refl hv_bl⟩
  · cases hg; obtain ⟨a, vs, e1, _⟩ := hd; exact ⟨den_non he, by rw [e1]; exact k c H _ Ext.refl hv_bl⟩
  · cases hg; obtain ⟨a, vs, e1, _⟩ := hd; exact ⟨den_non he, by rw [e1]; exact k c H _ Ext.refl hv_bl⟩
  · cases hg; exact ⟨den_non he, by rw [den_bl hd]; exact k c H _ Ext.refl hv_bl⟩
  · cases hg; obtain ⟨a, dx, vs, e1, _⟩ := hd; exact ⟨den_non he, by rw [e1]; exact k c H _ Ext.refl hv_bl⟩
  · cases hg
theorem s_notN : OpS cm K n rNotNo cNotN := by
  intro c H d e x y hh Q hd he hg k
  unfold cNotN at hg
  split at hg
  · cases hg; exact ⟨den_non he, by rw [den_non hd]; exact k c H _ Ext.refl hv_bl⟩
  · cases hg; exact ⟨den_non he, by rw [den_int hd]; exact k c H _ Ext.refl hv_bl⟩
  · cases hg; exact ⟨den_non he, by rw [den_str hd]; exact k c H _ Ext.refl hv_bl⟩
  · cases hg; obtain ⟨a, vs, e1, _⟩ := hd; exact ⟨den_non he, by rw [e1]; exact k c H _ Ext.refl hv_bl⟩
  · cases hg; obtain ⟨a, vs, e1, _⟩ := hd; exact ⟨den_non he, by rw [e1]; exact k c H _ Ext.refl hv_bl⟩
  · cases hg; exact ⟨den_non he, by rw [den_bl hd]; exact k c H _ Ext.refl hv_bl⟩
  · cases hg; obtain ⟨a, dx, vs, e1, _⟩ := hd; exact ⟨den_non he, by rw [e1]; exact k c H _ Ext.refl hv_bl⟩
  · cases hg

/-! in -/
def flatD : D → Bool | .non => true | .bl _ => true | .int _ => true | .str _ => true | _ => false
def eqF : D → D → Bool
  | .non, .non => true
  | .bl a, .bl b => a == b
  | .bl a, .int b => (if a then 1 else 0) == b
  | .int a, .bl b => a == (if b then 1 else 0)
  | .int a, .int b => a == b
  | .str a, .str b => a == b
  | _, _ => false
def inD (x : D) (xs : List D) : Bool := xs.any fun y => eqF y x
theorem flat_v {G : Hp} {d : D} {v : V} (h : flatD d = true) (e : Den cm K G d v) : flatV v = true := by
  cases d with
  | non => cases (show v = .non from e); rfl
  | bl b => cases (show v = .bl b from e); rfl
  | int i => cases (show v = .int i from e); rfl
  | str s => cases (show v = .str ⟨s.toArray⟩ from e); rfl
  | _ => cases h
theorem eqF_v {G G' : Hp} {d e : D} {v u : V} (h : flatD d = true) (h' : flatD e = true) (hd : Den cm K G d v) (he : Den cm K G' e u) : eqV v u = eqF d e := by
  cases d with
  | non => cases (show v = .non from hd); cases e with
    | non => cases (show u = .non from he); rfl
    | bl b => cases (show u = .bl b from he); rfl
    | int i => cases (show u = .int i from he); rfl
    | str s => cases (show u = .str ⟨s.toArray⟩ from he); rfl
    | _ => cases h'
  | bl b => cases (show v = .bl b from hd); cases e with
    | non => cases (show u = .non from he); rfl
    | bl b => cases (show u = .bl b from he); rfl
    | int i => cases (show u = .int i from he); rfl
    | str s => cases (show u = .str ⟨s.toArray⟩ from he); rfl
    | _ => cases h'
  | int i => cases (show v = .int i from hd); cases e with
    | non => cases (show u = .non from he); rfl
    | bl b => cases (show u = .bl b from he); rfl
    | int i => cases (show u = .int i from he); rfl
    | str s => cases (show u = .str ⟨s.toArray⟩ from he); rfl
    | _ => cases h'
  | str s => cases (show v = .str ⟨s.toArray⟩ from hd); cases e with
    | non => cases (show u = .non from he); rfl
    | bl b => cases (show u = .bl b from he); rfl
    | int i => cases (show u = .int i from he); rfl
    | str t =>
      cases (show u = .str ⟨t.toArray⟩ from he)
      show ((⟨s.toArray⟩ : Str) == ⟨t.toArray⟩) = (s == t)
      rw [Bool.eq_iff_iff]; simp
    | _ => cases h'
  | _ => cases h
theorem in_v {G G' : Hp} {x : D} {v : V} (h : flatD x = true) (hx : Den cm K G' x v) : ∀ {xs : List D} {vs : List V}, xs.all flatD = true → DenL cm K G xs vs → vs.all flatV = true ∧ inV v vs = inD x xs
  | [], vs, _, e => by cases (show vs = [] from e); exact ⟨rfl, rfl⟩
  | d :: ds, vs, hf, ⟨u, r, e, h1, h2⟩ => by
    subst e
    rw [List.all_cons, Bool.and_eq_true] at hf
    obtain ⟨g1, g2⟩ := in_v h hx hf.2 h2
    refine ⟨by rw [List.all_cons, flat_v hf.1 h1, g1]; rfl, ?_⟩
    show (eqV u v || inV v r) = (eqF d x || inD x ds)
    rw [eqF_v hf.1 h h1 hx, g2]
/-! a dict whose keys are texts -/
def kget {α : Type} : List (List Nat) → List α → List Nat → Option α
  | k :: ks, v :: vs, s => if k = s then some v else kget ks vs s
  | _, _, _ => none
theorem str_mk {s t : List Nat} : (⟨s.toArray⟩ : Str) = ⟨t.toArray⟩ ↔ s = t := by simp
theorem kys_val (s : List Nat) : ∀ (ks : List (List Nat)) (vs : List V), valV (kys ks vs) (Sum.inr ⟨s.toArray⟩) = kget ks vs s
  | [], vs => rfl
  | k :: ks, [] => rfl
  | k :: ks, v :: vs => by
    have e : kys (k :: ks) (v :: vs) = ((Sum.inr ⟨k.toArray⟩ : Key), v) :: kys ks vs := rfl
    rw [e]
    by_cases h : k = s
    · subst h
      rw [valV_pos rfl]
      show _ = if k = k then some v else _
      rw [if_pos rfl]
    · rw [valV_neg (fun q => h (str_mk.mp (Sum.inr.inj q))), kys_val s ks vs]
      show _ = if k = s then some v else _
      rw [if_neg h]
theorem kget_den {G : Hp} {s : List Nat} {d : D} : ∀ {ks : List (List Nat)} {xs : List D} {vs : List V}, DenL cm K G xs vs → kget ks xs s = some d → ∃ v, kget ks vs s = some v ∧ Den cm K G d v
  | [], xs, vs, h, e => by unfold kget at e; cases e
  | k :: ks, [], vs, h, e => by unfold kget at e; cases e
  | k :: ks, x :: xs, vs, ⟨v, r, e1, h1, h2⟩, e => by
    subst e1
    unfold kget at e ⊢
    by_cases q : k = s
    · rw [if_pos q] at e ⊢; cases e; exact ⟨v, rfl, h1⟩
    · rw [if_neg q] at e ⊢; exact kget_den h2 e
theorem kget_some {α : Type} {s : List Nat} : ∀ {ks : List (List Nat)} {vs : List α}, ks.length = vs.length → (kget ks vs s).isSome = ks.contains s
  | [], [], _ => rfl
  | [], v :: vs, h => by cases h
  | k :: ks, [], h => by cases h
  | k :: ks, v :: vs, h => by
    have h : ks.length = vs.length := by simpa using h
    unfold kget
    rw [List.contains_cons]
    by_cases q : k = s
    · subst q; rw [if_pos rfl]; simp
    · rw [if_neg q, kget_some h]
      have : (s == k) = false := beq_eq_false_iff_ne.mpr fun e => q e.symm
      rw [this]; rfl
theorem dget_of {s : List Nat} {ks : List (List Nat)} {xs : List D} {x y : V} (hd : DenR cm K c H (.dic ks xs) x) (he : DenR cm K c H (.str s) y) : ∃ a vs, x = .ref a ∧ ks.length = vs.length ∧ DenL cm K (Gz c H) xs vs ∧ DGet H a y (kget ks vs s) := by
  obtain ⟨a, vs, e1, h1, h2, h3⟩ := hd
  refine ⟨a, vs, e1, h2, h3, ?_⟩
  rw [← kys_val, den_str he]
  exact DGet.k (k := Sum.inr ⟨s.toArray⟩) h1
def rInD (neg : Bool) : R2 := fun x y H Q => ∃ a o, y = .ref a ∧ DGet H a x o ∧ Q (.bl (if neg then !o.isSome else o.isSome)) H
theorem op_inD (hu : X.A.units + 1 < cLine) : OpR X (compareOp .In) (rInD false) := fun pins s σ H x y v u Q I rx ry h => by
  obtain ⟨a, o, e, g, q⟩ := h
  subst e
  obtain rfl : u = Value.ref a := ry
  exact d_in hu I g rx fun s3 I3 => ⟨.bl o.isSome, H, I3, rfl, q⟩
theorem op_notInD (hu : X.A.units + 1 < cLine) : OpR X (compareOp .NotIn) (rInD true) := fun pins s σ H x y v u Q I rx ry h => by
  obtain ⟨a, o, e, g, q⟩ := h
  subst e
  obtain rfl : u = Value.ref a := ry
  exact d_notIn hu I g rx fun s3 I3 => ⟨.bl (!o.isSome), H, I3, rfl, q⟩
def inG (x y : D) : Option Bool := match x, y with
  | .str [ch], .str s => some (decide (ch ∈ s))
  | .str s, .dic ks _ => some (ks.contains s)
  | x, .lst xs => if flatD x = true ∧ xs.all flatD = true then some (inD x xs) else none
  | x, .tup xs => if flatD x = true ∧ xs.all flatD = true then some (inD x xs) else none
  | _, _ => none
def cIn (d e : D) : Option Hd := (inG d e).map fun b => .val (.bl b)
def cNotIn (d e : D) : Option Hd := (inG d e).map fun b => .val (.bl !b)
theorem inG_ok {d e : D} {x y : V} {b : Bool} (hd : DenR cm K c H d x) (he : DenR cm K c H e y) (hg : inG d e = some b) :
    (∃ a o, y = .ref a ∧ DGet H a x o ∧ o.isSome = b) ∨ (∃ (ch : Nat) (z : Str), x = .str ⟨#[ch]⟩ ∧ y = .str z ∧ decide (ch ∈ z.cps.toList) = b) ∨ (∃ p xs, y = .ref p ∧ (SqL K H p xs ∨ SqT K H p xs) ∧ flatV x = true ∧ xs.all flatV = true ∧ inV x xs = b) := by
  unfold inG at hg
  split at hg
  · cases hg
    exact .inr (.inl ⟨_, _, den_str hd, den_str he, rfl⟩)
  · cases hg
    obtain ⟨a, vs, e1, e2, e3, g⟩ := dget_of he hd
    exact .inl ⟨a, _, e1, g, kget_some e2⟩
  · rename_i xs
    split at hg
    · rename_i q
      cases hg
      obtain ⟨a, vs, e1, h1, h2⟩ := he
      have hx : Den cm K (Gz c H) d x := by cases d <;> first | exact hd | (cases q.1)
      obtain ⟨g1, g2⟩ := in_v q.1 hx q.2 h2
      exact .inr (.inr ⟨a, vs, e1, .inl (SqL.of h1), flat_v q.1 hx, g1, g2⟩)
    · cases hg
  · rename_i xs
    split at hg
    · rename_i q
      cases hg
      obtain ⟨a, vs, e1, h1, h2⟩ := he
      have hx : Den cm K (Gz c H) d x := by cases d <;> first | exact hd | (cases q.1)
      obtain ⟨g1, g2⟩ := in_v q.1 hx q.2 h2
      exact .inr (.inr ⟨a, vs, e1, .inr (SqT.of (Gz.to h1).2), flat_v q.1 hx, g1, g2⟩)
    · cases hg
  · cases hg
def rInSg : R2 := fun x y H Q => ∃ (c : Nat) (z : Str), x = .str ⟨#[c]⟩ ∧ y = .str z ∧ Q (.bl (decide (c ∈ z.cps.toList))) H
def rNotInSg : R2 := fun x y H Q => ∃ (c : Nat) (z : Str), x = .str ⟨#[c]⟩ ∧ y = .str z ∧ Q (.bl (!decide (c ∈ z.cps.toList))) H
theorem o_in (hu : X.A.units + 64 < cLine) : OpR X (compareOp .In) (fun x y H Q => rInD false x y H Q ∨ rInSg x y H Q ∨ rIn X.K false x y H Q) := (op_inD (by omega)).or (OpR.or (r := rInSg) op_in_sign op_in_seq)
theorem o_notIn (hu : X.A.units + 64 < cLine) : OpR X (compareOp .NotIn) (fun x y H Q => rInD true x y H Q ∨ rNotInSg x y H Q ∨ rIn X.K true x y H Q) := (op_notInD (by omega)).or (OpR.or (r := rNotInSg) op_notIn_sign op_notIn_seq)
theorem s_in : OpS cm K n (fun x y H Q => rInD false x y H Q ∨ rInSg x y H Q ∨ rIn K false x y H Q) cIn := by
  intro c H d e x y hh Q hd he hg k
  unfold cIn at hg
  cases q : inG d e with
  | none => rw [q] at hg; cases hg
  | some b =>
    rw [q] at hg; cases hg
    have kk := k c H (.bl b) Ext.refl hv_bl
    rcases inG_ok hd he q with ⟨a, o, h1, h2, h3⟩ | ⟨ch, z, h1, h2, h3⟩ | ⟨p, xs, h1, h2, h3, h4, h5⟩
    · exact .inl ⟨a, o, h1, h2, by rw [if_neg Bool.false_ne_true, h3]; exact kk⟩
    · exact .inr (.inl ⟨ch, z, h1, h2, by rw [h3]; exact kk⟩)
    · exact .inr (.inr ⟨p, xs, h1, h2, h3, h4, by rw [if_neg Bool.false_ne_true, h5]; exact kk⟩)
theorem s_notIn : OpS cm K n (fun x y H Q => rInD true x y H Q ∨ rNotInSg x y H Q ∨ rIn K true x y H Q) cNotIn := by
  intro c H d e x y hh Q hd he hg k
  unfold cNotIn at hg
  cases q : inG d e with
  | none => rw [q] at hg; cases hg
  | some b =>
    rw [q] at hg; cases hg
    have kk := k c H (.bl !b) Ext.refl hv_bl
    rcases inG_ok hd he q with ⟨a, o, h1, h2, h3⟩ | ⟨ch, z, h1, h2, h3⟩ | ⟨p, xs, h1, h2, h3, h4, h5⟩
    · exact .inl ⟨a, o, h1, h2, by rw [if_pos rfl, h3]; exact kk⟩
    · exact .inr (.inl ⟨ch, z, h1, h2, by rw [h3]; exact kk⟩)
    · exact .inr (.inr ⟨p, xs, h1, h2, h3, h4, by rw [if_pos rfl, h5]; exact kk⟩)
end
end Vi

/-! ## ViOps2 -/
set_option Elab.async false
set_option linter.all false
set_option maxRecDepth 100000
set_option maxHeartbeats 2000000
namespace Vi
open PySem L2

section
variable {cm : Nat → Addr} {X : Cx} {W : WX} {K : PySem.W.Frag} {n : Nat} {c : Col} {H : Hp}
/-! ### a subscript -/
def ixD (d i : D) : Option D := match d, i with
  | .lst xs, .int i => atI xs i
  | .tup xs, .int i => atI xs i
  | .str s, .int i => if s.length ≤ SLine then (atI s i).map fun c => .str [c] else none
  | .dic ks xs, .str s => kget ks xs s
  | _, _ => none
def aIx (d i : D) : Option Hd := (ixD d i).map .val
theorem atI_den {G : Hp} {xs : List D} {vs : List V} {i : Int} {d : D} (h : DenL cm K G xs vs) (e : atI xs i = some d) : ∃ v, atI vs i = some v ∧ Den cm K G d v := by
  unfold atI at e ⊢
  rw [h.length] at e
  cases q : ixN vs.length i with
  | none => rw [q] at e; cases e
  | some j => rw [q] at e; exact h.get e
def rIxD : R2 := fun x y H Q => ∃ a v, x = .ref a ∧ DGet H a y (some v) ∧ Q v H
open PyProof.Rows PySem.Spec in
theorem ix_dict (hu : X.A.units + 1 < cLine) : IxR X rIxD := by
  intro value slice pins s σ H x y v u Q I rx ry h hs
  obtain ⟨a, z, e, g, q⟩ := h
  subst e
  obtain rfl : v = Value.ref a := rx
  have fin : wpAny (model X.prog X.w) X.A (getItem (.ref a) u) (EP X pins σ Q) X.xe s := d_getItem hu I g ry fun w' s3 I3 rw' => ⟨z, H, I3, rw', q⟩
  have hT := dict_typeIs I g
  unfold subscriptTail
  refine wpAny_bind ?_
  rw [getitemInPython_of_ne hT.not_modules]
  refine wpAny_bind (wpAny_specialOf hT PySem.F.slot_dict_getitem.lookup ?_)
  have fin2 : wpAny (model X.prog X.w) X.A (subscripted slice false (.ref a) u) (fun r s₃ => wpAny (model X.prog X.w) X.A (letTemporaryGo value (.ref a) r >>= fun _ => pure r) (EP X pins σ Q) X.xe s₃) X.xe s := by
    rw [hs]
    exact wpAny_operating (wpAny_mono fin (fun r s₃ h₃ => wpAny_bind (wpAny_letTemporaryGo (wpAny_pure h₃))) fun _ _ x => x)
  first
    | exact wpAny_pure (wpAny_bind fin2)
    | exact wpAny_pure (wpAny_pure (wpAny_bind fin2))
    | exact wpAny_bind fin2
theorem IxR.or {r r' : R2} (h : IxR X r) (h' : IxR X r') : IxR X (fun x y H Q => r x y H Q ∨ r' x y H Q) := by
  intro value slice pins s σ H x y v u Q I rx ry q hs
  rcases q with q | q
  · exact h value slice pins s σ H x y v u Q I rx ry q hs
  · exact h' value slice pins s σ H x y v u Q I rx ry q hs
def rIxA (K : PySem.W.Frag) : R2 := fun x y H Q => rIx K x y H Q ∨ rIxD x y H Q
theorem s_ix : OpS cm K n (rIxA K) aIx := by
  intro c H d e x y hh Q hd he hg k
  unfold aIx at hg
  cases q : ixD d e with
  | none => rw [q] at hg; cases hg
  | some z =>
    rw [q] at hg; cases hg
    unfold ixD at q
    split at q
    · obtain ⟨a, vs, e1, h1, h2⟩ := hd
      obtain ⟨v, e2, dv⟩ := atI_den h2 q
      exact .inl (.inl ⟨a, vs, _, v, e1, den_int he, SqL.of h1, e2, k c H v Ext.refl dv⟩)
    · obtain ⟨a, vs, e1, h1, h2⟩ := hd
      obtain ⟨v, e2, dv⟩ := atI_den h2 q
      exact .inl (.inr (.inl ⟨a, vs, _, v, e1, den_int he, SqT.of (Gz.to h1).2, e2, k c H v Ext.refl dv⟩))
    · rename_i s i
      by_cases hl : s.length ≤ SLine
      · rw [if_pos hl] at q
        cases q2 : atI s i with
        | none => rw [q2] at q; cases q
        | some ch =>
          rw [q2] at q; cases q
          refine .inl (.inr (.inr ⟨_, i, ch, den_str hd, den_int he, by rw [str_len]; exact sline_str hl, ?_, k c H _ Ext.refl rfl⟩))
          show atI s.toArray.toList i = some ch
          rw [List.toList_toArray]; exact q2
      · rw [if_neg hl] at q; cases q
    · obtain ⟨a, vs, e1, e2, e3, g⟩ := dget_of hd he
      obtain ⟨v, g2, dv⟩ := kget_den e3 q
      rw [g2] at g
      exact .inr ⟨a, v, e1, g, k c H v Ext.refl dv⟩
    · cases q
theorem ve_ix {a b : Expr} {ta tb : TE} {fa fb : M Hd} {pos : Pos} (ha : VE cm X W a ta fa) (hb : VE cm X W b tb fb) (hu : X.A.units + 64 < cLine) (hs : PlainIx b := by exact fun _ _ => rfl) : VE cm X W (.Subscript a b pos) (tOp (rIxA X.K) ta tb) (eOp aIx fa fb) := ⟨pe_ix (IxR.or (r := rIx X.K) ix_seq (ix_dict (by omega))) ha.pe hb.pe hs, sem_op s_ix ha.sem hb.sem⟩

/-! ### slices -/
structure VO (cm : Nat → Addr) (X : Cx) (W : WX) (e : Option Expr) (to : TO) (f : M (Option Int)) : Prop where
  pe : PO X e to
  sem : Sem cm X.K X.N.length W (fun _ _ _ _ (a b : Option Int) => a = b) to f
def oNone : M (Option Int) := pure none
def int? : D → Option Int | .int i => some i | _ => none
def oSome (f : M Hd) : M (Option Int) := f >>= fun h => rd h >>= fun d => M.lift ((int? d).map some)
theorem vo_none : VO cm X W none tNoPart oNone := ⟨po_none, sem_pure (fun _ _ _ q => q) fun _ _ _ => rfl⟩
theorem vo_some {e : Expr} {te : TE} {f : M Hd} (h : VE cm X W e te f) : VO cm X W (some e) (tPart te) (oSome f) := ⟨po_some h.pe, by
  refine Sem.bind (u := fun x σ H1 Q => ∃ i, x = .int i ∧ Q (some i) H1) h.sem ?_
  intro ρ₀ c₀ H₀ a x ρ c σ H Q s0 r0 hx q
  dsimp only at q
  obtain ⟨d1, e1, q⟩ := rd_bind (P := QR cm X.K X.N.length W (fun _ _ _ _ (a b : Option Int) => a = b) Q ρ₀ c₀ H₀ σ) QR.nobad q
  rw [lift_run] at q
  have p1 := (rd_ok r0 hx e1).2
  cases d1 with
  | int i => exact ⟨i, p1, q c H _ s0 r0 rfl⟩
  | _ => exact q.elim⟩
def cut {α : Type} (xs : List α) (lo hi : Option Int) : List α := (xs.drop (HT.sIx xs.length 0 lo)).take (HT.sIx xs.length xs.length hi - HT.sIx xs.length 0 lo)
def slD (d : D) (lo hi : Option Int) : Option Hd := match d with
  | .lst xs => some (.new (.lst (cut xs lo hi)))
  | .str s => if s.length ≤ SLine then some (.val (.str (cut s lo hi))) else none
  | .scr ns => if ns.length ≤ SLine then some (.new (.lst ((cut ns lo hi).map .int))) else none
  | _ => none
def rSl (K : PySem.W.Frag) : V → Option Int → Option Int → Hp → VK → Prop := fun x lo hi H Q => rSlL K x lo hi H Q ∨ rSlS x lo hi H Q
theorem o_sl : SlR X (rSl X.K) := sl_list.or sl_str
theorem cut_map {α β : Type} (f : α → β) (xs : List α) (lo hi : Option Int) : cut (xs.map f) lo hi = (cut xs lo hi).map f := by
  unfold cut
  rw [List.length_map, List.map_take, List.map_drop]
theorem denl_ints {G : Hp} : ∀ ns : List Int, DenL cm K G (ns.map D.int) (ns.map V.int)
  | [] => rfl
  | i :: ns => ⟨.int i, _, rfl, rfl, denl_ints ns⟩
def eSl (f : M Hd) (lo hi : M (Option Int)) : M Hd := f >>= fun h => lo >>= fun l => hi >>= fun u => rd h >>= fun d => M.lift (slD d l u)
theorem ve_slice {e : Expr} {lo hi : Option Expr} {te : TE} {tl th : TO} {f : M Hd} {fl fh : M (Option Int)} {p2 pos : Pos} (h : VE cm X W e te f) (hl : VO cm X W lo tl fl) (hh : VO cm X W hi th fh) :
    VE cm X W (.Subscript e (.Slice lo hi none p2) pos) (tSl (rSl X.K) te tl th) (eSl f fl fh) := ⟨pe_slice o_sl h.pe hl.pe hh.pe, by
  refine Sem.bind (u := fun x σ H1 Q => tl σ H1 fun l H2 => th σ H2 fun u H3 => rSl X.K x l u H3 Q) h.sem ?_
  intro ρ₀ c₀ H₀ a x ρ c σ H Q s0 r0 hx q
  refine hl.sem ρ c σ H _ r0 ?_
  dsimp only at q
  rw [M.bind_run] at q
  cases e : fl ρ with
  | exc k ρ' => rw [e] at q; exact fun c' H' s' r' => q c' H' (s0.trans s') r'
  | bad => rw [e] at q; exact q
  | ok l ρ1 =>
    rw [e] at q
    intro c1 H1 l' s1 r1 hl'
    have hl' : l = l' := hl'
    subst hl'
    refine hh.sem ρ1 c1 σ H1 _ r1 ?_
    dsimp only at q
    rw [M.bind_run] at q
    cases e2 : fh ρ1 with
    | exc k ρ' => rw [e2] at q; exact fun c' H' s' r' => q c' H' ((s0.trans s1).trans s') r'
    | bad => rw [e2] at q; exact q
    | ok u ρ2 =>
      rw [e2] at q
      intro c2 H2 u' s2 r2 hu'
      have hu' : u = u' := hu'
      subst hu'
      dsimp only at q
      have s02 := (s0.trans s1).trans s2
      obtain ⟨d, e3, q⟩ := rd_bind (P := QR cm X.K X.N.length W (HdOk cm X.K X.N.length) Q ρ₀ c₀ H₀ σ) QR.nobad q
      rw [lift_run] at q
      have dr := (rd_ok r2 ((hx.stp s1.st).stp s2.st) e3).2
      cases d with
      | lst xs =>
        obtain ⟨b, vs, e4, h1, h2⟩ := dr
        have e5 : cut xs l u = (xs.drop (HT.sIx vs.length 0 l)).take (HT.sIx vs.length vs.length u - HT.sIx vs.length 0 l) := by unfold cut; rw [h2.length]
        refine .inl ⟨b, vs, e4, SqL.of h1, fun p hp => ?_⟩
        have ex : Ext c2 (cset c2 p (X.N.length + 1)) H2 (upd H2 p (.lst (cutV vs l u))) := Ext.alloc hp
        exact q _ _ _ (s02.app ex.stp) (r2.ext ex) ((hdv_new_lst hp (by rw [e5]; exact (h2.drop _).take _)).hd s02.st)
      | str s =>
        have e9 : slD (.str s) l u = if s.length ≤ SLine then some (Hd.val (.str (cut s l u))) else none := rfl
        rw [e9] at q
        by_cases hz : s.length ≤ SLine
        · rw [if_pos hz] at q
          refine .inr ⟨_, dr, by rw [str_len]; exact sline_str hz, q c2 H2 _ s02 r2 ?_⟩
          show V.str (cutS ⟨s.toArray⟩ l u) = V.str ⟨(cut s l u).toArray⟩
          unfold cutS cut
          rw [str_len]
        · rw [if_neg hz] at q; exact q.elim
      | scr ns =>
        have e9 : slD (.scr ns) l u = if ns.length ≤ SLine then some (Hd.new (.lst ((cut ns l u).map .int))) else none := rfl
        rw [e9] at q
        by_cases hz : ns.length ≤ SLine
        · rw [if_pos hz] at q
          obtain ⟨b, e4, h1⟩ := dr
          refine .inl ⟨b, _, e4, sql_mono gz_sub h1, fun p hp => ?_⟩
          have ex : Ext c2 (cset c2 p (X.N.length + 1)) H2 (upd H2 p (.lst (cutV (ns.map V.int) l u))) := Ext.alloc hp
          refine q _ _ _ (s02.app ex.stp) (r2.ext ex) ((hdv_new_lst hp ?_).hd s02.st)
          have e6 : cutV (ns.map V.int) l u = (cut ns l u).map V.int := cut_map V.int ns l u
          rw [e6]
          exact denl_ints _
        · rw [if_neg hz] at q; exact q.elim
      | _ => exact q.elim⟩

/-! ### built-in calls -/
theorem calls1 {r : List V → Hp → VK → Prop} {g : D → Option Hd} (h : ∀ c H d v hh Q, DenR cm K c H d v → g d = some hh → (∀ c' H' v, Ext c c' H H' → HdV cm K n H c' H' hh v → Q v H') → r [v] H Q) : CallS cm K n r (fun ds => match ds with | [d] => g d | _ => none) := by
  intro c H ds xs hh Q hd hg k
  dsimp only at hg
  split at hg
  · obtain ⟨v, t, e, h1, h2⟩ := hd
    have h2 : t = [] := h2
    rw [e, h2]
    exact h c H _ v hh Q h1 hg k
  · cases hg
theorem calls2 {r : List V → Hp → VK → Prop} {g : D → D → Option Hd} (h : ∀ c H d e v u hh Q, DenR cm K c H d v → DenR cm K c H e u → g d e = some hh → (∀ c' H' v, Ext c c' H H' → HdV cm K n H c' H' hh v → Q v H') → r [v, u] H Q) : CallS cm K n r (fun ds => match ds with | [d, e] => g d e | _ => none) := by
  intro c H ds xs hh Q hd hg k
  dsimp only at hg
  split at hg
  · obtain ⟨v, t, e, h1, u, t2, e2, h2, h3⟩ := hd
    have h3 : t2 = [] := h3
    rw [e, e2, h3]
    exact h c H _ _ v u hh Q h1 h2 hg k
  · cases hg
def f1 (g : D → Option Hd) : List D → Option Hd := fun ds => match ds with | [d] => g d | _ => none
def f2 (g : D → D → Option Hd) : List D → Option Hd := fun ds => match ds with | [d, e] => g d e | _ => none
/-! len -/
def lenD : D → Option Hd
  | .lst xs => okI xs.length
  | .tup xs => okI xs.length
  | .str s => if s.length ≤ SLine then okI s.length else none
  | .scr ns => okI ns.length
  | _ => none
theorem s_len : CallS cm K n (fun xs H Q => ∃ x m, xs = [x] ∧ LenV K x H m ∧ Q (.int m) H) (f1 lenD) := calls1 fun c H d v hh Q hd hg k => by
  unfold lenD at hg
  split at hg
  · cases hg
    obtain ⟨a, vs, e, h1, h2⟩ := hd
    refine ⟨v, vs.length, rfl, by rw [e]; exact .inl ⟨vs, SqL.of h1, rfl⟩, k c H _ Ext.refl ?_⟩
    rw [← h2.length]; rfl
  · cases hg
    obtain ⟨a, vs, e, h1, h2⟩ := hd
    refine ⟨v, vs.length, rfl, by rw [e]; exact .inr ⟨vs, SqT.of (Gz.to h1).2, rfl⟩, k c H _ Ext.refl ?_⟩
    rw [← h2.length]; rfl
  · rename_i s
    by_cases hl : s.length ≤ SLine
    · rw [if_pos hl] at hg; cases hg
      refine ⟨v, s.length, rfl, by rw [den_str hd]; exact ⟨by rw [str_len]; exact sline_str hl, (str_len s).symm⟩, k c H _ Ext.refl rfl⟩
    · rw [if_neg hl] at hg; cases hg
  · rename_i ns
    cases hg
    obtain ⟨a, e, h1⟩ := hd
    refine ⟨v, (ns.map V.int).length, rfl, by rw [e]; exact .inl ⟨_, sql_mono gz_sub h1, rfl⟩, k c H _ Ext.refl ?_⟩
    rw [List.length_map]; rfl
  · cases hg
/-! min, max of two -/
def maxD : D → D → Option Hd := gI fun i j => okI (if j > i then j else i)
def minD : D → D → Option Hd := gI fun i j => okI (if j < i then j else i)
theorem s_max2 : CallS cm K n (fun xs H Q => ∃ i j, xs = [.int i, .int j] ∧ Q (.int (if j > i then j else i)) H) (f2 maxD) := calls2 fun c H d e v u hh Q hd he hg k => by
  obtain ⟨i, j, e1, e2, e3⟩ := gI_cases hg
  subst e1 e2
  cases e3
  exact ⟨i, j, by rw [den_int hd, den_int he], k c H _ Ext.refl rfl⟩
theorem s_min2 : CallS cm K n (fun xs H Q => ∃ i j, xs = [.int i, .int j] ∧ Q (.int (if j < i then j else i)) H) (f2 minD) := calls2 fun c H d e v u hh Q hd he hg k => by
  obtain ⟨i, j, e1, e2, e3⟩ := gI_cases hg
  subst e1 e2
  cases e3
  exact ⟨i, j, by rw [den_int hd, den_int he], k c H _ Ext.refl rfl⟩
/-! all, any, sum -/
def bls? : List D → Option (List Bool)
  | [] => some []
  | .bl b :: ds => (bls? ds).map (b :: ·)
  | _ => none
def ints? : List D → Option (List Int)
  | [] => some []
  | .int b :: ds => (ints? ds).map (b :: ·)
  | _ => none
def strs? : List D → Option (List (List Nat))
  | [] => some []
  | .str b :: ds => (strs? ds).map (b :: ·)
  | _ => none
theorem bls_v {G : Hp} : ∀ {ds : List D} {vs : List V} {bs : List Bool}, DenL cm K G ds vs → bls? ds = some bs → vs = bs.map V.bl
  | [], vs, bs, h, e => by cases e; exact h
  | d :: ds, vs, bs, ⟨v, r, e1, h1, h2⟩, e => by
    cases d with
    | bl b =>
      have e : (bls? ds).map (b :: ·) = some bs := e
      cases q : bls? ds with
      | none => rw [q] at e; cases e
      | some cs =>
        rw [q] at e; cases e
        rw [e1, (show v = .bl b from h1), bls_v h2 q]; rfl
    | _ => exact nomatch (show none = some bs from e)
theorem ints_v {G : Hp} : ∀ {ds : List D} {vs : List V} {bs : List Int}, DenL cm K G ds vs → ints? ds = some bs → vs = bs.map V.int
  | [], vs, bs, h, e => by cases e; exact h
  | d :: ds, vs, bs, ⟨v, r, e1, h1, h2⟩, e => by
    cases d with
    | int b =>
      have e : (ints? ds).map (b :: ·) = some bs := e
      cases q : ints? ds with
      | none => rw [q] at e; cases e
      | some cs =>
        rw [q] at e; cases e
        rw [e1, (show v = .int b from h1), ints_v h2 q]; rfl
    | _ => exact nomatch (show none = some bs from e)
def toS (s : List Nat) : Str := ⟨s.toArray⟩
theorem strs_v {G : Hp} : ∀ {ds : List D} {vs : List V} {bs : List (List Nat)}, DenL cm K G ds vs → strs? ds = some bs → vs = (bs.map toS).map V.str
  | [], vs, bs, h, e => by cases e; exact h
  | d :: ds, vs, bs, ⟨v, r, e1, h1, h2⟩, e => by
    cases d with
    | str b =>
      have e : (strs? ds).map (b :: ·) = some bs := e
      cases q : strs? ds with
      | none => rw [q] at e; cases e
      | some cs =>
        rw [q] at e; cases e
        rw [e1, (show v = .str ⟨b.toArray⟩ from h1), strs_v h2 q]; rfl
    | _ => exact nomatch (show none = some bs from e)
def allD : D → Option Hd | .lst ds => (bls? ds).map fun bs => .val (.bl (bs.all id)) | _ => none
def anyD : D → Option Hd | .lst ds => (bls? ds).map fun bs => .val (.bl (bs.any id)) | _ => none
def sumD : D → Option Hd | .lst ds => (ints? ds).map fun bs => .val (.int bs.sum) | _ => none
theorem s_all : CallS cm K n (rAll K) (f1 allD) := calls1 fun c H d v hh Q hd hg k => by
  unfold allD at hg
  split at hg
  · rename_i ds
    cases q : bls? ds with
    | none => rw [q] at hg; cases hg
    | some bs =>
      rw [q] at hg; cases hg
      obtain ⟨a, vs, e, h1, h2⟩ := hd
      have e2 := bls_v h2 q
      subst e2
      exact ⟨a, bs, by rw [e], SqL.of h1, k c H _ Ext.refl rfl⟩
  · cases hg
theorem s_any : CallS cm K n (rAny K) (f1 anyD) := calls1 fun c H d v hh Q hd hg k => by
  unfold anyD at hg
  split at hg
  · rename_i ds
    cases q : bls? ds with
    | none => rw [q] at hg; cases hg
    | some bs =>
      rw [q] at hg; cases hg
      obtain ⟨a, vs, e, h1, h2⟩ := hd
      have e2 := bls_v h2 q
      subst e2
      exact ⟨a, bs, by rw [e], SqL.of h1, k c H _ Ext.refl rfl⟩
  · cases hg
theorem s_sum : CallS cm K n (rSum K) (f1 sumD) := calls1 fun c H d v hh Q hd hg k => by
  unfold sumD at hg
  split at hg
  · rename_i ds
    cases q : ints? ds with
    | none => rw [q] at hg; cases hg
    | some bs =>
      rw [q] at hg; cases hg
      obtain ⟨a, vs, e, h1, h2⟩ := hd
      have e2 := ints_v h2 q
      subst e2
      exact ⟨a, bs, by rw [e], SqL.of h1, k c H _ Ext.refl rfl⟩
  · cases hg
/-! isinstance, built-in types -/
def tyD : D → Option String
  | .non => some "NoneType" | .bl _ => some "bool" | .int _ => some "int" | .str _ => some "str" | .lst _ => some "list" | .tup _ => some "tuple" | .dic _ _ => some "dict" | _ => none
def isiB (a b : String) : Bool := a == b || (a == "bool" && b == "int")
def isiT : List String := ["str", "int", "bool", "list", "tuple", "dict"]
def isiD (d t : D) : Option Hd := match tyD d, t with
  | some a, .ty b => if isiT.contains b = true then okB (isiB a b) else none
  | _, _ => none
theorem kitB_ok : ∀ a ∈ ["NoneType", "bool", "int", "str", "list", "tuple", "dict"], ∀ b ∈ isiT, kitB a b = some (isiB a b) := by decide +kernel
theorem tyD_ok {d : D} {v : V} {a : String} (hd : DenR cm K c H d v) (h : tyD d = some a) : TyX K H v (.type a) ∧ a ∈ ["NoneType", "bool", "int", "str", "list", "tuple", "dict"] := by
  unfold tyD at h
  split at h
  · cases h; rw [den_non hd]; exact ⟨.base .non, by decide⟩
  · cases h; rw [den_bl hd]; exact ⟨.base (.bl _), by decide⟩
  · cases h; rw [den_int hd]; exact ⟨.base (.int _), by decide⟩
  · cases h; rw [den_str hd]; exact ⟨.base (.str _), by decide⟩
  · cases h; obtain ⟨a, vs, e, h1, _⟩ := hd; rw [e]; exact ⟨.base (.lst h1), by decide⟩
  · cases h; obtain ⟨a, vs, e, h1, _⟩ := hd; rw [e]; exact ⟨.base (.tup (Gz.to h1).2), by decide⟩
  · cases h; obtain ⟨a, vs, e, h1, _⟩ := hd; rw [e]; exact ⟨.base (.dK h1), by decide⟩
  · cases h
theorem s_isi : CallS cm K n (rIsi K) (f2 isiD) := calls2 fun c H d e v u hh Q hd he hg k => by
  unfold isiD at hg
  split at hg
  · rename_i a b ea
    by_cases q : isiT.contains b = true
    · rw [if_pos q] at hg; cases hg
      obtain ⟨t, m⟩ := tyD_ok hd ea
      have he : u = .ty b := he
      subst he
      exact ⟨v, .ty b, .type a, .type b, _, rfl, .ty b, t, kit_ty (kitB_ok a m b (by simpa using q)), k c H _ Ext.refl rfl⟩
    · rw [if_neg q] at hg; cases hg
  · cases hg
/-! list(xs) -/
def listD : D → Option Hd | .lst xs => some (.new (.lst xs)) | .tup xs => some (.new (.lst xs)) | _ => none
theorem s_list : CallS cm K n (fun xs H Q => ∃ p ys, xs = [.ref p] ∧ (SqL K H p ys ∨ SqT K H p ys) ∧ ∀ l, H l = none → Q (.ref l) (upd H l (.lst ys))) (f1 listD) := calls1 fun c H d v hh Q hd hg k => by
  unfold listD at hg
  split at hg
  · cases hg
    obtain ⟨a, vs, e, h1, h2⟩ := hd
    exact ⟨a, vs, by rw [e], .inl (SqL.of h1), fun l hl => k _ _ _ (Ext.alloc hl) (hdv_new_lst hl h2)⟩
  · cases hg
    obtain ⟨a, vs, e, h1, h2⟩ := hd
    exact ⟨a, vs, by rw [e], .inr (SqT.of (Gz.to h1).2), fun l hl => k _ _ _ (Ext.alloc hl) (hdv_new_lst hl h2)⟩
  · cases hg

/-! ### x or y by truth -/
def truD : D → Option Bool
  | .non => some false
  | .bl b => some b
  | .int i => some (i != 0)
  | .str s => if s.length ≤ SLine then some (!s.isEmpty) else none
  | .lst xs => some (!xs.isEmpty)
  | .tup xs => some (!xs.isEmpty)
  | _ => none
theorem denl_empty {G : Hp} {xs : List D} {vs : List V} (h : DenL cm K G xs vs) : vs.isEmpty = xs.isEmpty := by
  have := h.length
  cases xs <;> cases vs <;> first | rfl | (simp at this)
theorem tru_d {d : D} {v : V} {b : Bool} (hd : DenR cm K c H d v) (h : truD d = some b) : TruV K v H b := by
  unfold truD at h
  split at h
  · cases h; rw [den_non hd]; exact rfl
  · cases h; rw [den_bl hd]; exact rfl
  · cases h; rw [den_int hd]; exact rfl
  · rename_i s
    by_cases hl : s.length ≤ SLine
    · rw [if_pos hl] at h; cases h
      rw [den_str hd]
      refine ⟨by rw [str_len]; exact sline_str hl, ?_⟩
      rw [str_len]
      cases s with
      | nil => rfl
      | cons a r =>
        show true = _
        have : ((a :: r).length : Int) ≠ 0 := by simp only [List.length_cons]; omega
        simp only [bne, beq_eq_false_iff_ne.mpr this]; rfl
    · rw [if_neg hl] at h; cases h
  · cases h; obtain ⟨a, vs, e, h1, h2⟩ := hd; rw [e]; exact .inl ⟨vs, SqL.of h1, by rw [denl_empty h2]⟩
  · cases h; obtain ⟨a, vs, e, h1, h2⟩ := hd; rw [e]; exact .inr (.inl ⟨vs, SqT.of (Gz.to h1).2, by rw [denl_empty h2]⟩)
  · cases h
def truM (d : D) : M Bool := M.lift (truD d)
def eOrT (a b : M Hd) : M Hd := a >>= fun h => rd h >>= fun d => truM d >>= fun k => if k = true then pure h else b
def eAndT (a b : M Hd) : M Hd := a >>= fun h => rd h >>= fun d => truM d >>= fun k => if k = true then b else pure h
theorem ve_orT {a b : Expr} {rest : List Expr} {ta tb : TE} {fa fb : M Hd} {pos : Pos} (ha : VE cm X W a ta fa) (hb : VE cm X W (.BoolOp .Or (b :: rest) pos) tb fb) : VE cm X W (.BoolOp .Or (a :: b :: rest) pos) (tOrT X.K ta tb) (eOrT fa fb) := ⟨pe_orT ha.pe hb.pe, by
  refine Sem.bind (u := fun x σ H1 Q => ∃ k, TruV X.K x H1 k ∧ if k = true then Q x H1 else tb σ H1 Q) ha.sem ?_
  intro ρ₀ c₀ H₀ a x ρ c σ H Q s0 r0 hx q
  dsimp only at q
  obtain ⟨d1, e1, q⟩ := rd_bind (P := QR cm X.K X.N.length W (HdOk cm X.K X.N.length) Q ρ₀ c₀ H₀ σ) QR.nobad q
  rw [M.bind_run] at q
  unfold truM at q
  rw [lift_run] at q
  cases e : truD d1 with
  | none => rw [e] at q; exact q.elim
  | some k =>
    rw [e] at q
    refine ⟨k, tru_d (rd_ok r0 hx e1).2 e, ?_⟩
    cases k with
    | true => exact q c H x s0 r0 hx
    | false => exact SemK.of (rel := BlOk) hd_stab hb.sem ρ₀ c₀ H₀ true true ρ c σ H Q s0 r0 rfl q⟩
theorem ve_andT {a b : Expr} {rest : List Expr} {ta tb : TE} {fa fb : M Hd} {pos : Pos} (ha : VE cm X W a ta fa) (hb : VE cm X W (.BoolOp .And (b :: rest) pos) tb fb) : VE cm X W (.BoolOp .And (a :: b :: rest) pos) (tAndT X.K ta tb) (eAndT fa fb) := ⟨pe_andT ha.pe hb.pe, by
  refine Sem.bind (u := fun x σ H1 Q => ∃ k, TruV X.K x H1 k ∧ if k = true then tb σ H1 Q else Q x H1) ha.sem ?_
  intro ρ₀ c₀ H₀ a x ρ c σ H Q s0 r0 hx q
  dsimp only at q
  obtain ⟨d1, e1, q⟩ := rd_bind (P := QR cm X.K X.N.length W (HdOk cm X.K X.N.length) Q ρ₀ c₀ H₀ σ) QR.nobad q
  rw [M.bind_run] at q
  unfold truM at q
  rw [lift_run] at q
  cases e : truD d1 with
  | none => rw [e] at q; exact q.elim
  | some k =>
    rw [e] at q
    refine ⟨k, tru_d (rd_ok r0 hx e1).2 e, ?_⟩
    cases k with
    | false => exact q c H x s0 r0 hx
    | true => exact SemK.of (rel := BlOk) hd_stab hb.sem ρ₀ c₀ H₀ true true ρ c σ H Q s0 r0 rfl q⟩
theorem ve_boolOne {op : BoolOp} {a : Expr} {te : TE} {f : M Hd} {pos : Pos} (h : VE cm X W a te f) : VE cm X W (.BoolOp op [a] pos) te f := ⟨pe_one h.pe, h.sem⟩
/-- not e as a value -/
def eNotT (a : M Hd) : M Hd := a >>= fun h => rd h >>= fun d => truM d >>= fun k => pure (.val (.bl !k))
theorem ve_notT {a : Expr} {ta : TE} {fa : M Hd} {pos : Pos} (ha : VE cm X W a ta fa) : VE cm X W (.UnaryOp .Not a pos) (tNotT X.K ta) (eNotT fa) := ⟨pe_notT ha.pe, by
  refine Sem.bind (u := fun x σ H1 Q => ∃ k, TruV X.K x H1 k ∧ Q (V.bl (!k)) H1) ha.sem ?_
  intro ρ₀ c₀ H₀ a x ρ c σ H Q s0 r0 hx q
  dsimp only at q
  obtain ⟨d1, e1, q⟩ := rd_bind (P := QR cm X.K X.N.length W (HdOk cm X.K X.N.length) Q ρ₀ c₀ H₀ σ) QR.nobad q
  rw [M.bind_run] at q
  unfold truM at q
  rw [lift_run] at q
  cases e : truD d1 with
  | none => rw [e] at q; exact q.elim
  | some k =>
    rw [e] at q
    exact ⟨k, tru_d (rd_ok r0 hx e1).2 e, q c H _ s0 r0 rfl⟩⟩

/-! ### a < b < c -/
def eChain (g g' : D → D → Option Hd) (a b e : M Hd) : M Hd := a >>= fun x => b >>= fun y => rd x >>= fun d1 => rd y >>= fun d2 => M.lift ((g d1 d2).bind fun h => match h with | .val (.bl k) => some k | _ => none) >>= fun k =>
  if k = true then e >>= fun z => rd y >>= fun d2 => rd z >>= fun d3 => M.lift (g' d2 d3) else pure (.val (.bl false))
end
end Vi

/-! ## ViOps3 -/
set_option Elab.async false
set_option linter.all false
set_option maxRecDepth 100000
set_option maxHeartbeats 400000
namespace Vi
open PySem L2

section
variable {cm : Nat → Addr} {X : Cx} {W : WX} {K : PySem.W.Frag} {n : Nat} {c : Col} {H : Hp}
/-! ### chains -/
theorem sem_chain {r r' : R2} {g g' : D → D → Option Hd} {ta tb te : TE} {fa fb fe : M Hd} (h1 : OpS cm K n r g) (h2 : OpS cm K n r' g') (ha : Sem cm K n W (HdOk cm K n) ta fa) (hb : Sem cm K n W (HdOk cm K n) tb fb) (he : Sem cm K n W (HdOk cm K n) te fe) :
    Sem cm K n W (HdOk cm K n) (tChain r r' ta tb te) (eChain g g' fa fb fe) := by
  refine Sem.bind (u := fun x σ H1 Q => tb σ H1 fun y H2 => r x y H2 fun z H3 => ∃ k, z = V.bl k ∧ (if k = true then te σ H3 fun w' H4 => r' y w' H4 Q else Q (V.bl false) H3)) ha ?_
  intro ρ₀ c₀ H₀ a x ρ c σ H Q s0 r0 hx q
  refine hb ρ c σ H _ r0 ?_
  dsimp only at q
  rw [M.bind_run] at q
  cases e : fb ρ with
  | exc k ρ' => rw [e] at q; exact fun c' H' s' r' => q c' H' (s0.trans s') r'
  | bad => rw [e] at q; exact q
  | ok b ρ1 =>
    rw [e] at q
    intro c1 H1 y s1 r1 hy
    dsimp only at q
    have s01 := s0.trans s1
    obtain ⟨d1, e1, q⟩ := rd_bind (P := QR cm K n W (HdOk cm K n) Q ρ₀ c₀ H₀ σ) QR.nobad q
    obtain ⟨d2, e2, q⟩ := rd_bind (P := QR cm K n W (HdOk cm K n) Q ρ₀ c₀ H₀ σ) QR.nobad q
    rw [M.bind_run, lift_run] at q
    have p1 := (rd_ok r1 (hx.stp s1.st) e1).2
    have p2 := (rd_ok r1 hy e2).2
    cases eg : g d1 d2 with
    | none => rw [eg] at q; exact q.elim
    | some hd =>
      rw [eg] at q
      cases hd with
      | slot i => exact q.elim
      | new d => exact q.elim
      | rc j d => exact q.elim
      | val d =>
        cases d with
        | bl k =>
          refine h1 c1 H1 d1 d2 x y _ _ p1 p2 eg fun c2 H2 v ex hv => ?_
          have hv : v = .bl k := hv
          refine ⟨k, hv, ?_⟩
          have s02 := s01.app ex.stp
          have r2 := r1.ext ex
          cases k with
          | false => rw [if_neg Bool.false_ne_true]; exact q c2 H2 _ s02 r2 rfl
          | true =>
            rw [if_pos rfl]
            have q : QR cm K n W (HdOk cm K n) Q ρ₀ c₀ H₀ σ ((fe >>= fun z => rd b >>= fun d2 => rd z >>= fun d3 => M.lift (g' d2 d3)) ρ1) := q
            refine he ρ1 c2 σ H2 _ r2 ?_
            rw [M.bind_run] at q
            cases ee : fe ρ1 with
            | exc k ρ' => rw [ee] at q; exact fun c' H' s' r' => q c' H' (s02.trans s') r'
            | bad => rw [ee] at q; exact q
            | ok z ρ3 =>
              rw [ee] at q
              intro c3 H3 w s3 r3 hz
              dsimp only at q
              obtain ⟨d4, e4, q⟩ := rd_bind (P := QR cm K n W (HdOk cm K n) Q ρ₀ c₀ H₀ σ) QR.nobad q
              obtain ⟨d5, e5, q⟩ := rd_bind (P := QR cm K n W (HdOk cm K n) Q ρ₀ c₀ H₀ σ) QR.nobad q
              rw [lift_run] at q
              have p4 := (rd_ok r3 ((hy.stp ex.stp).stp s3.st) e4).2
              have p5 := (rd_ok r3 hz e5).2
              cases eg' : g' d4 d5 with
              | none => rw [eg'] at q; exact q.elim
              | some hh =>
                rw [eg'] at q
                exact h2 c3 H3 d4 d5 y w hh Q p4 p5 eg' fun c4 H4 v4 ex4 hv4 => q c4 H4 v4 ((s02.trans s3).app ex4.stp) (r3.ext ex4) (hv4.hd (s02.trans s3).st)
        | _ => exact q.elim
theorem ve_chain {op op' : CmpOp} {r r' : R2} {g g' : D → D → Option Hd} {a b e : Expr} {ta tb te : TE} {fa fb fe : M Hd} {pos : Pos} (ho : OpR X (compareOp op) r) (h1 : OpS cm X.K X.N.length r g) (ho' : OpR X (compareOp op') r') (h2 : OpS cm X.K X.N.length r' g')
    (ha : VE cm X W a ta fa) (hb : VE cm X W b tb fb) (he : VE cm X W e te fe) (hm : lastMarks [op, op'] [b, e] = false := by with_unfolding_all rfl) : VE cm X W (.Compare a [op, op'] [b, e] pos) (tChain r r' ta tb te) (eChain g g' fa fb fe) :=
  ⟨pe_chain ho ho' ha.pe hb.pe he.pe hm, sem_chain h1 h2 ha.sem hb.sem he.sem⟩
theorem vt_chain {op op' : CmpOp} {r r' : R2} {g g' : D → D → Option Hd} {a b e : Expr} {ta tb te : TE} {fa fb fe : M Hd} {pos : Pos} (ho : OpR X (compareOp op) r) (h1 : OpS cm X.K X.N.length r g) (ho' : OpR X (compareOp op') r') (h2 : OpS cm X.K X.N.length r' g')
    (ha : VE cm X W a ta fa) (hb : VE cm X W b tb fb) (he : VE cm X W e te fe) (hm : lastMarks [op, op'] [b, e] = false := by with_unfolding_all rfl) : VT cm X W (.Compare a [op, op'] [b, e] pos) (tTest (tChain r r' ta tb te)) (eTest (eChain g g' fa fb fe)) :=
  ⟨pt_chain ho ho' ha.pe hb.pe he.pe hm, sem_test (sem_chain h1 h2 ha.sem hb.sem he.sem)⟩

/-! ### a name's own list changed -/
theorem Rep.mut {ρ : List S} {σ : St} {i : Nat} {a : Addr} {d d' : D} {o : HO} (r : Rep cm K n c H ρ σ) (hs : ρ[i]? = some (.own d)) (ha : σ[i]? = some (some (.ref a))) (hc : c a = i + 1) (h : Cont cm K c (upd H a o) a d') :
    Rep cm K n c (upd H a o) (ρ.set i (.own d')) σ := by
  have hi : i < n := by rw [← r.len]; exact (List.getElem?_eq_some_iff.mp hs).1
  refine ⟨by rw [List.length_set]; exact r.len, r.lenσ, fun j s q => ?_⟩
  by_cases hj : i = j
  · subst hj
    rw [List.getElem?_set_self (by rw [r.len]; exact hi)] at q
    cases q
    exact ⟨_, ha, a, rfl, hc, h⟩
  · rw [List.getElem?_set_ne hj] at q
    obtain ⟨v, h1, h2⟩ := r.at_ j s q
    refine ⟨v, h1, h2.keep (gz_write (by omega)) (fun b o h => ?_) fun b o e h => ⟨rfl, by rw [upd_ne (fun q => by rw [q] at e; omega)]; exact h⟩⟩
    obtain ⟨z1, z2⟩ := Gb.to h
    exact Gb.of z1 (by rw [upd_ne (fun e => by rw [e] at z1; omega)]; exact z2)
theorem Stp.mut {c' : Col} {H' : Hp} {a : Addr} {o u : HO} (s : Stp n c c' H H') (ha : H a = some u) (h1 : c a ≠ 0) (h2 : c a ≤ n) : Stp n c c' H (upd H' a o) := fun b v h => by
  by_cases e : b = a
  · subst e
    exact ⟨⟨o, upd_same⟩, fun q => absurd q h1, fun q => absurd q (by omega)⟩
  · rw [upd_ne e]; exact s b v h
theorem Stp.mutN {c' : Col} {H' : Hp} {a : Addr} {o : HO} (s : Stp n c c' H H') (h1 : c' a ≠ 0) (h2 : c' a ≤ n) : Stp n c c' H (upd H' a o) := fun b v h => by
  obtain ⟨k1, k2, k3⟩ := s b v h
  by_cases e : b = a
  · subst e
    exact ⟨⟨o, upd_same⟩, fun q => absurd (k2 q).1 h1, fun q => absurd (k3 q).1 (by omega)⟩
  · rw [upd_ne e]; exact ⟨k1, k2, k3⟩
theorem Kq.own {ρ₀ ρ : List S} {i : Nat} {d : D} (k : Kq ρ₀ ρ) : Kq ρ₀ (ρ.set i (.own d)) := fun j e h => k j e ((Kp.set1 (σ := ([] : St)) (s := S.own d) rfl) j e h).1
/-- the list at a name of its own -/
def ownL : S → Option (List D) | .own (.lst xs) => some xs | _ => none
theorem ownL_ok {s : S} {xs : List D} (h : ownL s = some xs) : s = .own (.lst xs) := by
  cases s with
  | own d => cases d with
    | lst ys => cases h; rfl
    | _ => cases h
  | _ => cases h
def getOwn (i : Nat) : M (List D) := fun ρ => match ownL (at_ ρ i) with | some xs => .ok xs ρ | none => .bad
def setOwn (i : Nat) (xs : List D) : M Unit := fun ρ => .ok () (ρ.set i (.own (.lst xs)))
theorem getOwn_ok {ρ : List S} {σ : St} {i : Nat} (r : Rep cm K n c H ρ σ) : (getOwn i ρ = .bad) ∨ ∃ xs a vs, getOwn i ρ = .ok xs ρ ∧ i < n ∧ ρ[i]? = some (.own (.lst xs)) ∧ σ[i]? = some (some (.ref a)) ∧ c a = i + 1 ∧ H a = some (.lst vs) ∧ DenL cm K (Gz c H) xs vs := by
  unfold getOwn
  cases q : ownL (at_ ρ i) with
  | none => exact .inl rfl
  | some xs =>
    have e := ownL_ok q
    have hs := at_some e (fun z => S.noConfusion z)
    obtain ⟨v, hv, a, e1, e2, vs, e3, e4⟩ := r.at_ i _ hs
    subst e1
    exact .inr ⟨xs, a, vs, rfl, by rw [← r.len]; exact (List.getElem?_eq_some_iff.mp hs).1, hs, hv, e2, e3, e4⟩
/-- the name's own list, read and perhaps changed, as the last deed of an expression -/
theorem own_end {ρ₀ ρ : List S} {σ : St} {c₀ : Col} {H₀ : Hp} {i : Nat} {a : Addr} {xs ys : List D} {vs us : List V} {h : Hd} {v : V} {Q : VK} (s0 : Stq n ρ₀ ρ c₀ c H₀ H) (r : Rep cm K n c H ρ σ) (hs : ρ[i]? = some (.own (.lst xs))) (ha : σ[i]? = some (some (.ref a))) (hc : c a = i + 1) (hi : i < n)
    (hH : H a = some (.lst vs)) (dl : DenL cm K (Gz c H) ys us) (hv : ∀ c H, (∀ b o, Gz c H b = some o → True) → True) (q : QR cm K n W (HdOk cm K n) Q ρ₀ c₀ H₀ σ (.ok h (ρ.set i (.own (.lst ys))))) (hd : HdOk cm K n H₀ c (upd H a (.lst us)) σ h v) : Q v (upd H a (.lst us)) := by
  refine q c _ v ⟨s0.st.mutN (by omega) (by omega), s0.kq.own⟩ ?_ hd
  exact r.mut hs ha hc ⟨us, upd_same, DenL.mono (gz_write (by omega)) _ _ dl⟩
def eAppend (i : Nat) (f : M Hd) : M Hd := getOwn i >>= fun _ => f >>= fun h => fz h >>= fun d => getOwn i >>= fun xs => guardM (decide (xs.length < SLine)) (setOwn i (xs ++ [d]) >>= fun _ => pure (.val .non))
theorem ve_append (i : Nat) {x : Str} {e : Expr} {te : TE} {f : M Hd} {p apos pos : Pos} (h : VE cm X W e te f) (hN : X.N[i]? = some x := by rfl) (hv : Vis X.env.scope x := by first | exact Or.inl rfl | exact Or.inr (Or.inl rfl) | exact Or.inr (Or.inr rfl)) (hd : (x == ("__debug__" : Str)) = false := by decide)
    (hcd : (x == ("__classdict__" : Str)) = false := by decide)
    (hpe : PE X (.Call (.Attribute (.Name x p) "append" apos) [e] [] pos) (tBM X.K "list" rAppend (tVar i) (tCons te tNil))) : VE cm X W (.Call (.Attribute (.Name x p) "append" apos) [e] [] pos) (tBM X.K "list" rAppend (tVar i) (tCons te tNil)) (eAppend i f) := ⟨hpe, by
  intro ρ c σ H Q r q
  unfold eAppend at q
  rw [M.bind_run] at q
  rcases getOwn_ok (i := i) r with e | ⟨xs, a, vs, e, hi, hs, ha, hc, hH, dl⟩
  · rw [e] at q; exact q.elim
  rw [e] at q
  refine ⟨_, ha, .inl ⟨rfl, vs, SqL.of hH⟩, ?_⟩
  refine h.sem ρ c σ H _ r ?_
  dsimp only at q
  rw [M.bind_run] at q
  cases ef : f ρ with
  | exc k ρ' => rw [ef] at q; exact q
  | bad => rw [ef] at q; exact q
  | ok hh ρ1 =>
    rw [ef] at q
    intro c1 H1 y s1 r1 hy
    dsimp only at q
    rw [M.bind_run] at q
    rcases fz_cases hh ρ1 with ⟨d, ρ2, ez⟩ | ez
    case inr => rw [ez] at q; exact q.elim
    rw [ez] at q
    dsimp only at q
    obtain ⟨c2, s2, r2, dd, g2⟩ := fz_ok s1 r1 hy ez
    rw [M.bind_run] at q
    rcases getOwn_ok (i := i) r2 with e2 | ⟨xs2, a2, vs2, e2, hi2, hs2, ha2, hc2, hH2, dl2⟩
    · rw [e2] at q; exact q.elim
    rw [e2] at q
    dsimp only at q
    rw [ha] at ha2
    cases ha2
    have hl := dl2.length
    by_cases hz : xs2.length < SLine
    case neg => simp only [guardM, decide_eq_false hz, Bool.false_eq_true, if_false] at q; exact q.elim
    simp only [guardM, decide_eq_true hz, if_true] at q
    refine ⟨a, vs2, y, rfl, rfl, hH2, Nat.lt_of_lt_of_le (by omega) sline, ?_⟩
    exact own_end (h := .val .non) (v := .non) s2 r2 hs2 ha hc2 hi hH2 (dl2.append (es := [d]) (us := [y]) ⟨y, [], rfl, dd, rfl⟩) (fun _ _ _ => trivial) q rfl⟩
/-- xs.pop() -/
def ePop (i : Nat) : M Hd := getOwn i >>= fun xs => M.lift xs.getLast? >>= fun d => setOwn i xs.dropLast >>= fun _ => pure (.val d)
theorem DenL.last {G : Hp} {xs : List D} {vs : List V} (h : DenL cm K G xs vs) : DenL cm K G xs.dropLast vs.dropLast := by
  rw [List.dropLast_eq_take, List.dropLast_eq_take, h.length]; exact h.take _
theorem ve_pop (i : Nat) {x : Str} {p apos pos : Pos} (hpe : PE X (.Call (.Attribute (.Name x p) "pop" apos) [] [] pos) (tBM0 X.K "list" rPop (tVar i))) : VE cm X W (.Call (.Attribute (.Name x p) "pop" apos) [] [] pos) (tBM0 X.K "list" rPop (tVar i)) (ePop i) := ⟨hpe, by
  intro ρ c σ H Q r q
  unfold ePop at q
  rw [M.bind_run] at q
  rcases getOwn_ok (i := i) r with e | ⟨xs, a, vs, e, hi, hs, ha, hc, hH, dl⟩
  · rw [e] at q; exact q.elim
  rw [e] at q
  refine ⟨_, ha, .inl ⟨rfl, vs, SqL.of hH⟩, ?_⟩
  dsimp only at q
  rw [M.bind_run, lift_run] at q
  have hl := dl.length
  cases ez : xs.getLast? with
  | none => rw [ez] at q; exact q.elim
  | some d =>
    rw [ez] at q
    rw [List.getLast?_eq_getElem?] at ez
    obtain ⟨v, hv, dv⟩ := dl.get ez
    refine ⟨a, vs, v, rfl, rfl, hH, by rw [← hl]; exact hv, ?_⟩
    exact own_end (h := .val d) (v := v) Stq.refl r hs ha hc hi hH dl.last (fun _ _ _ => trivial) q (Den.mono (gz_write (by omega)) _ _ dv)⟩
/-- xs.extend(ys) -/
def lst? : D → Option (List D) | .lst xs => some xs | _ => none
def eExtend (i : Nat) (f : M Hd) : M Hd := getOwn i >>= fun _ => f >>= fun h => rd h >>= fun d => M.lift (lst? d) >>= fun ys => getOwn i >>= fun xs => guardM (decide (xs.length + ys.length ≤ SLine)) (setOwn i (xs ++ ys) >>= fun _ => pure (.val .non))
theorem ve_extend (i : Nat) {x : Str} {e : Expr} {te : TE} {f : M Hd} {p apos pos : Pos} (h : VE cm X W e te f) (hpe : PE X (.Call (.Attribute (.Name x p) "extend" apos) [e] [] pos) (tBM X.K "list" rExtend (tVar i) (tCons te tNil))) :
    VE cm X W (.Call (.Attribute (.Name x p) "extend" apos) [e] [] pos) (tBM X.K "list" rExtend (tVar i) (tCons te tNil)) (eExtend i f) := ⟨hpe, by
  intro ρ c σ H Q r q
  unfold eExtend at q
  rw [M.bind_run] at q
  rcases getOwn_ok (i := i) r with e | ⟨xs, a, vs, e, hi, hs, ha, hc, hH, dl⟩
  · rw [e] at q; exact q.elim
  rw [e] at q
  refine ⟨_, ha, .inl ⟨rfl, vs, SqL.of hH⟩, ?_⟩
  refine h.sem ρ c σ H _ r ?_
  dsimp only at q
  rw [M.bind_run] at q
  cases ef : f ρ with
  | exc k ρ' => rw [ef] at q; exact q
  | bad => rw [ef] at q; exact q
  | ok hh ρ1 =>
    rw [ef] at q
    intro c1 H1 y s1 r1 hy
    dsimp only at q
    obtain ⟨d, ed, q⟩ := rd_bind (P := QR cm X.K X.N.length W (HdOk cm X.K X.N.length) Q ρ c H σ) QR.nobad q
    have dr := (rd_ok r1 hy ed).2
    rw [M.bind_run, lift_run] at q
    cases d with
    | lst ys =>
      obtain ⟨b, us, e3, hB, dl3⟩ := dr
      have q : QR cm X.K X.N.length W (HdOk cm X.K X.N.length) Q ρ c H σ ((getOwn i >>= fun xs => guardM (decide (xs.length + ys.length ≤ SLine)) (setOwn i (xs ++ ys) >>= fun _ => pure (.val .non))) ρ1) := q
      rw [M.bind_run] at q
      rcases getOwn_ok (i := i) r1 with e2 | ⟨xs2, a2, vs2, e2, hi2, hs2, ha2, hc2, hH2, dl2⟩
      · rw [e2] at q; exact q.elim
      rw [e2] at q
      dsimp only at q
      rw [ha] at ha2
      cases ha2
      have hl := dl2.length
      have hl3 := dl3.length
      by_cases hz : xs2.length + ys.length ≤ SLine
      case neg => simp only [guardM, decide_eq_false hz, Bool.false_eq_true, if_false] at q; exact q.elim
      simp only [guardM, decide_eq_true hz, if_true] at q
      refine ⟨a, b, vs2, us, rfl, by rw [e3], hH2, hB, sline_str (by omega), ?_⟩
      exact own_end (h := .val .non) (v := .non) s1 r1 hs2 ha hc2 hi hH2 (dl2.append dl3) (fun _ _ _ => trivial) q rfl
    | _ => exact q.elim⟩
/-- xs[i] = e -/
def sSetIx (i : Nat) (fj fe : M Hd) : M Fl := fe >>= fun h => fz h >>= fun d => getOwn i >>= fun _ => fj >>= fun hj => rd hj >>= fun dj => M.lift (int? dj) >>= fun k => getOwn i >>= fun xs => M.lift (ixN xs.length k) >>= fun m => setOwn i (xs.set m d) >>= fun _ => pure .nx
theorem vs_setIx (i : Nat) {x : Str} {e ej : Expr} {te tj : TE} {f fj : M Hd} {p p2 pos : Pos} (he : VE cm X W e te f) (hj : VE cm X W ej tj fj) (hpe : PS X (.Assign [.Subscript (.Name x p) ej p2] e pos) (tAsg te (gSub (tVar i) tj rSetL))) :
    VS cm X W (.Assign [.Subscript (.Name x p) ej p2] e pos) (tAsg te (gSub (tVar i) tj rSetL)) (sSetIx i fj f) := ⟨hpe, by
  intro ρ c σ H Dn r q
  unfold sSetIx at q
  refine sem_in he.sem r q fun a ρ1 c1 H1 y s1 r1 hy q1 => ?_
  rw [M.bind_run] at q1
  rcases fz_cases a ρ1 with ⟨d, ρ2, ez⟩ | ez
  case inr => rw [ez] at q1; exact q1.elim
  rw [ez] at q1
  dsimp only at q1
  obtain ⟨c2, s2, r2, dd, g2⟩ := fz_ok s1 r1 hy ez
  rw [M.bind_run] at q1
  rcases getOwn_ok (i := i) r2 with e0 | ⟨xs0, ad, vs0, e0, hi0, hs0, had, hc0, hH0, dl0⟩
  · rw [e0] at q1; exact q1.elim
  rw [e0] at q1
  dsimp only at q1
  -- the name is read ahead of the index
  have main : tj σ H1 fun z H2 => rSetL (.ref ad) z y H2 fun H3 => Dn.nx σ H3 := by
    refine hj.sem ρ2 c2 σ H1 _ r2 ?_
    rw [M.bind_run] at q1
    cases ef : fj ρ2 with
    | bad => rw [ef] at q1; exact q1.elim
    | exc k ρ' => rw [ef] at q1; exact fun c' H' s' r' => q1 c' σ H' (s2.trans s').st (s2.trans s').kp r'
    | ok hh ρ3 =>
      rw [ef] at q1
      intro c3 H3 z s3 r3 hz
      dsimp only at q1
      obtain ⟨dj, ed, q1⟩ := rd_bind (P := QS cm X.K X.N.length W Dn ρ σ c H) (fun h => h) q1
      have dr := (rd_ok r3 hz ed).2
      rw [M.bind_run, lift_run] at q1
      cases dj with
      | int k =>
        have q1 : QS cm X.K X.N.length W Dn ρ σ c H ((getOwn i >>= fun xs => M.lift (ixN xs.length k) >>= fun m => setOwn i (xs.set m d) >>= fun _ => pure .nx) ρ3) := q1
        rw [M.bind_run] at q1
        rcases getOwn_ok (i := i) r3 with e2 | ⟨xs2, a2, vs2, e2, hi2, hs2, ha2, hc2, hH2, dl2⟩
        · rw [e2] at q1; exact q1.elim
        rw [e2] at q1
        dsimp only at q1
        rw [had] at ha2
        cases ha2
        rw [M.bind_run, lift_run] at q1
        have hl := dl2.length
        cases em : ixN xs2.length k with
        | none => rw [em] at q1; exact q1.elim
        | some m =>
          rw [em] at q1
          have q1 : QN cm X.K X.N.length Dn.nx ρ σ c H (ρ3.set i (.own (.lst (xs2.set m d)))) := q1
          refine ⟨ad, vs2, k, m, rfl, dr, hH2, by rw [← hl]; exact em, ?_⟩
          have s03 := s2.trans s3
          refine q1 c3 σ _ (s03.st.mutN (by omega) (by omega)) ?_ ?_
          · exact (Stq.mk (s03.st.mutN (by omega) (by omega)) s03.kq.own : Stq X.N.length ρ _ c c3 H (upd H3 ad (.lst (vs2.set m y)))).kp
          · exact r3.mut hs2 had hc2 ⟨vs2.set m y, upd_same, DenL.mono (gz_write (by omega)) _ _ (dl2.set m (Den.mono s3.st.gz _ _ dd))⟩
      | _ => exact q1.elim
  exact ⟨_, had, main⟩⟩
end
end Vi

/-! ## ViPar -/
set_option Elab.async false
set_option linter.all false
set_option maxRecDepth 100000
set_option maxHeartbeats 400000
namespace Vi
open PySem L2

/-! ### a, b = x, y -/
def isNew : Hd → Bool | .new _ => true | _ => false
def rcDist : Hd → List Hd → Bool
  | .rc j _, hs => hs.all fun g => match g with | .rc k _ => k != j | _ => true
  | _, _ => true
def notSlot : Hd → Bool | .slot _ => false | _ => true
/-- settled values, no two new things in one place -/
def HpOk (cm : Nat → Addr) (K : PySem.W.Frag) (n : Nat) (H₀ : Hp) (c : Col) (H : Hp) (σ : St) : List Hd → List V → Prop
  | [], vs => vs = []
  | h :: hs, vs => ∃ v r, vs = v :: r ∧ HdOk cm K n H₀ c H σ h v ∧ (notSlot h = true ∧ rcDist h hs = true) ∧ (isNew h = true → ∀ (j : Nat) (g : Hd) (u : V), hs[j]? = some g → isNew g = true → r[j]? = some u → v ≠ u) ∧ HpOk cm K n H₀ c H σ hs r
structure VP (cm : Nat → Addr) (X : Cx) (W : WX) (es : List Expr) (ta : TA) (f : M (List Hd)) : Prop where
  pe : PA X es ta
  sem : Sem cm X.K X.N.length W (HpOk cm X.K X.N.length) ta f
/-- a list, a dict of a name's own stands still when it is handed on -/
def stl : Hd → M Hd
  | .val d => pure (.val d)
  | .new d => pure (.new d)
  | .rc j d => pure (.rc j d)
  | .slot i => fz (.slot i) >>= fun d => pure (.val d)
def pCons (a : M Hd) (r : M (List Hd)) : M (List Hd) := a >>= fun x => stl x >>= fun h => r >>= fun hs => guardM (rcDist h hs) (pure (h :: hs))
def puts : List Nat → List Hd → M Unit
  | [], [] => pure ()
  | i :: is, h :: hs => put i h >>= fun _ => puts is hs
  | _, _ => M.bad
def sPar (is : List Nat) (f : M (List Hd)) : M Fl := f >>= fun hs => puts is hs >>= fun _ => pure .nx

section
variable {cm : Nat → Addr} {X : Cx} {W : WX} {K : PySem.W.Frag} {n : Nat} {c : Col} {H : Hp}
theorem HpOk.stp {c c' : Col} {H H' H₀ : Hp} {σ : St} (s : Stp n c c' H H') : ∀ {hs : List Hd} {vs : List V}, HpOk cm K n H₀ c H σ hs vs → HpOk cm K n H₀ c' H' σ hs vs
  | [], _, h => h
  | _ :: _, _, ⟨v, r, e, h1, h2, h3, h4⟩ => ⟨v, r, e, h1.stp s, h2, h3, HpOk.stp s h4⟩
theorem HpOk.base {c₀ c₁ c : Col} {H₀ H₁ H : Hp} {σ : St} (s : Stp n c₀ c₁ H₀ H₁) : ∀ {hs : List Hd} {vs : List V}, HpOk cm K n H₁ c H σ hs vs → HpOk cm K n H₀ c H σ hs vs
  | [], _, h => h
  | _ :: _, _, ⟨v, r, e, h1, h2, h3, h4⟩ => ⟨v, r, e, hd_stab.2 _ _ _ _ _ _ _ _ _ s h1, h2, h3, HpOk.base s h4⟩
theorem HpOk.new_none {H₀ : Hp} {σ : St} : ∀ {hs : List Hd} {vs : List V}, HpOk cm K n H₀ c H σ hs vs → ∀ (j : Nat) (g : Hd) (u : V), hs[j]? = some g → isNew g = true → vs[j]? = some u → ∃ a, u = .ref a ∧ H₀ a = none
  | [], _, h => fun j g u e => by simp at e
  | h :: hs, _, ⟨v, r, e, h1, h2, h3, h4⟩ => fun j g u e1 e2 e3 => by
    subst e
    cases j with
    | zero =>
      have e1 : h = g := by simpa using e1
      have e3 : v = u := by simpa using e3
      subst e1 e3
      cases h with
      | new d => obtain ⟨a, q1, q2, _⟩ := h1; exact ⟨a, q1, q2⟩
      | _ => cases e2
    | succ j => exact HpOk.new_none h4 j g u (by simpa using e1) e2 (by simpa using e3)
theorem HpOk.new_col {H₀ : Hp} {σ : St} : ∀ {hs : List Hd} {vs : List V}, HpOk cm K n H₀ c H σ hs vs → ∀ (j : Nat) (g : Hd) (u : V), hs[j]? = some g → isNew g = true → vs[j]? = some u → ∀ b, u = .ref b → c b = n + 1
  | [], _, h => fun j g u e => by simp at e
  | h :: hs, _, ⟨v, r, e, h1, h2, h3, h4⟩ => fun j g u e1 e2 e3 b eb => by
    subst e
    cases j with
    | zero =>
      have e1 : h = g := by simpa using e1
      have e3 : v = u := by simpa using e3
      subst e1 e3
      cases h with
      | new d => obtain ⟨a, q1, q2, q3, _⟩ := h1; rw [q1] at eb; cases eb; exact q3
      | _ => cases e2
    | succ j => exact HpOk.new_col h4 j g u (by simpa using e1) e2 (by simpa using e3) b eb
theorem stl_ok {ρ₀ ρ ρ' : List S} {σ : St} {c₀ : Col} {H₀ : Hp} {h h' : Hd} {v : V} (s : Stq n ρ₀ ρ c₀ c H₀ H) (r : Rep cm K n c H ρ σ) (x : HdOk cm K n H₀ c H σ h v) (e : stl h ρ = .ok h' ρ') :
    ∃ c', Stq n ρ₀ ρ' c₀ c' H₀ H ∧ Rep cm K n c' H ρ' σ ∧ HdOk cm K n H₀ c' H σ h' v ∧ notSlot h' = true := by
  cases h with
  | val d => cases e; exact ⟨c, s, r, x, rfl⟩
  | new d => cases e; exact ⟨c, s, r, x, rfl⟩
  | rc j d => cases e; exact ⟨c, s, r, x, rfl⟩
  | slot i =>
    have e : (fz (.slot i) >>= fun d => pure (Hd.val d)) ρ = .ok h' ρ' := e
    rw [M.bind_run] at e
    rcases fz_cases (.slot i) ρ with ⟨d, ρ2, ez⟩ | ez
    · rw [ez] at e
      cases e
      obtain ⟨c', s', r', d', g⟩ := fz_ok s r x ez
      exact ⟨c', s', r', d', rfl⟩
    · rw [ez] at e; cases e
theorem stl_cases (h : Hd) (ρ : List S) : (∃ h' ρ', stl h ρ = .ok h' ρ') ∨ stl h ρ = .bad := by
  cases h with
  | val d => exact .inl ⟨_, _, rfl⟩
  | new d => exact .inl ⟨_, _, rfl⟩
  | rc j d => exact .inl ⟨_, _, rfl⟩
  | slot i =>
    show (∃ h' ρ', (fz (.slot i) >>= fun d => pure (Hd.val d)) ρ = .ok h' ρ') ∨ (fz (.slot i) >>= fun d => pure (Hd.val d)) ρ = .bad
    rw [M.bind_run]
    rcases fz_cases (.slot i) ρ with ⟨d, ρ2, ez⟩ | ez
    · rw [ez]; exact .inl ⟨_, _, rfl⟩
    · rw [ez]; exact .inr rfl
theorem vp_nil : VP cm X W [] tNil eNil := ⟨pa_nil, sem_pure (fun _ _ _ q => q) fun _ _ _ => rfl⟩
theorem vp_cons {e : Expr} {es : List Expr} {te : TE} {t : TA} {f : M Hd} {g : M (List Hd)} (h : VE cm X W e te f) (hr : VP cm X W es t g) (hs : starEach (e :: es) X.env = (false, eval e X.env) :: starEach es X.env := by rfl) :
    VP cm X W (e :: es) (tCons te t) (pCons f g) := ⟨pa_cons h.pe hr.pe hs, by
  refine Sem.bind (u := fun x σ H1 Q => t σ H1 fun xs H2 => Q (x :: xs) H2) h.sem ?_
  intro ρ₀ c₀ H₀ a x ρ c σ H Q s0 r0 hx q
  dsimp only at q
  rw [M.bind_run] at q
  rcases stl_cases a ρ with ⟨h', ρ1, es⟩ | es
  case inr => rw [es] at q; exact q.elim
  rw [es] at q
  dsimp only at q
  obtain ⟨c1, s1, r1, hx1, hn⟩ := stl_ok s0 r0 hx es
  refine hr.sem ρ1 c1 σ H _ r1 ?_
  rw [M.bind_run] at q
  cases e : g ρ1 with
  | exc k ρ' => rw [e] at q; exact fun c' H' s' r' => q c' H' (s1.trans s') r'
  | bad => rw [e] at q; exact q
  | ok b ρ' =>
    rw [e] at q
    intro c2 H2 y s2 r2 hy
    have q : QR cm X.K X.N.length W (HpOk cm X.K X.N.length) Q ρ₀ c₀ H₀ σ ((if rcDist h' b = true then (pure (h' :: b) : M (List Hd)) ρ' else .bad)) := q
    by_cases hrd : rcDist h' b = true
    case neg => rw [if_neg hrd] at q; exact q.elim
    rw [if_pos hrd] at q
    refine q c2 H2 _ (s1.trans s2) r2 ⟨x, y, rfl, hx1.stp s2.st, ⟨hn, hrd⟩, fun hnew j gg u e1 e2 e3 => ?_, hy.base s1.st⟩
    obtain ⟨b', q1, q2⟩ := hy.new_none j gg u e1 e2 e3
    cases h' with
    | new d =>
      obtain ⟨a', q3, _, _, q4⟩ := hx1
      obtain ⟨o, q5⟩ := q4.some_
      intro z
      rw [q3, q1] at z
      cases z
      rw [q2] at q5; cases q5
    | _ => cases hnew⟩
def setsO : List Nat → List V → St → St
  | i :: is, v :: vs, σ => setsO is vs (σ.set i (some v))
  | _, _, σ => σ
theorem puts_in : ∀ {is : List Nat} {hs : List Hd} {vs : List V} {ρ₀ ρ : List S} {σ₀ σ : St} {c₀ c : Col} {H₀ H : Hp} {Dn : Ends}, (∀ i ∈ is, i < n) → Stp n c₀ c H₀ H → Kp ρ₀ ρ σ₀ σ → Rep cm K n c H ρ σ → HpOk cm K n H₀ c H σ hs vs →
    QS cm K n W Dn ρ₀ σ₀ c₀ H₀ ((puts is hs >>= fun _ => (pure .nx : M Fl)) ρ) → is.length = vs.length ∧ Dn.nx (setsO is vs σ) H
  | [], [], vs, ρ₀, ρ, σ₀, σ, c₀, c, H₀, H, Dn, hi, s, k, r, h, q => by
    cases (show vs = [] from h)
    exact ⟨rfl, q c σ H s k r⟩
  | [], g :: gs, vs, ρ₀, ρ, σ₀, σ, c₀, c, H₀, H, Dn, hi, s, k, r, h, q => q.elim
  | i :: is, [], vs, ρ₀, ρ, σ₀, σ, c₀, c, H₀, H, Dn, hi, s, k, r, h, q => q.elim
  | i :: is, g :: gs, vs, ρ₀, ρ, σ₀, σ, c₀, c, H₀, H, Dn, hi, s, k, r, ⟨v, t, e, h1, h2, h3, h4⟩, q => by
    subst e
    have q : QS cm K n W Dn ρ₀ σ₀ c₀ H₀ (((put i g >>= fun _ => puts is gs) >>= fun _ => (pure .nx : M Fl)) ρ) := q
    rw [M.bind_run, M.bind_run] at q
    obtain ⟨ρ1, c1, ep, s1, r1, k1, keep⟩ : ∃ ρ1 c1, put i g ρ = .ok () ρ1 ∧ Stp n c₀ c1 H₀ H ∧ Rep cm K n c1 H ρ1 (σ.set i (some v)) ∧ Kp ρ ρ1 σ (σ.set i (some v)) ∧ HpOk cm K n H₀ c1 H (σ.set i (some v)) gs t := by
      have key : ∀ (c1 : Col), (∀ b o, Gz c H b = some o → Gz c1 H b = some o) → ∀ {hs : List Hd} {vs : List V}, (∀ (j : Nat) (g : Hd) (u : V), hs[j]? = some g → isNew g = true → vs[j]? = some u → ∀ b, u = .ref b → c1 b = c b) →
          (∀ (j k : Nat) (d : D), hs[j]? = some (.rc k d) → ∀ b, c b = n + 2 + k ∧ H₀ b = none → c1 b = c b) → HpOk cm K n H₀ c H σ hs vs → HpOk cm K n H₀ c1 H (σ.set i (some v)) hs vs := by
        intro c1 gz hs
        induction hs with
        | nil => exact fun _ _ h => h
        | cons a as ih =>
          rintro vs hc hc2 ⟨v, r, e, h1, h2, h3, h4⟩
          subst e
          refine ⟨v, r, rfl, ?_, h2, h3, ih (fun j g u e1 e2 e3 => hc (j + 1) g u (by simpa using e1) e2 (by simpa using e3)) (fun j k d e1 => hc2 (j + 1) k d (by simpa using e1)) h4⟩
          cases a with
          | slot j => cases h2.1
          | val d => exact Den.mono gz _ _ h1
          | rc k d => exact ⟨h1.1, h1.2.mono gz fun b o p q => ⟨⟨(hc2 0 k d rfl b p).trans p.1, p.2⟩, q⟩⟩
          | new d =>
            obtain ⟨b, e1, e2, e3, e4⟩ := h1
            exact ⟨b, e1, e2, by rw [hc 0 (.new d) v rfl rfl rfl b e1]; exact e3, e4.keep gz fun o q => q⟩
      cases g with
      | slot j => cases h2.1
      | val d =>
        obtain ⟨c1, s1, r1, k1⟩ := put_ok (h := .val d) (ρ' := ρ.set i (.fr d)) s r h1 (hi i List.mem_cons_self) rfl
        exact ⟨_, c, rfl, s, r.store ⟨v, rfl, h1⟩, k1, key c (fun _ _ h => h) (fun _ _ _ _ _ _ _ _ => rfl) (fun _ _ _ _ _ _ => rfl) h4⟩
      | rc m d =>
        obtain ⟨_, _, _, k1⟩ := put_ok (h := .rc m d) (ρ' := ρ.set i (.rc false d)) s r h1 (hi i List.mem_cons_self) rfl
        obtain ⟨hm, x⟩ := h1
        have gz : ∀ b o, Gz c H b = some o → Gz (csetP c (fun b => c b = n + 2 + m ∧ H₀ b = none) (i + 1)) H b = some o := gz_recolP fun b p => by omega
        refine ⟨_, csetP c (fun b => c b = n + 2 + m ∧ H₀ b = none) (i + 1), rfl, s.recolP (fun b p => p.2), (r.recolP (fun b p => by omega)).store ⟨v, rfl, x.mono gz fun b o p q => ⟨csetP_in p, q⟩⟩, k1, key _ gz (fun j g u e1 e2 e3 b eb => ?_) (fun j k d e1 b p => ?_) h4⟩
        · refine csetP_out fun p => ?_
          have := h4.new_col j g u e1 e2 e3 b eb
          omega
        · refine csetP_out fun p' => ?_
          have z := List.all_eq_true.mp h2.2 _ (List.mem_of_getElem? e1)
          have z : (k != m) = true := z
          have z : k ≠ m := by simpa using z
          omega
      | new d =>
        obtain ⟨_, _, _, k1⟩ := put_ok (h := .new d) (ρ' := ρ.set i (.own d)) s r h1 (hi i List.mem_cons_self) rfl
        obtain ⟨a, e, g0, g1, g2⟩ := h1
        have gz : ∀ b o, Gz c H b = some o → Gz (cset c a (i + 1)) H b = some o := gz_recol (by omega)
        subst e
        refine ⟨_, cset c a (i + 1), rfl, s.recol g0, (r.recol (by omega) (by omega)).store ⟨a, rfl, cset_same, g2.keep gz fun o q => q⟩, k1, key _ gz (fun j g u e1 e2 e3 b eb => ?_) (fun j k d e1 b p => ?_) h4⟩
        · exact cset_ne fun z => h3 rfl j g u e1 e2 e3 (by rw [eb, z])
        · exact cset_ne fun z => by rw [z] at p; omega
    rw [ep] at q
    have q2 : QS cm K n W Dn ρ₀ σ₀ c₀ H₀ ((puts is gs >>= fun _ => (pure .nx : M Fl)) ρ1) := q
    obtain ⟨l, q3⟩ := puts_in (fun j hj => hi j (List.mem_cons_of_mem _ hj)) s1 (k.trans k1) r1 keep q2
    exact ⟨by rw [List.length_cons, List.length_cons, l], q3⟩

theorem sem_par2 {i j : Nat} {ta : TA} {f : M (List Hd)} (hi : i < n) (hj : j < n) (h : Sem cm K n W (HpOk cm K n) ta f) : SemS cm K n W (tPar i j ta) (sPar [i, j] f) := fun ρ c σ H Dn r q =>
  sem_in h r q fun a ρ' c' H' x s r' hx q' => by
    obtain ⟨l, q3⟩ := puts_in (is := [i, j]) (fun k hk => by simp only [List.mem_cons, List.not_mem_nil, or_false] at hk; omega) s.st s.kp r' hx q'
    match x, l with
    | [v, w], _ => exact ⟨v, w, rfl, q3⟩
theorem sem_par3 {i j k : Nat} {ta : TA} {f : M (List Hd)} (hi : i < n) (hj : j < n) (hk : k < n) (h : Sem cm K n W (HpOk cm K n) ta f) : SemS cm K n W (tPar3 i j k ta) (sPar [i, j, k] f) := fun ρ c σ H Dn r q =>
  sem_in h r q fun a ρ' c' H' x s r' hx q' => by
    obtain ⟨l, q3⟩ := puts_in (is := [i, j, k]) (fun m hm => by simp only [List.mem_cons, List.not_mem_nil, or_false] at hm; omega) s.st s.kp r' hx q'
    match x, l with
    | [u, v, w], _ => exact ⟨u, v, w, rfl, q3⟩
theorem vs_par2 (i j : Nat) {x y : Str} {a b : Expr} {ta : TA} {f : M (List Hd)} {px py pt pos : Pos} {kt k2 pt2} (hc : X.calm = true) (hN : X.N.Nodup) (ha : VP cm X W [a, b] ta f) (hi : X.N[i]? = some x := by rfl) (hj : X.N[j]? = some y := by rfl) (hij : i ≠ j := by decide)
    (hx : X.env.scope.names.lookup x = some .local := by rfl) (hy : X.env.scope.names.lookup y = some .local := by rfl)
    (hw : swappedStores [.Tuple [.Name x px, .Name y py] kt pt] (.Tuple [a, b] k2 pt2) X.env = pure (some [x, y]) := by rfl)
    (hs : swapsWithSole [.Tuple [.Name x px, .Name y py] kt pt] (.Tuple [a, b] k2 pt2) pos.line X.env = pure false := by rfl) :
    VS cm X W (.Assign [.Tuple [.Name x px, .Name y py] kt pt] (.Tuple [a, b] k2 pt2) pos) (tPar i j ta) (sPar [i, j] f) :=
  ⟨ps_par hc hN hi hj hij hx hy ha.pe hw hs, sem_par2 (List.getElem?_eq_some_iff.mp hi).1 (List.getElem?_eq_some_iff.mp hj).1 ha.sem⟩
theorem vs_par3 (i j l : Nat) {x y z : Str} {a b e : Expr} {ta : TA} {f : M (List Hd)} {px py pz pt pos : Pos} {kt k2 pt2} (hc : X.calm = true) (hN : X.N.Nodup) (ha : VP cm X W [a, b, e] ta f) (hi : X.N[i]? = some x := by rfl) (hj : X.N[j]? = some y := by rfl) (hl : X.N[l]? = some z := by rfl)
    (hij : i ≠ j := by decide) (hil : i ≠ l := by decide) (hjl : j ≠ l := by decide)
    (hx : X.env.scope.names.lookup x = some .local := by rfl) (hy : X.env.scope.names.lookup y = some .local := by rfl) (hz : X.env.scope.names.lookup z = some .local := by rfl)
    (hw : swappedStores [.Tuple [.Name x px, .Name y py, .Name z pz] kt pt] (.Tuple [a, b, e] k2 pt2) X.env = pure (some [x, y, z]) := by rfl)
    (hs : swapsWithSole [.Tuple [.Name x px, .Name y py, .Name z pz] kt pt] (.Tuple [a, b, e] k2 pt2) pos.line X.env = pure false := by rfl) :
    VS cm X W (.Assign [.Tuple [.Name x px, .Name y py, .Name z pz] kt pt] (.Tuple [a, b, e] k2 pt2) pos) (tPar3 i j l ta) (sPar [i, j, l] f) :=
  ⟨ps_par3 hc hN hi hj hl hij hil hjl hx hy hz ha.pe hw hs, sem_par3 (List.getElem?_eq_some_iff.mp hi).1 (List.getElem?_eq_some_iff.mp hj).1 (List.getElem?_eq_some_iff.mp hl).1 ha.sem⟩
/-! several names from a tuple that is written beside -/
structure VNs (X : Cx) (is : List Nat) (es : List Expr) (g : TGs) : Prop where
  pe : PGs X es g
  lt : ∀ i ∈ is, i < X.N.length
  eq : ∀ vs σ H Q, is.length = vs.length → Q (setsO is vs σ) H → g vs σ H Q
theorem vns_nil : VNs X [] [] gNil := ⟨pgs_nil, (fun _ h => nomatch h), fun vs σ H Q l q => by
  cases vs with
  | nil => exact ⟨rfl, q⟩
  | cons _ _ => cases l⟩
theorem vns_cons (i : Nat) {is : List Nat} {x : Str} {es : List Expr} {u : TGs} {pos : Pos} (hN : X.N.Nodup) (h : VNs X is es u) (hi : X.N[i]? = some x := by rfl) (hx : Loc X.env.scope x := by first | exact Or.inl rfl | exact Or.inr rfl) (hf : X.fn x = true ∨ X.env.scope.names.lookup x = some .local := by first | exact .inl rfl | exact .inr rfl | assumption)
    (hs : (assignEach (.Name x pos :: es) X.env).map (·.2) = assign (.Name x pos) X.env :: (assignEach es X.env).map (·.2) := by rfl) : VNs X (i :: is) (.Name x pos :: es) (gCons (gName i) u) :=
  ⟨pgs_cons (pg_name hN hi hx hf) h.pe hs, fun j hj => (List.mem_cons.mp hj).elim (fun e => by rw [e]; exact (List.getElem?_eq_some_iff.mp hi).1) (h.lt j), fun vs σ H Q l q => by
    cases vs with
    | nil => cases l
    | cons v vs => exact ⟨v, vs, rfl, h.eq vs _ H Q (by simpa using l) q⟩⟩
theorem vs_asgT {is : List Nat} {ts es : List Expr} {g : TGs} {ta : TA} {f : M (List Hd)} {m : Nat} {kt k2 : Nat} {pt pt2 pos : Pos} (hc : X.calm = true) (hg : VNs X is ts g) (ha : VP cm X W es ta f)
    (hlen : (assignEach ts X.env).length = m := by rfl) (hst : (assignEach ts X.env).findIdx? (·.1) = none := by rfl) (hm : is.length = m := by rfl) (hml : (decide (m ≤ 100)) = true := by rfl)
    (hs : swapsWithSole [.Tuple ts kt pt] (.Tuple es k2 pt2) pos.line X.env = pure false := by rfl) (hw : swappedStores [.Tuple ts kt pt] (.Tuple es k2 pt2) X.env = pure none := by rfl)
    (h1 : (assignEach [.Tuple ts kt pt] X.env).map (·.2) = [assign (.Tuple ts kt pt) X.env] := by rfl) :
    VS cm X W (.Assign [.Tuple ts kt pt] (.Tuple es k2 pt2) pos) (tAsg (tTup ta) (gTup X.K m g)) (sPar is f) := ⟨ps_asg (pe_tup ha.pe) (pg_tup hc hg.pe hlen hst) hs hw h1, fun ρ c σ H Dn r q =>
  sem_in (t := ta) (Q := fun xs H1 => xs.length ≤ sizeLine ∧ ∀ p, H1 p = none → gTup X.K m g (.ref p) σ (upd H1 p (.tup xs)) Dn.nx) ha.sem r q fun a ρ' c' H' x s r' hx q' => by
    -- the tuple that is made on the way
    have two : ∀ p, H' p = none → is.length = x.length ∧ Dn.nx (setsO is x σ) (upd H' p (.tup x)) := fun p hp => by
      have ex : Ext c' (cset c' p (X.N.length + 1)) H' (upd H' p (.tup x)) := Ext.alloc hp
      exact puts_in hg.lt (s.st.trans ex.stp) s.kp (r'.ext ex) (hx.stp ex.stp) q'
    have l : is.length = x.length := by
      have one : ∀ {is : List Nat} {hs : List Hd} {vs : List V} {ρ2 : List S}, HpOk cm X.K X.N.length H c' H' σ hs vs → QS cm X.K X.N.length W Dn ρ σ c H ((puts is hs >>= fun _ => (pure .nx : M Fl)) ρ2) → is.length = vs.length := by
        intro is
        induction is with
        | nil =>
          intro hs vs ρ2 h q
          cases hs with
          | nil => cases (show vs = [] from h); rfl
          | cons _ _ => exact q.elim
        | cons i is ih =>
          intro hs vs ρ2 h q
          cases hs with
          | nil => exact q.elim
          | cons g gs =>
            obtain ⟨v, t, e, _, _, _, h4⟩ := h
            subst e
            have q : QS cm X.K X.N.length W Dn ρ σ c H (((put i g >>= fun _ => puts is gs) >>= fun _ => (pure .nx : M Fl)) ρ2) := q
            rw [M.bind_run, M.bind_run] at q
            rcases put_cases i g ρ2 with ⟨ρ1, ep⟩ | ep
            · rw [ep] at q
              rw [List.length_cons, List.length_cons, ih h4 q]
            · rw [ep] at q; exact q.elim
      exact one hx q'
    have hml' : m ≤ 100 := by simpa using hml
    refine ⟨Nat.le_trans (by omega) (by decide : 100 ≤ sizeLine), fun p hp => ⟨p, x, rfl, SqT.of upd_same, by omega, ?_⟩⟩
    exact hg.eq x σ _ _ l (two p hp).2⟩
/-- a tuple's items from an expression -/
def sUnp (tg : D → M Unit) (f : M Hd) : M Fl := f >>= fun h => fz h >>= fun d => (tg d).nox >>= fun _ => pure .nx
theorem vs_unp {tg e : Expr} {te : TE} {g : TG} {is : List Nat} {f : M Hd} {ft : D → M Unit} {pos : Pos} (he : VE cm X W e te f) (hg : VG cm X is tg g ft) (hs : swapsWithSole [tg] e pos.line X.env = pure false := by rfl) (hw : swappedStores [tg] e X.env = pure none := by rfl)
    (h1 : (assignEach [tg] X.env).map (·.2) = [assign tg X.env] := by rfl) : VS cm X W (.Assign [tg] e pos) (tAsg te g) (sUnp ft f) := ⟨ps_asg he.pe hg.pe hs hw h1, fun ρ c σ H Dn r q =>
  sem_in he.sem r q fun a ρ1 c1 H1 x s1 r1 hx q1 => by
    rw [M.bind_run] at q1
    rcases fz_cases a ρ1 with ⟨d, ρ2, ez⟩ | ez
    case inr => rw [ez] at q1; exact q1.elim
    rw [ez] at q1
    dsimp only at q1
    obtain ⟨c2, s2, r2, dd, g2⟩ := fz_ok s1 r1 hx ez
    refine hg.sem d x ρ2 c2 σ H1 _ r2 dd ?_
    rw [M.bind_run] at q1
    cases eg : ft d ρ2 with
    | bad => simp only [M.nox, eg] at q1; exact q1.elim
    | exc k ρ3 => simp only [M.nox, eg] at q1; exact q1.elim
    | ok _ ρ3 =>
      simp only [M.nox, eg] at q1
      exact fun c' σ' H' s k _ r' => (show QN cm X.K X.N.length Dn.nx ρ σ c H ρ3 from q1) c' σ' H' (s2.st.trans s) (s2.kp.trans k) r'⟩
end
end Vi

/-! ## ViMore -/
set_option Elab.async false
set_option linter.all false
set_option maxRecDepth 100000
set_option maxHeartbeats 400000
namespace Vi
open PySem L2
/-! the rules again, with the written part named by a letter of its own: within a comprehension no trace speaks of its frame -/
theorem pass0At {X : Cx} : ∀ σ, PassesAt (L2.CX X.prog X.w) X σ (WE W0 σ) := fun σ pins H s e s' => passL pins σ H s e s'
theorem o_units {k : Nat} {A : Around} (h : Room k A) : A.units + 64 < cLine := by have := h.un; omega
section
variable {cm : Nat → Addr} {X : Cx} {W : WX} {n : Nat} (K : PySem.W.Frag)
theorem wcmp {op : CmpOp} {r : R2} {g : D → D → Option Hd} {a b : Expr} {ta tb : TE} {fa fb : M Hd} {pos : Pos} (hs : OpS cm K X.N.length r g) (ho : OpR X (compareOp op) r) (hm : behindInMarks op b = false) (ha : VE cm X W a ta fa) (hb : VE cm X W b tb fb) (hK : X.K = K := by rfl) :
    VE cm X W (.Compare a [op] [b] pos) (tOp r ta tb) (eOp g fa fb) := ve_cmp ho (by rw [hK]; exact hs) hm ha hb
theorem wcmpT {op : CmpOp} {r : R2} {g : D → D → Option Hd} {a b : Expr} {ta tb : TE} {fa fb : M Hd} {pos : Pos} (hs : OpS cm K X.N.length r g) (ho : OpR X (compareOp op) r) (hm : behindInMarks op b = false) (ha : VE cm X W a ta fa) (hb : VE cm X W b tb fb) (hK : X.K = K := by rfl) :
    VT cm X W (.Compare a [op] [b] pos) (tTest (tOp r ta tb)) (eTest (eOp g fa fb)) := vt_cmp ho (by rw [hK]; exact hs) hm ha hb
theorem wop {op : Operator} {r : R2} {g : D → D → Option Hd} {a b : Expr} {ta tb : TE} {fa fb : M Hd} {pos : Pos} (hs : OpS cm K X.N.length r g) (ho : OpR X (binaryOp op) r) (ha : VE cm X W a ta fa) (hb : VE cm X W b tb fb) (hK : X.K = K := by rfl) :
    VE cm X W (.BinOp a op b pos) (tOp r ta tb) (eOp g fa fb) := ve_op ho (by rw [hK]; exact hs) ha hb
theorem wchain {op op' : CmpOp} {r r' : R2} {g g' : D → D → Option Hd} {a b e : Expr} {ta tb te : TE} {fa fb fe : M Hd} {pos : Pos} (h1 : OpS cm K X.N.length r g) (h2 : OpS cm K X.N.length r' g') (ho : OpR X (compareOp op) r) (ho' : OpR X (compareOp op') r')
    (ha : VE cm X W a ta fa) (hb : VE cm X W b tb fb) (he : VE cm X W e te fe) (hK : X.K = K := by rfl) (hm : lastMarks [op, op'] [b, e] = false := by with_unfolding_all rfl) : VE cm X W (.Compare a [op, op'] [b, e] pos) (tChain r r' ta tb te) (eChain g g' fa fb fe) :=
  ve_chain ho (by rw [hK]; exact h1) ho' (by rw [hK]; exact h2) ha hb he hm
theorem wchainT {op op' : CmpOp} {r r' : R2} {g g' : D → D → Option Hd} {a b e : Expr} {ta tb te : TE} {fa fb fe : M Hd} {pos : Pos} (h1 : OpS cm K X.N.length r g) (h2 : OpS cm K X.N.length r' g') (ho : OpR X (compareOp op) r) (ho' : OpR X (compareOp op') r')
    (ha : VE cm X W a ta fa) (hb : VE cm X W b tb fb) (he : VE cm X W e te fe) (hK : X.K = K := by rfl) (hm : lastMarks [op, op'] [b, e] = false := by with_unfolding_all rfl) : VT cm X W (.Compare a [op, op'] [b, e] pos) (tTest (tChain r r' ta tb te)) (eTest (eChain g g' fa fb fe)) :=
  vt_chain ho (by rw [hK]; exact h1) ho' (by rw [hK]; exact h2) ha hb he hm
theorem wix (hu : X.A.units + 64 < cLine) {a b : Expr} {ta tb : TE} {fa fb : M Hd} {pos : Pos} (ha : VE cm X W a ta fa) (hb : VE cm X W b tb fb) (hK : X.K = K := by rfl) (hs : PlainIx b := by exact fun _ _ => rfl) : VE cm X W (.Subscript a b pos) (tOp (rIxA K) ta tb) (eOp aIx fa fb) := by
  subst hK; exact ve_ix ha hb hu hs
theorem wslice {e : Expr} {lo hi : Option Expr} {te : TE} {tl th : TO} {f : M Hd} {fl fh : M (Option Int)} {p2 pos : Pos} (h : VE cm X W e te f) (hl : VO cm X W lo tl fl) (hh : VO cm X W hi th fh) (hK : X.K = K := by rfl) :
    VE cm X W (.Subscript e (.Slice lo hi none p2) pos) (tSl (rSl K) te tl th) (eSl f fl fh) := by
  subst hK; exact ve_slice h hl hh
theorem wany {tg l : Expr} {tl : TE} {f : M Hd} (h : VE cm X W l tl f) (hK : X.K = K := by rfl) : VI cm X W tg l (iAny K tl) (itAny f) := by
  subst hK; exact vi_any h
theorem wcb {id : String} {x : Str} {r : List V → Hp → VK → Prop} {g : List D → Option Hd} {e : Expr} {es : List Expr} {t : TA} {f : M (List Hd)} {p pos : Pos} (hs : CallS cm K X.N.length r g) (hc : CallR X (.builtin id) r) (hm : X.mg x = none) (ha : VA cm X W (e :: es) t f) (hK : X.K = K := by rfl)
    (hg : Gl X x := by rfl) (hv : bootBuiltins x = some (.builtin id) := by decide +kernel) (hn : x ≠ "__name__" := by decide) (hdb : (x == ("__debug__" : Str)) = false := by decide)
    (he : starEach (e :: es) X.env = (false, eval e X.env) :: starEach es X.env := by rfl) (hpl : (backTo pos (starEach es X.env)).any (·.1) = false := by rfl) : VE cm X W (.Call (.Name x p) (e :: es) [] pos) (tCB r t) (eCB g f) :=
  ve_callB hc (by rw [hK]; exact hs) hm ha hg hv hn hdb he hpl
theorem wct {T : String} {x : Str} {r : List V → Hp → VK → Prop} {g : List D → Option Hd} {e : Expr} {es : List Expr} {t : TA} {f : M (List Hd)} {p pos : Pos} (hs : CallS cm K X.N.length r g) (hc : CallR X (.type T) r) (hm : X.mg x = none) (ha : VA cm X W (e :: es) t f) (hK : X.K = K := by rfl)
    (hg : Gl X x := by rfl) (hv : bootBuiltins x = some (.type T) := by decide +kernel) (hn : x ≠ "__name__" := by decide) (hdb : (x == ("__debug__" : Str)) = false := by decide)
    (he : starEach (e :: es) X.env = (false, eval e X.env) :: starEach es X.env := by rfl) (hpl : (backTo pos (starEach es X.env)).any (·.1) = false := by rfl) : VE cm X W (.Call (.Name x p) (e :: es) [] pos) (tCB r t) (eCB g f) :=
  ve_callTy hc (by rw [hK]; exact hs) hm ha hg hv hn hdb he hpl
theorem wcall {P : Program} {w : World} {mg : Str → Option Value} {base : Heap} {j m : Nat} {x : Str} {φ : List D → Out} {e : Expr} {es : List Expr} {t : TA} {f : M (List Hd)} {p pos : Pos} (F : Fn P w K mg base cm j x m φ) (hr : Room j X.A) (hx : ∀ σ, PassesAt (L2.CX X.prog X.w) X σ (WE W σ)) (ha : VA cm X W (e :: es) t f)
    (hP : X.prog = P := by rfl) (hw : X.w = w := by rfl) (hK : X.K = K := by rfl) (hmg : X.mg = mg := by rfl) (hb : X.base = base := by rfl)
    (hg : Gl X x := by rfl) (hdb : (x == ("__debug__" : Str)) = false := by decide) (he : starEach (e :: es) X.env = (false, eval e X.env) :: starEach es X.env := by rfl) (hpl : (backTo pos (starEach es X.env)).any (·.1) = false := by rfl) :
    VE cm X W (.Call (.Name x p) (e :: es) [] pos) (tCallS (spV cm K m φ) (WE W) t) (eCall m φ f) := by
  subst hP hw hK hmg hb
  exact ve_call F hr hx ha hg hdb he hpl
theorem worT {a b : Expr} {rest : List Expr} {ta tb : TE} {fa fb : M Hd} {pos : Pos} (ha : VE cm X W a ta fa) (hb : VE cm X W (.BoolOp .Or (b :: rest) pos) tb fb) (hK : X.K = K := by rfl) : VE cm X W (.BoolOp .Or (a :: b :: rest) pos) (tOrT K ta tb) (eOrT fa fb) := by
  subst hK; exact ve_orT ha hb
theorem wandT {a b : Expr} {rest : List Expr} {ta tb : TE} {fa fb : M Hd} {pos : Pos} (ha : VE cm X W a ta fa) (hb : VE cm X W (.BoolOp .And (b :: rest) pos) tb fb) (hK : X.K = K := by rfl) : VE cm X W (.BoolOp .And (a :: b :: rest) pos) (tAndT K ta tb) (eAndT fa fb) := by
  subst hK; exact ve_andT ha hb
theorem wnotT {a : Expr} {ta : TE} {fa : M Hd} {pos : Pos} (ha : VE cm X W a ta fa) (hK : X.K = K := by rfl) : VE cm X W (.UnaryOp .Not a pos) (tNotT K ta) (eNotT fa) := by
  subst hK; exact ve_notT ha
end
section
variable {cm : Nat → Addr} {X : Cx} {W : WX} {n : Nat}
theorem wapp (i : Nat) {x : Str} {e : Expr} {te : TE} {f : M Hd} {p apos pos : Pos} (h : VE cm X W e te f) (hN : X.N[i]? = some x := by rfl) (hv : Vis X.env.scope x := by first | exact Or.inl rfl | exact Or.inr (Or.inl rfl) | exact Or.inr (Or.inr rfl)) (hd : (x == ("__debug__" : Str)) = false := by decide)
    (hcd : (x == ("__classdict__" : Str)) = false := by decide) (h0 : attributeBase (.Name x p) "append" X.env (eval (.Name x p) X.env) = eval (.Name x p) X.env := by rfl)
    (h1 : ((((backTo pos (starEach [e] X.env)).all (!·.1)) && ((backToKw pos (keywordEach [] X.env)).all (·.1.isSome))) && decide (([e].length + ([] : List Keyword).length + if ([] : List Keyword).isEmpty = true then 0 else 1) < 30)) = true := by rfl)
    (h2 : (apos.endLine == pos.line) = true := by rfl) (h3 : starEach [e] X.env = (false, eval e X.env) :: starEach [] X.env := by rfl) :
    VE cm X W (.Call (.Attribute (.Name x p) "append" apos) [e] [] pos) (tBM X.K "list" rAppend (tVar i) (tCons te tNil)) (eAppend i f) :=
  ve_append i h hN hv hd hcd (pe_bm PySem.F.plainAttrs_list PySem.F.slot_list_append PySem.F.type_list_append mt_append (pe_var hN hv hd hcd) (pa_cons h.pe pa_nil h3) h0 h1 h2 h3 rfl)
theorem wext (i : Nat) {x : Str} {e : Expr} {te : TE} {f : M Hd} {p apos pos : Pos} (h : VE cm X W e te f) (hN : X.N[i]? = some x := by rfl) (hv : Vis X.env.scope x := by first | exact Or.inl rfl | exact Or.inr (Or.inl rfl) | exact Or.inr (Or.inr rfl)) (hd : (x == ("__debug__" : Str)) = false := by decide)
    (hcd : (x == ("__classdict__" : Str)) = false := by decide) (h0 : attributeBase (.Name x p) "extend" X.env (eval (.Name x p) X.env) = eval (.Name x p) X.env := by rfl)
    (h1 : ((((backTo pos (starEach [e] X.env)).all (!·.1)) && ((backToKw pos (keywordEach [] X.env)).all (·.1.isSome))) && decide (([e].length + ([] : List Keyword).length + if ([] : List Keyword).isEmpty = true then 0 else 1) < 30)) = true := by rfl)
    (h2 : (apos.endLine == pos.line) = true := by rfl) (h3 : starEach [e] X.env = (false, eval e X.env) :: starEach [] X.env := by rfl) :
    VE cm X W (.Call (.Attribute (.Name x p) "extend" apos) [e] [] pos) (tBM X.K "list" rExtend (tVar i) (tCons te tNil)) (eExtend i f) :=
  ve_extend i h (pe_bm PySem.F.plainAttrs_list PySem.F.slot_list_extend PySem.F.type_list_extend mt_extend (pe_var hN hv hd hcd) (pa_cons h.pe pa_nil h3) h0 h1 h2 h3 rfl)
theorem wpop (i : Nat) {x : Str} {p apos pos : Pos} (hN : X.N[i]? = some x := by rfl) (hv : Vis X.env.scope x := by first | exact Or.inl rfl | exact Or.inr (Or.inl rfl) | exact Or.inr (Or.inr rfl)) (hd : (x == ("__debug__" : Str)) = false := by decide)
    (hcd : (x == ("__classdict__" : Str)) = false := by decide) (h0 : attributeBase (.Name x p) "pop" X.env (eval (.Name x p) X.env) = eval (.Name x p) X.env := by rfl)
    (h2 : (apos.endLine == pos.line) = true := by rfl) :
    VE cm X W (.Call (.Attribute (.Name x p) "pop" apos) [] [] pos) (tBM0 X.K "list" rPop (tVar i)) (ePop i) :=
  ve_pop i (pe_bm0 PySem.F.plainAttrs_list PySem.F.slot_list_pop PySem.F.type_list_pop mt_pop (pe_var hN hv hd hcd) h0 h2)
theorem wsetix (i : Nat) {x : Str} {e ej : Expr} {te tj : TE} {f fj : M Hd} {p p2 pos : Pos} (he : VE cm X W e te f) (hj : VE cm X W ej tj fj) (hN : X.N[i]? = some x := by rfl) (hv : Vis X.env.scope x := by first | exact Or.inl rfl | exact Or.inr (Or.inl rfl) | exact Or.inr (Or.inr rfl)) (hd : (x == ("__debug__" : Str)) = false := by decide)
    (hcd : (x == ("__classdict__" : Str)) = false := by decide)
    (h1 : swapsWithSole [.Subscript (.Name x p) ej p2] e pos.line X.env = pure false := by rfl) (h2 : swappedStores [.Subscript (.Name x p) ej p2] e X.env = pure none := by rfl)
    (h3 : (assignEach [.Subscript (.Name x p) ej p2] X.env).map (·.2) = [assign (.Subscript (.Name x p) ej p2) X.env] := by rfl)
    (h4 : ∀ v, assign (.Subscript (.Name x p) ej p2) X.env v = (do
      let ov ← holding [v] (eval (.Name x p) X.env)
      let iv ← holding [v, ov] (eval ej X.env)
      standAt p2
      holding [v, ov, iv] (setItem ov iv v)
      release [v, ov, iv] []) := by intro _; rfl) :
    VS cm X W (.Assign [.Subscript (.Name x p) ej p2] e pos) (tAsg te (gSub (tVar i) tj rSetL)) (sSetIx i fj f) :=
  vs_setIx i he hj (ps_asg he.pe (pg_sub (pe_var hN hv hd hcd) hj.pe set_list h4) h1 h2 h3)
/-! #### return alone -/
/-! insertion -/
def insL {α : Type} (le : α → α → Bool) (x : α) : List α → List α
  | [] => [x]
  | y :: r => if le x y = true then x :: y :: r else y :: insL le x r
def isortL {α : Type} (le : α → α → Bool) : List α → List α
  | [] => []
  | x :: r => insL le x (isortL le r)
theorem insL_perm {α : Type} (le : α → α → Bool) (x : α) : ∀ l : List α, (insL le x l).Perm (x :: l)
  | [] => List.Perm.refl _
  | y :: r => by
    unfold insL
    split
    · exact List.Perm.refl _
    · exact ((insL_perm le x r).cons y).trans (List.Perm.swap x y r)
theorem isortL_perm {α : Type} (le : α → α → Bool) : ∀ l : List α, (isortL le l).Perm l
  | [] => List.Perm.refl _
  | x :: r => (insL_perm le x _).trans ((isortL_perm le r).cons x)
theorem insL_pw {α : Type} {le : α → α → Bool} (tot : ∀ a b, le a b = false → le b a = true) (tr : ∀ a b c, le a b = true → le b c = true → le a c = true) (x : α) : ∀ l : List α, l.Pairwise (fun a b => le a b = true) → (insL le x l).Pairwise fun a b => le a b = true
  | [], _ => List.pairwise_singleton _ _
  | y :: r, h => by
    have h1 := (List.pairwise_cons.mp h).1
    have h2 := (List.pairwise_cons.mp h).2
    unfold insL
    split
    · rename_i q
      refine List.pairwise_cons.mpr ⟨fun z hz => ?_, h⟩
      rcases List.mem_cons.mp hz with e | e
      · rw [e]; exact q
      · exact tr _ _ _ q (h1 z e)
    · rename_i q
      refine List.pairwise_cons.mpr ⟨fun z hz => ?_, insL_pw tot tr x r h2⟩
      rcases List.mem_cons.mp ((insL_perm le x r).mem_iff.mp hz) with e | e
      · rw [e]; exact tot _ _ (by simpa using q)
      · exact h1 z e
theorem isortL_pw {α : Type} {le : α → α → Bool} (tot : ∀ a b, le a b = false → le b a = true) (tr : ∀ a b c, le a b = true → le b c = true → le a c = true) : ∀ l : List α, (isortL le l).Pairwise fun a b => le a b = true
  | [] => List.Pairwise.nil
  | x :: r => insL_pw tot tr x _ (isortL_pw tot tr r)
def leI (a b : Int) : Bool := decide (a ≤ b)
def leT (a b : List Nat) : Bool := !decide (b < a)
theorem leI_tot (a b : Int) (h : leI a b = false) : leI b a = true := by unfold leI at *; simp at *; omega
theorem leI_tr (a b c : Int) (h : leI a b = true) (h2 : leI b c = true) : leI a c = true := by unfold leI at *; simp at *; omega
def sortI (ns : List Int) : List Int := isortL leI ns
def dedup {α : Type} [DecidableEq α] : List α → List α
  | [] => []
  | x :: r => if x ∈ r then dedup r else x :: dedup r
def sortS (xs : List (List Nat)) : List (List Nat) := isortL leT xs
def sortSetD : D → Option Hd
  | .lst ds => match ints? ds with
    | some ns => if ns.length < 4000 ∧ (dedup ns).length < 64 then some (.new (.lst ((sortI (dedup ns)).map .int))) else none
    | none => match strs? ds with
      | some xs => if xs.length < 4000 ∧ (dedup xs).length < 64 then some (.new (.lst ((sortS (dedup xs)).map .str))) else none
      | none => none
  | _ => none
end
end Vi

/-! ## ViSet -/
set_option Elab.async false
set_option linter.all false
set_option maxRecDepth 100000
set_option maxHeartbeats 3200000
namespace Vi
open PySem L2 PySem.Spec PyProof.Rows
/-! ### sets of ints and texts that are made of a list or a text and sorted at once -/
def gk : Value → Key
  | .int i _ => .inl i
  | .str x _ => .inr x
  | _ => .inl 0
theorem gk_of {k : Key} {v : Value} (h : keyIs k v = true) : gk v = k := by
  rcases keyIs_shape h with ⟨i, t, e1, e2⟩ | ⟨x, t, e1, e2⟩ <;> (subst e1 e2; rfl)
theorem key_sc {k : Key} {v : Value} (h : keyIs k v = true) : v.scannable = true := by
  rcases keyIs_shape h with ⟨i, t, e1, e2⟩ | ⟨x, t, e1, e2⟩ <;> (subst e1 e2; rfl)
/-- a row of the set's table -/
def Ent (w : World) (e : Int × Value) : Prop := keyIs (gk e.2) e.2 = true ∧ e.1 = keyH w (gk e.2)
abbrev gks (es : Array (Int × Value)) : List Key := es.toList.map fun e => gk e.2
/-- the set at a holds the keys of L -/
structure Tab (w : World) (L : List Key) (o : Obj) (es : Array (Int × Value)) (ep : Nat) (t : SetTable) : Prop where
  ex : o.ExactSet
  dt : o.data = .set es ep t
  en : ∀ e ∈ es.toList, Ent w e
  nd : (gks es).Nodup
  mem : ∀ k, k ∈ L ↔ k ∈ gks es
  few : es.size ≤ L.length
  fit : t.fits es.size = true
  ris : Ris t.place.toList
  led : w.params.followText "set-order" = true ∨ t.led = true
def SetG (w : World) (h : Heap) (a : Addr) (L : List Key) : Prop := ∃ o es ep t, h.get? a = some o ∧ Tab w L o es ep t
section
variable {P : Program} {w : World} {A : Around} {E : Value → Shared → Prop} {s : Shared} {a : Addr} {L : List Key}
theorem SetG.at_ {h h' : Heap} (R : SetG w h a L) (k : ∀ o, h.get? a = some o → h'.get? a = some o) : SetG w h' a L := by
  obtain ⟨o, es, ep, t, ho, T⟩ := R
  exact ⟨o, es, ep, t, k o ho, T⟩
theorem ent_elems {es : Array (Int × Value)} (g : ∀ e ∈ es.toList, Ent w e) : ElemsOf (mixKind P w) es.toList := fun e he =>
  ⟨⟨gk e.2, (g e he).1, (g e he).2⟩, key_sc (g e he).1⟩
theorem tab_found {o : Obj} {es : Array (Int × Value)} {ep : Nat} {t : SetTable} {k : Key} (T : Tab w L o es ep t) (hk : k ∈ L) : Tab w (L ++ [k]) o es ep t :=
  { T with mem := fun j => by
             rw [List.mem_append, List.mem_singleton, ← T.mem j]
             exact ⟨fun h => h.elim id fun e => e ▸ hk, .inl⟩
           few := by rw [List.length_append]; exact Nat.le_trans T.few (Nat.le_add_right _ _) }
/-- the table with one row more, in whatever order -/
theorem tab_more {o o' : Obj} {es es1 : Array (Int × Value)} {ep ep' : Nat} {t t1 : SetTable} {k : Key} {v : Value} (T : Tab w L o es ep t) (hk : k ∉ L) (hv : keyIs k v = true) (pm : es1.toList.Perm ((keyH w k, v) :: es.toList))
    (hx : o'.ExactSet) (hd : o'.data = .set es1 ep' t1) (hf : t1.fits es1.size = true) (hr : Ris t1.place.toList) (hl : t1.led = t.led) : Tab w (L ++ [k]) o' es1 ep' t1 := by
  have pk : (gks es1).Perm (k :: gks es) := by
    have q := pm.map fun e => gk e.2
    rw [List.map_cons] at q
    rw [gk_of hv] at q
    exact q
  refine ⟨hx, hd, fun e he => ?_, ?_, fun j => ?_, ?_, hf, hr, T.led.imp id fun z => by rw [hl]; exact z⟩
  · rcases List.mem_cons.mp (pm.mem_iff.mp he) with z | z
    · subst z
      exact ⟨by show keyIs (gk v) v = true; rw [gk_of hv]; exact hv, by show keyH w k = keyH w (gk v); rw [gk_of hv]⟩
    · exact T.en e z
  · exact pk.nodup_iff.mpr (List.nodup_cons.mpr ⟨fun z => hk ((T.mem k).mpr z), T.nd⟩)
  · rw [pk.mem_iff, List.mem_cons, List.mem_append, List.mem_singleton, T.mem j]
    exact Or.comm
  · have q := pm.length_eq
    rw [List.length_cons, Array.length_toList, Array.length_toList] at q
    rw [List.length_append, q]
    exact Nat.succ_le_succ T.few
theorem tab_relay {o o' : Obj} {es es2 : Array (Int × Value)} {ep ep' : Nat} {t t2 : SetTable} (T : Tab w L o es ep t) (pm : es2.toList.Perm es.toList)
    (hx : o'.ExactSet) (hd : o'.data = .set es2 ep' t2) (hf : t2.fits es2.size = true) (hr : Ris t2.place.toList) (hl : t2.led = t.led) : Tab w L o' es2 ep' t2 := by
  have pk : (gks es2).Perm (gks es) := pm.map fun e => gk e.2
  refine ⟨hx, hd, fun e he => T.en e (pm.mem_iff.mp he), pk.nodup_iff.mpr T.nd, fun j => (T.mem j).trans pk.mem_iff.symm, ?_, hf, hr, T.led.imp id fun z => by rw [hl]; exact z⟩
  have q := pm.length_eq
  rw [Array.length_toList, Array.length_toList] at q
  rw [q]; exact T.few
/-- what follows the search, where the key is new -/
theorem tail_ok {g : Bool → PySem.Sem Unit} (hg : ∀ (b : Bool) (s₁ : Shared) (Q' : Unit → Shared → Prop), Q' () s₁ → wpAny (model P w) A (g b) Q' E s₁) {o : Obj} {es es1 : Array (Int × Value)} {ep : Nat} {t t1 : SetTable} {L' : List Key} {old : Bool} {R : Option Bool → Shared → Prop}
    (ho : s.heap.get? a = some o) (hd : o.data = .set es ep t) (T : Tab w L' { o with data := .set es1 (ep + 1) t1 } es1 (ep + 1) t1) (hb : es1.size < scanBound)
    (hR : ∀ h', Heap.SameBut a s.heap h' → SetG w h' a L' → R (some true) { s with heap := h' }) :
    wpAny (model P w) A (do
      storeSet a es1 t1
      if (!old && t1.tooFull) = true then do
          g (relayAll t1 es1 (SetTable.grown es1.size)).2.2
          storeSet a (relayAll t1 es1 (SetTable.grown es1.size)).1 (relayAll t1 es1 (SetTable.grown es1.size)).2.1
          pure (some true)
        else pure (some true)) R E s := by
  have ho1 := store_at (es' := es1) (t' := t1) ho hd
  have same1 := Heap.SameBut.update s.heap a (Obj.putSet es1 t1)
  refine wpAny_bind (wpAny_storeSet_of ho hd ?_ (fits_of_scanBound hb))
  by_cases full : (!old && t1.tooFull) = true
  case neg => rw [if_neg full]; exact wpAny_pure (hR _ same1 ⟨_, es1, _, t1, ho1, T⟩)
  rw [if_pos full]
  have pm := relayAll_perm t1 es1 (SetTable.grown es1.size)
  have f3 := relayAll_fits t1 es1 (SetTable.grown es1.size)
  have r3 := relayAll_ris t1 es1 (SetTable.grown es1.size)
  have l3 := relayAll_led t1 es1 (SetTable.grown es1.size)
  generalize relayAll t1 es1 (SetTable.grown es1.size) = Z at pm f3 r3 l3 ⊢
  obtain ⟨es2, t2, gave⟩ := Z
  dsimp only at pm f3 r3 l3 ⊢
  have size2 : es2.size = es1.size := by have q := pm.length_eq; rw [Array.length_toList, Array.length_toList] at q; exact q
  refine wpAny_bind (hg _ _ _ (wpAny_bind (wpAny_storeSet_of ho1 rfl ?_ (fits_of_scanBound (by rw [size2]; exact hb)))))
  have ho2 := store_at (es' := es2) (t' := t2) ho1 rfl
  exact wpAny_pure (hR _ (same1.trans (Heap.SameBut.update _ a _)) ⟨_, es2, _, t2, ho2, tab_relay T pm T.ex rfl f3 r3 l3⟩)
theorem setG_add {k : Key} {v : Value} {Q : Bool → Shared → Prop} (hv : keyIs k v = true) (R : SetG w s.heap a L) (room : L.length + 1 < scanBound) (hQ : ∀ h' b, Heap.SameBut a s.heap h' → SetG w h' a (L ++ [k]) → Q b { s with heap := h' }) :
    wpAny (model P w) A (setAddHashed a v (keyH w k)) Q E s := by
  obtain ⟨o, es, ep, t, ho, T⟩ := R
  have hb : es.size < scanBound := Nat.lt_of_le_of_lt T.few (Nat.lt_of_succ_lt room)
  have els : ElemsOf (mixKind P w) es.toList := ent_elems T.en
  unfold setAddHashed setAddHashedIn
  refine wpAny_holding (wpAny_bind (wpAny_setState_of ho T.dt T.fit ?_))
  dsimp only
  rw [byScan_of (knd := mixKind P w) (key_sc hv) hb els]
  simp only [↓reduceIte]
  unfold setAddByScan
  refine wpAny_bind (wpAny_bind (wpAny_rule (wpAny_bind (wpAny_setScan_of (knd := mixKind P w) (k := k) hv ho T.dt T.fit els ?_))))
  cases at_k : es.toList.findIdx? (fun e => (mixKind P w).is k e.2) with
  | some j =>
    obtain ⟨hj, pj, _⟩ := List.findIdx?_eq_some_iff_getElem.mp at_k
    have inL : k ∈ L := (T.mem k).mpr (List.mem_map.mpr ⟨_, List.getElem_mem hj, gk_of pj⟩)
    dsimp only
    exact wpAny_pure (wpAny_pure (hQ s.heap _ (Heap.SameBut.refl a s.heap) ⟨o, es, ep, t, ho, tab_found T inL⟩))
  | none =>
    have notL : k ∉ L := fun z => by
      obtain ⟨e, he, q⟩ := List.mem_map.mp ((T.mem k).mp z)
      have c := List.findIdx?_eq_none_iff.mp at_k e he
      have c : keyIs k e.2 = false := c
      rw [← q, (T.en e he).1] at c
      cases c
    dsimp only
    have rl : ∀ (b : Bool) {s₁ : Shared} {Q' : Unit → Shared → Prop}, Q' () s₁ → wpAny (model P w) A (match b with | true => rule "set.scan.the-table-gave-way" | false => pure ()) Q' E s₁ :=
      fun b s₁ Q' q => match b with
        | false => wpAny_pure q
        | true => wpAny_rule q
    have pm := layNew_perm t es (keyH w k) v
    have f1 := layNew_fits t es (keyH w k) v
    have r1 := layNew_ris t es (keyH w k) v T.ris
    have l1 := layNew_led t es (keyH w k) v
    have hh : (mixKind P w).hash k = keyH w k := rfl
    generalize layNew t es (keyH w k) v = Z at pm f1 r1 l1 ⊢
    obtain ⟨es1, t1, old, gave⟩ := Z
    dsimp only at pm f1 r1 l1 ⊢
    rw [Array.toList_push] at pm
    have pc := pm.trans (List.perm_append_singleton _ _)
    have size1 : es1.size = es.size + 1 := by have q := pc.length_eq; rw [List.length_cons, Array.length_toList, Array.length_toList] at q; exact q
    have hb1 : es1.size < scanBound := by rw [size1]; exact Nat.lt_of_le_of_lt (Nat.succ_le_succ T.few) room
    have T1 : ∀ t2 : SetTable, t2.fits es1.size = true → Ris t2.place.toList → t2.led = t.led → Tab w (L ++ [k]) { o with data := .set es1 (ep + 1) t2 } es1 (ep + 1) t2 := fun t2 q1 q2 q3 => tab_more T notL hv pc T.ex rfl q1 q2 q3
    refine wpAny_bind (rl _ ?_)
    split
    · refine wpAny_bind ?_
      rw [hashByValue_scannable 8 (key_sc hv)]
      refine wpAny_pure (tail_ok ?_ ho T.dt (T1 _ ?_ ?_ ?_) hb1 ?_)
      · exact fun b s₁ Q' q => rl b q
      · first | (split <;> first | exact f1 | exact SetTable.fits_plain_off f1) | exact f1
      · first | (split <;> exact r1) | exact r1
      · first | (split <;> exact l1) | exact l1
      · intro h' sb r; dsimp only; exact wpAny_pure (hQ h' _ sb r)
    · refine wpAny_bind (wpAny_pure ?_)
      simp only [↓reduceIte]
      refine tail_ok ?_ ho T.dt (T1 _ f1 r1 l1) hb1 ?_
      · exact fun b s₁ Q' q => rl b q
      · intro h' sb r; dsimp only; exact wpAny_pure (hQ h' _ sb r)
end
end Vi

/-! ## ViSet2 -/
set_option Elab.async false
set_option linter.all false
set_option maxRecDepth 100000
set_option maxHeartbeats 3200000
namespace Vi
open PySem L2 PySem.Spec PyProof.Rows
section
variable {P : Program} {w : World} {A : Around} {E : Value → Shared → Prop} {s : Shared}
theorem set_upd {I : Addr} {fp wr : List Addr} {G : Array GenState → Array GenState → Prop} {n : Nat} {Pv : Nat → Value → Prop} {St : Nat → Shared → Prop} {R : Result → Shared → Prop} (W : WalksS P w A.in1 I fp wr G n Pv St) (S : Addr) (hSf : S ∉ fp) (ks : List Key)
    (hn : n = ks.length) (hb : ks.length + 1 < scanBound) (hval : ∀ (i : Nat) (v : Value), Pv i v → ∃ k, ks[i]? = some k ∧ keyIs k v = true) : ∀ (m i : Nat) (s : Shared), n - i = m → i ≤ n → St i s → SetG w s.heap S (ks.take i) → (∀ s', Moved (S :: wr) G s s' → SetG w s'.heap S ks → R (.ok (.ret .none)) s') →
      codeAny (model P w) A (.builtin "set.update.loop" ⟨[.ref S, .ref I], []⟩) R s
  | 0, i, s, hm, hi, st, hS, hR => by
    have hi : i = n := by omega
    subst hi
    refine codeAny_builtin PyProof.Rows.F.entry_set_update_loop ?_
    rw [Around.under_plainId PyProof.Rows.F.plain_set_update_loop _]
    show wpAny _ A.in1 (pyNext (.ref I) >>= _) _ _ s
    refine wpAny_bind (W.done s _ _ st fun s' mv => ?_)
    have all : ks.take i = ks := List.take_of_length_le (by omega)
    rw [all] at hS
    exact wpAny_pure (hR s' (mv.mono fun b hb => List.mem_cons_of_mem _ hb) (hS.at_ fun o e => mv.heap S o (fun h => hSf (W.sub _ h)) e))
  | m + 1, i, s, hm, hi, st, hS, hR => by
    have lt : i < n := by omega
    refine codeAny_builtin PyProof.Rows.F.entry_set_update_loop ?_
    rw [Around.under_plainId PyProof.Rows.F.plain_set_update_loop _]
    show wpAny _ A.in1 (pyNext (.ref I) >>= _) _ _ s
    refine wpAny_bind (W.item i s _ _ lt st fun v s1 hP st1 mv => ?_)
    obtain ⟨k, hk, kv⟩ := hval i v hP
    have hS1 : SetG w s1.heap S (ks.take i) := hS.at_ fun o e => mv.heap S o (fun h => hSf (W.sub _ h)) e
    show wpAny _ A.in1 (holding [v] (setAdd S v) >>= _) _ _ s1
    refine wpAny_bind (wpAny_holding ?_)
    unfold setAdd
    refine wpAny_holding (wpAny_bind ((mixKind P w).pyHash (k := k) kv ?_))
    refine setG_add (s := { s1 with toks := s1.toks + 1 }) kv hS1 (by rw [List.length_take]; omega) fun h' b sb hS2 => ?_
    have next : ks.take i ++ [k] = ks.take (i + 1) := by rw [List.take_add_one, hk]; rfl
    rw [next] at hS2
    refine wpAny_pure ⟨plainId_quiet PyProof.Rows.F.plain_set_update_loop _, set_upd W S hSf ks hn hb hval m (i + 1) _ (by omega) lt (W.frame _ s1 _ _ st1 (Nat.le_succ _) fun c hc o e => ?_) hS2 fun s2 mv2 hS3 => ?_⟩
    · have : c ≠ S := fun h => hSf (h ▸ hc)
      rw [sb.2 c this]; exact e
    · refine hR s2 (Moved.trans W.gtrans ((mv.mono fun b hb => List.mem_cons_of_mem _ hb).then_heap (Nat.le_succ _) fun c o hc e => ?_) mv2) hS3
      have : c ≠ S := fun h => hc (h ▸ List.mem_cons_self)
      rw [sb.2 c this]; exact e
theorem setG_new {h : Heap} {a : Addr} (ho : h.get? a = some { cls := .type "set", dict := none, data := .set #[] 0 (.fresh 0 0 (!w.params.followText "set-order")) }) : SetG w h a [] :=
  ⟨_, #[], 0, _, ho, ⟨rfl, rfl, rfl⟩, rfl, fun e he => (nomatch (show e ∈ [] from he)), List.nodup_nil, fun k => Iff.rfl, Nat.le_refl _, rfl, List.Pairwise.nil, by
    show _ ∨ (!w.params.followText "set-order") = true
    cases w.params.followText "set-order"
    · exact .inr rfl
    · exact .inl rfl⟩
abbrev newSet (w : World) : Obj := { cls := .type "set", dict := none, data := .set #[] 0 (.fresh 0 0 (!w.params.followText "set-order")) }
theorem call_setL {l : Addr} {items : Array Value} (ks : List Key) {Q : Value → Shared → Prop} (hh : A.handled = none) (hl : s.heap.IsList l items) (hlen : items.size = ks.length) (hit : ∀ (i : Nat) (v : Value), items[i]? = some v → ∃ k, ks[i]? = some k ∧ keyIs k v = true) (hb : ks.length + 1 < scanBound)
    (h : ∀ (h' : Heap) (tk : Nat), SetG w h' s.heap.objs.size ks → (∀ b o, s.heap.get? b = some o → h'.get? b = some o) → Q (.ref s.heap.objs.size) { s with heap := h', toks := tk }) :
    wpAny (model P w) A (call (.type "set") [.ref l]) Q E s := by
  obtain ⟨c, tl, hmro⟩ := PySem.F.called_set.mro
  have hmade := PySem.F.called_set.made
  have hsub := PySem.F.called_set.sub
  refine wpAny_call (codeAny_of_tree ?_)
  show wpAny _ _ (callAny (.type "set") _) _ _ _
  refine wpAny_pure ⟨Code.quiet_builtin _ (by decide +kernel), codeAny_builtin PySem.F.entry_type_call ?_⟩
  rw [Around.under_plain (weight_type_call_type "set" [.ref l] []) rfl]
  have k1 := PySem.F.called_set.notType
  have k2 := PySem.F.called_set.canCreate
  have k3 := PySem.F.typeCall_set_1 (.ref l)
  repeat (any_goals (first | assumption | wp_step))
  refine codeAny_mono (code_set_led1 (.ref l) (E := E) (Q₁ := fun x s₁ => x = .ref s.heap.objs.size ∧ s₁ = { s with heap := s.heap.push (newSet w) }) ⟨rfl, rfl⟩) fun r s₁ hr => ?_
  match r, hr with
  | .error e, hr => exact hr
  | .ok (.ret x), hr =>
    obtain ⟨ex, es⟩ := hr
    subst ex es
    have at_S : (s.heap.push (newSet w)).get? s.heap.objs.size = some (newSet w) := Heap.get?_push_size _ rfl
    have ty_S : Shared.TypeIs { s with heap := s.heap.push (newSet w) } (.ref s.heap.objs.size) "set" := ⟨_, at_S, rfl⟩
    have i1 := PySem.F.called_set.init.lookup
    have i2 := PySem.F.called_set.init.bind (.ref s.heap.objs.size)
    repeat (any_goals (first | assumption | wp_step))
    refine codeAny_mono (codeAny_call_builtin (R := wants (fun r s₂ => r = .none ∧ ∃ h' tk, s₂ = { s with heap := h', toks := tk } ∧ SetG w h' s.heap.objs.size ks ∧ (∀ b o, s.heap.get? b = some o → h'.get? b = some o)) E) PySem.F.called_set.init.plain PySem.F.entry_set_init (check_set_init_1 ty_S ?_)) fun r₂ s₂ hr₂ => ?_
    · obtain ⟨ol, hol, hcl, nl, hdl⟩ := hl
      obtain ⟨oc, od, odt, osl⟩ := ol
      dsimp only at hcl hdl
      subst hcl hdl
      have at_l : (s.heap.push (newSet w)).get? l = some { cls := .type "list", dict := od, data := .seq items nl, slots := osl } := Heap.get?_push_of_some _ hol
      have n1 := PySem.F.sub_list_set
      have n2 := PySem.F.sub_list_frozenset
      have n3 : (Value.type "list" == Value.type "dict") = false := by decide
      have isl : (s.heap.push (newSet w)).IsList l items := ⟨_, at_l, rfl, nl, rfl⟩
      unfold Builtin.«set.__init__» noKeywords Builtin.Frozenset.updateFrom
      generalize hPI : pyIter = PI
      wp_walk
      subst hPI
      refine wpAny_pyIter_list isl (wpAny_bind (wpAny_runValue ?_))
      have l_lt : l < s.heap.objs.size := Heap.lt_size hol
      have none3 : A.in1.in1.in1.handled = none := by simp [hh]
      have z1 : (s.heap.push (newSet w)).objs.size = s.heap.objs.size + 1 := Heap.size_push ..
      have apart : l ≠ (s.heap.push (newSet w)).objs.size := by rw [z1]; exact Nat.ne_of_lt (Nat.lt_succ_of_lt l_lt)
      have outside : s.heap.objs.size ∉ [(s.heap.push (newSet w)).objs.size, l] := by
        rw [z1]
        intro z
        rcases List.mem_cons.mp z with z | z
        · exact absurd z (Nat.ne_of_lt (Nat.lt_succ_self _))
        · exact absurd (List.mem_singleton.mp z).symm (Nat.ne_of_lt l_lt)
      refine set_upd ((Walks.list none3 _ l apart items).toS) s.heap.objs.size outside ks hlen hb hit (items.size - 0) 0 _ rfl (Nat.zero_le _) ⟨⟨_, Heap.get?_push_size _ rfl, rfl, rfl⟩, isl.push _⟩ ?_ ?_
      · exact setG_new (Heap.get?_push_of_some _ at_S)
      · intro s' mv hS
        obtain ⟨h', g2, d2, tk2, os2⟩ := s'
        have e1 : g2 = s.gens := mv.gens
        have e2 : d2 = s.drawn := mv.drawn
        have e3 : os2 = s.os := mv.os
        subst e1 e2 e3
        refine wpAny_pure ?_
        show wpAny _ _ (ret Value.none) _ _ _
        refine wpAny_pure ⟨rfl, h', tk2, rfl, hS, fun b o e => ?_⟩
        have b_lt : b < s.heap.objs.size := Heap.lt_size e
        refine mv.heap b o (fun z => ?_) (Heap.get?_push_of_some _ (Heap.get?_push_of_some _ e))
        rcases List.mem_cons.mp z with z | z
        · exact absurd z (Nat.ne_of_lt b_lt)
        · have z := List.mem_singleton.mp z
          rw [z1] at z
          exact absurd z (Nat.ne_of_lt (Nat.lt_succ_of_lt b_lt))
    · match r₂, hr₂ with
      | .error e, hr₂ => exact hr₂
      | .ok (.ret x), hr₂ =>
        obtain ⟨ex, h', tk, es, hS, hk⟩ := hr₂
        subst ex es
        repeat (any_goals (first | assumption | wp_step))
        exact h _ _ hS hk
end
end Vi

/-! ## ViSet3 -/
set_option Elab.async false
set_option linter.all false
set_option maxRecDepth 100000
set_option maxHeartbeats 3200000
namespace Vi
open PySem L2 PySem.Spec PyProof.Rows
section
variable {P : Program} {w : World} {A : Around} {E : Value → Shared → Prop} {s : Shared} {a : Addr} {L : List Key}
/-- fewer than 64 unlike ones -/
def Few {α : Type} (L : List α) : Prop := ∀ l : List α, l.Nodup → (∀ k, k ∈ l ↔ k ∈ L) → l.length < 64
def strIn : Value → Str
  | .str x _ => x
  | _ => Str.empty
theorem strs_in : ∀ vs : List Value, (∀ v ∈ vs, ∃ x t, v = Value.str x t) → StrsAre vs (vs.map strIn)
  | [], _ => .nil
  | v :: vs, h => by
    obtain ⟨x, t, e⟩ := h v List.mem_cons_self
    subst e
    exact .cons x t (strs_in vs fun u hu => h u (List.mem_cons_of_mem _ hu))
theorem sortG_int {ns : List Int} {Q : Value → Shared → Prop} (R : SetG w s.heap a (ns.map Sum.inl)) (hh : A.handled = none) (few : Few ns) (many : ns.length < scanBound)
    (hQ : ∀ s' p (out : Array Value) (c : Nat) (ys : List Int), (∀ b o, s.heap.get? b = some o → s'.heap.get? b = some o) → s'.gens = s.gens → s'.os = s.os → s.heap.objs.size ≤ p → s'.heap.get? p = some (seqObj "list" out c) → IntsAre out.toList ys → ys.Pairwise (· < ·) → (∀ k, k ∈ ys ↔ k ∈ ns) → Q (.ref p) s') :
    wpAny (model P w) A (call (.builtin "sorted") [.ref a]) Q E s := by
  obtain ⟨o, es, ep, t, ho, T⟩ := R
  have size_lt : es.size < scanBound := Nat.lt_of_le_of_lt T.few (by rw [List.length_map]; exact many)
  refine Calls.call_function_entry kind_sorted plain_sorted entry_sorted (args_sorted1 _) ?_
  unfold Builtin.«sorted»
  refine wpAny_bind (m := checkCount "sorted" 1 1 _) (wpAny_pure (wpAny_bind (collect_set (A := A.in1) hh ⟨o, ho, T.ex.1, T.dt⟩ T.fit size_lt T.ris T.led fun s1 vs keep1 size1 gens1 os1 pm => ?_)))
  have allI : ∀ v ∈ vs, ∃ k t, v = Value.int k t := fun v hv => by
    obtain ⟨e, he, q⟩ := List.mem_map.mp (pm.mem_iff.mp hv)
    have inL : gk e.2 ∈ ns.map Sum.inl := (T.mem _).mpr (List.mem_map.mpr ⟨e, he, rfl⟩)
    obtain ⟨i, _, ei⟩ := List.mem_map.mp inL
    have := (T.en e he).1
    rw [← ei, q] at this
    rcases keyIs_shape this with ⟨j, tk, _, e2⟩ | ⟨x, tk, e1, _⟩
    · exact ⟨j, tk, e2⟩
    · cases e1
  have isI := ints_of vs allI
  have keyEq : (vs.map Builtin.Re.reRawOf).map Sum.inl = vs.map gk := by
    rw [List.map_map]
    refine List.map_congr_left fun v hv => ?_
    obtain ⟨k, tk, e⟩ := allI v hv
    subst e; rfl
  have pk : ((vs.map Builtin.Re.reRawOf).map Sum.inl).Perm (gks es) := by
    rw [keyEq]
    have q := pm.map gk
    rw [List.map_map] at q
    exact q
  have nodup : (vs.map Builtin.Re.reRawOf).Nodup := List.Pairwise.of_map Sum.inl (fun _ _ h e => h (congrArg _ e)) (pk.nodup_iff.mpr T.nd)
  have mem : ∀ k, k ∈ vs.map Builtin.Re.reRawOf ↔ k ∈ ns := fun k => by
    have q := (pk.mem_iff (a := Sum.inl k)).trans (T.mem (Sum.inl k)).symm
    constructor
    · intro h
      obtain ⟨j, hj, e⟩ := List.mem_map.mp (q.mp (List.mem_map.mpr ⟨k, h, rfl⟩))
      cases e; exact hj
    · intro h
      obtain ⟨j, hj, e⟩ := List.mem_map.mp (q.mpr (List.mem_map.mpr ⟨k, h, rfl⟩))
      cases e; exact hj
  have len : vs.length < 64 := by have := few _ nodup mem; rw [List.length_map] at this; exact this
  refine wpAny_bind (wpAny_newList ?_ (by rw [sizeLine_eq]; omega))
  have at_l : (s1.heap.push (seqObj "list" vs.toArray 0)).get? s1.heap.objs.size = some (seqObj "list" vs.toArray 0) := Heap.get?_push_size _ rfl
  refine wpAny_bind (wpAny_holding (wpAny_call_entry slot_list_sort ⟨_, at_l, rfl⟩ entry_list_sort (list_sort_tree at_l isI len fun out ys a1 a2 a3 => ⟨_, rfl, ?_⟩) (args_list_sort _)))
  obtain ⟨c, at_out⟩ := sortedHeap_at (vs := vs) (out := out) at_l
  refine wpAny_pure ⟨_, rfl, hQ _ s1.heap.objs.size out c ys (fun b u e => ?_) gens1 os1 size1 at_out a1 (lt_of_le_nodup ys a3 (a2.nodup_iff.mpr nodup)) fun k => a2.mem_iff.trans (mem k)⟩
  have old := keep1 b u e
  have lt := Heap.lt_size old
  show (sortedHeap (s1.heap.push (seqObj "list" vs.toArray 0)) s1.heap.objs.size vs out).get? b = some u
  rw [sortedHeap_old (Nat.ne_of_lt lt) (by rw [size_push']; exact Nat.lt_succ_of_lt lt)]
  exact Heap.get?_push_of_some _ old
theorem sortG_str {xs : List Str} {Q : Value → Shared → Prop} (R : SetG w s.heap a (xs.map Sum.inr)) (hh : A.handled = none) (few : Few xs) (many : xs.length < scanBound)
    (hQ : ∀ s' p (out : Array Value) (c : Nat) (ys : List Str), (∀ b o, s.heap.get? b = some o → s'.heap.get? b = some o) → s'.gens = s.gens → s'.os = s.os → s.heap.objs.size ≤ p → s'.heap.get? p = some (seqObj "list" out c) → StrsAre out.toList ys → ys.Nodup → sortedS ys = true → (∀ k, k ∈ ys ↔ k ∈ xs) → Q (.ref p) s') :
    wpAny (model P w) A (call (.builtin "sorted") [.ref a]) Q E s := by
  obtain ⟨o, es, ep, t, ho, T⟩ := R
  have size_lt : es.size < scanBound := Nat.lt_of_le_of_lt T.few (by rw [List.length_map]; exact many)
  refine Calls.call_function_entry kind_sorted plain_sorted entry_sorted (args_sorted1 _) ?_
  unfold Builtin.«sorted»
  refine wpAny_bind (m := checkCount "sorted" 1 1 _) (wpAny_pure (wpAny_bind (collect_set (A := A.in1) hh ⟨o, ho, T.ex.1, T.dt⟩ T.fit size_lt T.ris T.led fun s1 vs keep1 size1 gens1 os1 pm => ?_)))
  have allS : ∀ v ∈ vs, ∃ x t, v = Value.str x t := fun v hv => by
    obtain ⟨e, he, q⟩ := List.mem_map.mp (pm.mem_iff.mp hv)
    have inL : gk e.2 ∈ xs.map Sum.inr := (T.mem _).mpr (List.mem_map.mpr ⟨e, he, rfl⟩)
    obtain ⟨i, _, ei⟩ := List.mem_map.mp inL
    have := (T.en e he).1
    rw [← ei, q] at this
    rcases keyIs_shape this with ⟨j, tk, e1, _⟩ | ⟨x, tk, _, e2⟩
    · cases e1
    · exact ⟨x, tk, e2⟩
  have isS := strs_in vs allS
  have keyEq : (vs.map strIn).map Sum.inr = vs.map gk := by
    rw [List.map_map]
    refine List.map_congr_left fun v hv => ?_
    obtain ⟨k, tk, e⟩ := allS v hv
    subst e; rfl
  have pk : ((vs.map strIn).map Sum.inr).Perm (gks es) := by
    rw [keyEq]
    have q := pm.map gk
    rw [List.map_map] at q
    exact q
  have nodup : (vs.map strIn).Nodup := List.Pairwise.of_map Sum.inr (fun _ _ h e => h (congrArg _ e)) (pk.nodup_iff.mpr T.nd)
  have mem : ∀ k, k ∈ vs.map strIn ↔ k ∈ xs := fun k => by
    have q := (pk.mem_iff (a := Sum.inr k)).trans (T.mem (Sum.inr k)).symm
    constructor
    · intro h
      obtain ⟨j, hj, e⟩ := List.mem_map.mp (q.mp (List.mem_map.mpr ⟨k, h, rfl⟩))
      cases e; exact hj
    · intro h
      obtain ⟨j, hj, e⟩ := List.mem_map.mp (q.mpr (List.mem_map.mpr ⟨k, h, rfl⟩))
      cases e; exact hj
  have len : vs.length < 64 := by have := few _ nodup mem; rw [List.length_map] at this; exact this
  refine wpAny_bind (wpAny_newList ?_ (by rw [sizeLine_eq]; omega))
  have at_l : (s1.heap.push (seqObj "list" vs.toArray 0)).get? s1.heap.objs.size = some (seqObj "list" vs.toArray 0) := Heap.get?_push_size _ rfl
  refine wpAny_bind (wpAny_holding (wpAny_call_entry slot_list_sort ⟨_, at_l, rfl⟩ entry_list_sort (list_sort_treeK strKind_oneLt at_l isS.keysOf (fun v₁ v₂ rest e => keyKind_strs (by rw [← e]; exact isS)) len fun st' hp hs => ⟨_, rfl, ?_⟩) (args_list_sort _)))
  obtain ⟨ys, a1, a2, a3⟩ := sorted_out_str isS hp hs
  obtain ⟨c, at_out⟩ := sortedHeap_at (vs := vs) (out := (arrOf st').map (·.2)) at_l
  refine wpAny_pure ⟨_, rfl, hQ _ s1.heap.objs.size _ c ys (fun b u e => ?_) gens1 os1 size1 at_out a1 (a2.nodup_iff.mpr nodup) a3 fun k => a2.mem_iff.trans (mem k)⟩
  have old := keep1 b u e
  have lt := Heap.lt_size old
  show (sortedHeap (s1.heap.push (seqObj "list" vs.toArray 0)) s1.heap.objs.size vs ((arrOf st').map (·.2))).get? b = some u
  rw [sortedHeap_old (Nat.ne_of_lt lt) (by rw [size_push']; exact Nat.lt_succ_of_lt lt)]
  exact Heap.get?_push_of_some _ old
end
end Vi

/-! ## ViSet4 -/
set_option Elab.async false
set_option linter.all false
set_option maxRecDepth 100000
set_option maxHeartbeats 3200000
namespace Vi
open PySem L2
/-- sorted(set(a list of ints or of texts)) -/
def tSortSet (K : PySem.W.Frag) (ta : TE) : TE := fun σ H Q => ta σ H fun x H1 =>
  (∃ (l : Addr) (ns : List Int), x = .ref l ∧ SqL K H1 l (ns.map V.int) ∧ ns.length < 4000 ∧ Few ns ∧ ∀ (p : Addr) (ys : List Int), ys.Pairwise (· < ·) → (∀ k : Int, k ∈ ys ↔ k ∈ ns) → H1 p = none → Q (.ref p) (upd H1 p (.lst (ys.map V.int)))) ∨
  ∃ (l : Addr) (xs : List Str), x = .ref l ∧ SqL K H1 l (xs.map V.str) ∧ xs.length < 4000 ∧ Few xs ∧ ∀ (p : Addr) (ys : List Str), ys.Nodup → PyProof.Rows.sortedS ys = true → (∀ k : Str, k ∈ ys ↔ k ∈ xs) → H1 p = none → Q (.ref p) (upd H1 p (.lst (ys.map V.str)))
theorem vals_int_at : ∀ {ns : List Int} {us : List Value}, Vals (ns.map V.int) us → ∀ (i : Nat) (v : Value), us[i]? = some v → ∃ k : Key, (ns.map Sum.inl)[i]? = some k ∧ keyIs k v = true
  | [], us, h, i, v, e => by cases h; simp at e
  | n :: ns, us, h, i, v, e => by
    cases h with
    | cons r t =>
      obtain ⟨tk, er⟩ := r
      cases i with
      | zero =>
        have e : some _ = some v := e
        cases e; subst er
        exact ⟨.inl n, rfl, keyIs_int n tk⟩
      | succ i => exact vals_int_at t i v e
theorem vals_str_at : ∀ {ns : List Str} {us : List Value}, Vals (ns.map V.str) us → ∀ (i : Nat) (v : Value), us[i]? = some v → ∃ k : Key, (ns.map Sum.inr)[i]? = some k ∧ keyIs k v = true
  | [], us, h, i, v, e => by cases h; simp at e
  | n :: ns, us, h, i, v, e => by
    cases h with
    | cons r t =>
      obtain ⟨tk, er⟩ := r
      cases i with
      | zero =>
        have e : some _ = some v := e
        cases e; subst er
        exact ⟨.inr n, rfl, keyIs_str n tk⟩
      | succ i => exact vals_str_at t i v e
section
variable {X : Cx}
/-- the sorted list is laid: the invariant behind it -/
theorem laid_sorted {pins : List (Addr × Obj)} {σ : L2.St} {H : Hp} {s s' : Shared} {p : Addr} {vs : List V} {out : Array Value} {c : Nat} {Q : VK} (I : Inv X pins σ H s) (keep : ∀ b o, s.heap.get? b = some o → s'.heap.get? b = some o) (g : s'.gens = s.gens) (os : s'.os = s.os)
    (hp : s.heap.objs.size ≤ p) (hget : s'.heap.get? p = some (PyProof.Rows.seqObj "list" out c)) (hv : Vals vs out.toList) (hlen : vs.length ≤ sizeLine) (q : H p = none → Q (.ref p) (upd H p (.lst vs))) : EP X pins σ Q (.ref p) s' := by
  have free : H p = none := I.hok.fresh hp
  have J : Inv X pins σ (upd H p (.lst vs)) { s with heap := s'.heap, gens := s'.gens, drawn := s'.drawn, toks := s'.toks } :=
    I.call (ch := []) (Un.laid keep hp free) (I.hok.laid keep hp ⟨hlen, out.toList, c, hv, hget⟩) (by rw [g]; exact I.bare) (fun _ z => (nomatch z))
  have e : s' = { s with heap := s'.heap, gens := s'.gens, drawn := s'.drawn, toks := s'.toks } := by
    cases s'; cases s; cases os; rfl
  rw [e]
  exact ⟨.ref p, _, J, rfl, q free⟩
theorem pe_sortSet {e : Expr} {ta : TE} {p p2 q pos : Pos} (hc : X.calm = true) (hg : Gl X "sorted") (hm : X.mg "sorted" = none) (hg2 : Gl X "set") (hm2 : X.mg "set" = none) (ha : PE X e ta)
    (na : starEach [e] X.env = (false, eval e X.env) :: starEach [] X.env := by rfl) : PE X (.Call (.Name "sorted" p) [.Call (.Name "set" p2) [e] [] q] [] pos) (tSortSet X.K ta) := by
  constructor
  intro pins s σ H Q I h
  refine PyProof.Rows.Call_ (ld_blt I hg hm PyProof.Rows.boot_sorted ?_)
  refine PyProof.Rows.callWith_builtin1 (PyProof.Rows.args_cons (PyProof.Rows.Call_ (ld_blt I hg2 hm2 PyProof.Rows.boot_set ?_)) rfl) rfl rfl
  refine PyProof.Rows.callWith_type1 (PyProof.Rows.args_cons (thn (ha.run pins s σ H _ I h) fun v s1 ⟨x, H1, I1, r1, q1⟩ => PyProof.Rows.args_nil ?_) na) na rfl
  have hd := I1.ok.hd hc
  rcases q1 with ⟨l, ns, ex, hs, many, few, q1⟩ | ⟨l, ns, ex, hs, many, few, q1⟩
  · subst ex
    cases r1
    obtain ⟨its, rv, il, _⟩ := I1.list hs
    have hl : its.length = ns.length := by have := rv.length; rw [List.length_map] at this; exact this.symm
    refine call_setL (ns.map Sum.inl) hd il.isList (by rw [List.size_toArray, List.length_map]; exact hl) (fun i v e => vals_int_at rv i v (by simpa using e)) (by rw [List.length_map]; unfold scanBound; omega) fun h' tk hS keep => ?_
    have I2 : Inv X pins σ H1 { s1 with heap := h', toks := tk } := I1.kept keep
    refine PyProof.Rows.args_nil (sortG_int (s := { s1 with heap := h', toks := tk }) hS hd few (by unfold scanBound; omega) fun s' p out c ys k2 g2 o2 p2 at2 i2 lt2 m2 => ?_)
    have fl : ys.length < 64 := few ys (lt2.imp fun h => by omega) m2
    exact laid_sorted I2 k2 g2 o2 p2 at2 (vals_of_ints i2) (by rw [List.length_map, sizeLine_eq]; omega) (q1 p ys lt2 m2)
  · subst ex
    cases r1
    obtain ⟨its, rv, il, _⟩ := I1.list hs
    have hl : its.length = ns.length := by have := rv.length; rw [List.length_map] at this; exact this.symm
    refine call_setL (ns.map Sum.inr) hd il.isList (by rw [List.size_toArray, List.length_map]; exact hl) (fun i v e => vals_str_at rv i v (by simpa using e)) (by rw [List.length_map]; unfold scanBound; omega) fun h' tk hS keep => ?_
    have I2 : Inv X pins σ H1 { s1 with heap := h', toks := tk } := I1.kept keep
    refine PyProof.Rows.args_nil (sortG_str (s := { s1 with heap := h', toks := tk }) hS hd few (by unfold scanBound; omega) fun s' p out c ys k2 g2 o2 p2 at2 i2 nd2 lt2 m2 => ?_)
    have fl : ys.length < 64 := few ys nd2 m2
    exact laid_sorted I2 k2 g2 o2 p2 at2 (vals_of_strs i2) (by rw [List.length_map, sizeLine_eq]; omega) (q1 p ys nd2 lt2 m2)
end
end Vi

/-! ## ViSet5 -/
set_option Elab.async false
set_option linter.all false
set_option maxRecDepth 100000
set_option maxHeartbeats 3200000
namespace Vi
open PySem L2
theorem mem_dedup {α : Type} [DecidableEq α] {a : α} : ∀ {l : List α}, a ∈ dedup l ↔ a ∈ l
  | [] => Iff.rfl
  | x :: l => by
    unfold dedup
    by_cases h : x ∈ l
    · rw [if_pos h, mem_dedup, List.mem_cons]
      exact ⟨.inr, fun q => q.elim (fun e => e ▸ h) id⟩
    · rw [if_neg h, List.mem_cons, List.mem_cons, mem_dedup]
theorem dedup_nd {α : Type} [DecidableEq α] : ∀ l : List α, (dedup l).Nodup
  | [] => List.nodup_nil
  | x :: l => by
    unfold dedup
    by_cases h : x ∈ l
    · rw [if_pos h]; exact dedup_nd l
    · rw [if_neg h]; exact List.nodup_cons.mpr ⟨fun q => h (mem_dedup.mp q), dedup_nd l⟩
theorem few_of {α : Type} [DecidableEq α] {l : List α} (h : (dedup l).length < 64) : Few l := fun l' nd m => by
  have := ((List.perm_ext_iff_of_nodup nd (dedup_nd l)).mpr fun a => (m a).trans mem_dedup.symm).length_eq
  omega
theorem sortI_eq {ns ys : List Int} (h : ys.Pairwise (· < ·)) (m : ∀ k, k ∈ ys ↔ k ∈ ns) : ys = sortI (dedup ns) := by
  have p1 : ys.Perm (dedup ns) := (List.perm_ext_iff_of_nodup (h.imp fun h => by omega) (dedup_nd ns)).mpr fun a => (m a).trans mem_dedup.symm
  have p2 : ys.Perm (sortI (dedup ns)) := p1.trans (isortL_perm leI _).symm
  have s2 : (sortI (dedup ns)).Pairwise (· ≤ ·) := (isortL_pw leI_tot leI_tr _).imp fun h => by unfold leI at h; simpa using h
  exact List.Perm.eq_of_pairwise (le := (· ≤ ·)) (fun a b _ _ h1 h2 => by omega) (h.imp fun h => Int.le_of_lt h) s2 p2
abbrev LeS (a b : List Nat) : Prop := ¬ b < a
theorem leS_trans {a b c : List Nat} (h1 : LeS a b) (h2 : LeS b c) : LeS a c := List.le_trans (α := Nat) h1 h2
theorem leS_total (a b : List Nat) : LeS a b ∨ LeS b a := List.le_total a b
theorem leS_anti {a b : List Nat} (h1 : LeS a b) (h2 : LeS b a) : a = b := List.le_antisymm h1 h2
theorem leT_iff {a b : List Nat} : leT a b = true ↔ LeS a b := by unfold leT; simp
theorem leT_tot (a b : List Nat) (h : leT a b = false) : leT b a = true := by
  rcases leS_total a b with q | q
  · rw [leT_iff.mpr q] at h; cases h
  · exact leT_iff.mpr q
theorem leT_tr (a b c : List Nat) (h : leT a b = true) (h2 : leT b c = true) : leT a c = true := leT_iff.mpr (leS_trans (leT_iff.mp h) (leT_iff.mp h2))
theorem rising_pw : ∀ (p : Str) (ss : List Str), PyProof.Rows.risingS p ss = true → (∀ x ∈ ss, LeS p.cps.toList x.cps.toList) ∧ ss.Pairwise fun x y => LeS x.cps.toList y.cps.toList
  | p, [], _ => ⟨fun _ h => (nomatch h), List.Pairwise.nil⟩
  | p, x :: r, h => by
    unfold PyProof.Rows.risingS at h
    rw [Bool.and_eq_true] at h
    obtain ⟨h1, h2⟩ := rising_pw x r h.2
    have h0 : LeS p.cps.toList x.cps.toList := by
      have := h.1
      rw [PyProof.Rows.ltCps_eq] at this
      simpa using this
    refine ⟨fun y hy => ?_, List.pairwise_cons.mpr ⟨h1, h2⟩⟩
    rcases List.mem_cons.mp hy with e | e
    · rw [e]; exact h0
    · exact leS_trans h0 (h1 y e)
theorem sorted_pw : ∀ ss : List Str, PyProof.Rows.sortedS ss = true → ss.Pairwise fun x y => LeS x.cps.toList y.cps.toList
  | [], _ => List.Pairwise.nil
  | x :: r, h => List.pairwise_cons.mpr (rising_pw x r h)
theorem toS_in (s : Str) : toS s.cps.toList = s := by
  obtain ⟨a⟩ := s
  show (⟨a.toList.toArray⟩ : Str) = ⟨a⟩
  rw [Array.toArray_toList]
theorem in_toS (s : List Nat) : (toS s).cps.toList = s := rfl
theorem sortS_eq {xs : List (List Nat)} {ys : List Str} (nd : ys.Nodup) (h : PyProof.Rows.sortedS ys = true) (m : ∀ k, k ∈ ys ↔ k ∈ xs.map toS) : ys = (sortS (dedup xs)).map toS := by
  have e : ys = (ys.map fun s => s.cps.toList).map toS := by
    rw [List.map_map]
    have : (toS ∘ fun s : Str => s.cps.toList) = id := funext fun s => toS_in s
    rw [this, List.map_id]
  have nd2 : (ys.map fun s => s.cps.toList).Nodup := by
    rw [e] at nd
    exact List.Pairwise.of_map toS (fun _ _ h q => h (congrArg _ q)) nd
  have m2 : ∀ k, k ∈ ys.map (fun s => s.cps.toList) ↔ k ∈ xs := fun k => by
    rw [List.mem_map]
    constructor
    · rintro ⟨s, hs, q⟩
      obtain ⟨t, ht, q2⟩ := List.mem_map.mp ((m s).mp hs)
      rw [← q, ← q2, in_toS]; exact ht
    · intro hk
      exact ⟨toS k, (m _).mpr (List.mem_map.mpr ⟨k, hk, rfl⟩), in_toS k⟩
  have p1 := (List.perm_ext_iff_of_nodup nd2 (dedup_nd xs)).mpr fun a => (m2 a).trans mem_dedup.symm
  have p2 := p1.trans (isortL_perm leT (dedup xs)).symm
  have s1 : (ys.map fun s => s.cps.toList).Pairwise LeS := List.pairwise_map.mpr (sorted_pw ys h)
  have s2 : (sortS (dedup xs)).Pairwise LeS := (isortL_pw leT_tot leT_tr _).imp fun h => leT_iff.mp h
  have key := List.Perm.eq_of_pairwise (le := LeS) (fun a b _ _ h1 h2 => leS_anti h1 h2) s1 s2 p2
  rw [e]
  exact congrArg _ key
section
variable {cm : Nat → Addr} {X : Cx} {W : WX} {K : PySem.W.Frag} {n : Nat}
def rSortSet (K : PySem.W.Frag) : V → Hp → VK → Prop := fun x H1 Q =>
  (∃ (l : Addr) (ns : List Int), x = .ref l ∧ SqL K H1 l (ns.map V.int) ∧ ns.length < 4000 ∧ Few ns ∧ ∀ (p : Addr) (ys : List Int), ys.Pairwise (· < ·) → (∀ k : Int, k ∈ ys ↔ k ∈ ns) → H1 p = none → Q (.ref p) (upd H1 p (.lst (ys.map V.int)))) ∨
  ∃ (l : Addr) (xs : List Str), x = .ref l ∧ SqL K H1 l (xs.map V.str) ∧ xs.length < 4000 ∧ Few xs ∧ ∀ (p : Addr) (ys : List Str), ys.Nodup → PyProof.Rows.sortedS ys = true → (∀ k : Str, k ∈ ys ↔ k ∈ xs) → H1 p = none → Q (.ref p) (upd H1 p (.lst (ys.map V.str)))
theorem denl_strs {G : Hp} : ∀ xs : List (List Nat), DenL cm K G (xs.map D.str) ((xs.map toS).map V.str)
  | [] => rfl
  | i :: ns => ⟨V.str (toS i), _, rfl, rfl, denl_strs ns⟩
theorem s_sortSet : UnS cm K n (rSortSet K) sortSetD := fun c H d x h Q hd hg k => by
  unfold sortSetD at hg
  split at hg
  · rename_i ds
    obtain ⟨a, vs, e, h1, h2⟩ := hd
    subst e
    split at hg
    · rename_i ns e1
      by_cases hz : ns.length < 4000 ∧ (dedup ns).length < 64
      case neg => rw [if_neg hz] at hg; cases hg
      rw [if_pos hz] at hg
      cases hg
      have ev := ints_v h2 e1
      subst ev
      refine .inl ⟨a, ns, rfl, SqL.of h1, hz.1, few_of hz.2, fun p ys hs hm hp => ?_⟩
      have q := sortI_eq hs hm
      subst q
      exact k _ _ _ (Ext.alloc hp) (hdv_new_lst hp (denl_ints _))
    · split at hg
      · rename_i xs e1
        by_cases hz : xs.length < 4000 ∧ (dedup xs).length < 64
        case neg => rw [if_neg hz] at hg; cases hg
        rw [if_pos hz] at hg
        cases hg
        have ev := strs_v h2 e1
        subst ev
        have few : Few (xs.map toS) := fun l' nd m => by
          have f := few_of hz.2
          have nd2 : (l'.map fun s : Str => s.cps.toList).Nodup := by
            have e : l' = (l'.map fun s : Str => s.cps.toList).map toS := by
              rw [List.map_map]
              have : (toS ∘ fun s : Str => s.cps.toList) = id := funext fun s => toS_in s
              rw [this, List.map_id]
            rw [e] at nd
            exact List.Pairwise.of_map toS (fun _ _ h q => h (congrArg _ q)) nd
          have := f _ nd2 fun s => by
            rw [List.mem_map]
            constructor
            · rintro ⟨t, ht, q⟩
              obtain ⟨u, hu, q2⟩ := List.mem_map.mp ((m t).mp ht)
              rw [← q, ← q2, in_toS]; exact hu
            · intro hs
              exact ⟨toS s, (m _).mpr (List.mem_map.mpr ⟨s, hs, rfl⟩), in_toS s⟩
          rw [List.length_map] at this
          exact this
        refine .inr ⟨a, xs.map toS, rfl, SqL.of h1, by rw [List.length_map]; exact hz.1, few, fun p ys nd hs hm hp => ?_⟩
        have q := sortS_eq nd hs hm
        subst q
        exact k _ _ _ (Ext.alloc hp) (hdv_new_lst hp (denl_strs _))
      · cases hg
  · cases hg
theorem ve_sortSet {e : Expr} {te : TE} {f : M Hd} {p p2 pos pos2 : Pos} (hc : X.calm = true) (hm : X.mg "sorted" = none) (hm2 : X.mg "set" = none) (h : VE cm X W e te f) (hK : X.K = K := by rfl) (hg : Gl X "sorted" := by rfl) (hg2 : Gl X "set" := by rfl)
    (na : starEach [e] X.env = (false, eval e X.env) :: starEach [] X.env := by rfl) : VE cm X W (.Call (.Name "sorted" p) [.Call (.Name "set" p2) [e] [] pos2] [] pos) (tUn (rSortSet K) te) (eUn sortSetD f) := by
  subst hK
  exact ⟨pe_sortSet hc hg hm hg2 hm2 h.pe na, sem_un s_sortSet h.sem⟩
end
end Vi

/-! ## ViTry -/
set_option Elab.async false
set_option linter.all false
set_option maxRecDepth 100000
set_option maxHeartbeats 400000
namespace Vi
open PySem L2
/-! ### x += e, x -= e (ints) -/
def int1 : S → Option Int | .fr (.int a) => some a | _ => none
def sAug (i : Nat) (g : Int → Int → Int) (f : M Hd) : M Fl := fun ρ => match int1 (at_ ρ i) with
  | some a => (f >>= fun h => rd h >>= fun d => M.lift (int? d) >>= fun b => put i (.val (.int (g a b))) >>= fun _ => (pure .nx : M Fl)) ρ
  | none => .bad
section
variable {cm : Nat → Addr} {X : Cx} {W : WX} {K : PySem.W.Frag} {n : Nat}
theorem int1_ok {s : S} {a : Int} (h : int1 s = some a) : s = .fr (.int a) := by
  cases s with
  | fr d => cases d with
    | int b => cases h; rfl
    | _ => cases h
  | _ => cases h
theorem sem_aug {i : Nat} {g : Int → Int → Int} {te : TE} {f : M Hd} (hi : i < n) (h : Sem cm K n W (HdOk cm K n) te f) : SemS cm K n W (tAug i te (ipI g)) (sAug i g f) := fun ρ c σ H Dn r q => by
  unfold sAug at q
  cases e : int1 (at_ ρ i) with
  | none => rw [e] at q; exact q.elim
  | some a =>
    rw [e] at q
    obtain ⟨v, h1, u, e1, e2⟩ := r.at_ i _ (at_some (int1_ok e) (fun z => (nomatch z)))
    subst e1
    have e2 : u = .int a := e2
    subst e2
    refine ⟨_, h1, sem_in h r q fun x ρ1 c1 H1 y s1 r1 hx q1 => ?_⟩
    rw [M.bind_run] at q1
    rcases rd_cases x ρ1 with ⟨d, er⟩ | er
    case inr => rw [er] at q1; exact q1.elim
    rw [er] at q1
    have dr := (rd_ok r1 hx er).2
    cases d with
    | int b =>
      have ey : y = .int b := den_int dr
      subst ey
      have q2 : QS cm K n W Dn ρ σ c H ((put i (.val (.int (g a b))) >>= fun _ => (pure .nx : M Fl)) ρ1) := q1
      exact ⟨a, b, rfl, rfl, put_in s1 r1 (show HdOk cm K n H c1 H1 σ (.val (.int (g a b))) (.int (g a b)) from rfl) hi q2 fun ρ2 c2 s2 k2 r2 q3 => q3 c2 _ H1 s2 k2 r2⟩
    | _ => exact q1.elim
theorem vs_aug (i : Nat) {x : Str} {op : Operator} {g : Int → Int → Int} {e : Expr} {te : TE} {f : M Hd} {pos pos' : Pos} (hN : X.N.Nodup) (ho : PIp X op (ipI g)) (he : VE cm X W e te f) (hi : X.N[i]? = some x := by rfl) (hx : Loc X.env.scope x := by first | exact Or.inl rfl | exact Or.inr rfl)
    (hf : X.fn x = true ∨ X.env.scope.names.lookup x = some .local := by first | exact .inl rfl | exact .inr rfl | assumption) : VS cm X W (.AugAssign (.Name x pos') op e pos) (tAug i te (ipI g)) (sAug i g f) :=
  ⟨ps_aug hN hi hx he.pe ho hf, sem_aug (List.getElem?_eq_some_iff.mp hi).1 he.sem⟩
end
end Vi

/-! ## ViTry2 -/
set_option Elab.async false
set_option linter.all false
set_option maxRecDepth 100000
set_option maxHeartbeats 400000
namespace Vi
open PySem L2
/-! ### try: .. except C as error: .. (the suite asks of what class the error is). In the suite class 0 is the error itself. -/
mutual
def noE : D → Bool
  | .cls 0 => false
  | .obj 0 _ _ => false
  | .lst xs => noEs xs
  | .tup xs => noEs xs
  | .dic _ xs => noEs xs
  | .obj (_ + 1) _ xs => noEs xs
  | _ => true
def noEs : List D → Bool
  | [] => true
  | d :: ds => noE d && noEs ds
end
def noES : S → Bool
  | .un => true
  | .fr d => noE d
  | .own d => noE d
  | .bor d => noE d
  | .rc _ d => noE d
  | .tab _ => true
def cmE (cm : Nat → Addr) (a : Addr) : Nat → Addr := fun k => match k with | 0 => a | k + 1 => cm (k + 1)
section
variable {cm cm' : Nat → Addr} {K : PySem.W.Frag} {n : Nat} {c : Col} {H G : Hp}
mutual
theorem den_cm (h : ∀ k, cm (k + 1) = cm' (k + 1)) : ∀ (d : D) (v : V), noE d = true → Den cm K G d v → Den cm' K G d v
  | .non, v, _, q => q
  | .bl b, v, _, q => q
  | .int i, v, _, q => q
  | .str s, v, _, q => q
  | .lst xs, v, e, ⟨a, vs, h1, h2, h3⟩ => ⟨a, vs, h1, h2, denl_cm h xs vs (by unfold noE at e; exact e) h3⟩
  | .tup xs, v, e, ⟨a, vs, h1, h2, h3⟩ => ⟨a, vs, h1, h2, denl_cm h xs vs (by unfold noE at e; exact e) h3⟩
  | .dic ks xs, v, e, ⟨a, vs, h1, h2, h3, h4⟩ => ⟨a, vs, h1, h2, h3, denl_cm h xs vs (by unfold noE at e; exact e) h4⟩
  | .obj 0 ns xs, v, e, q => by unfold noE at e; cases e
  | .obj (k + 1) ns xs, v, e, ⟨a, dx, vs, h1, h2, h3, h4⟩ => ⟨a, dx, vs, h1, by rw [← h k]; exact h2, h3, denl_cm h xs vs (by unfold noE at e; exact e) h4⟩
  | .ty n, v, _, q => q
  | .cls 0, v, e, q => by unfold noE at e; cases e
  | .cls (k + 1), v, _, q => by
    have q : v = .ref (cm (k + 1)) := q
    rw [h k] at q
    exact q
  | .scr ns, v, _, q => q
theorem denl_cm (h : ∀ k, cm (k + 1) = cm' (k + 1)) : ∀ (ds : List D) (vs : List V), noEs ds = true → DenL cm K G ds vs → DenL cm' K G ds vs
  | [], vs, _, q => q
  | d :: ds, vs, e, ⟨v, r, h1, h2, h3⟩ => by
    unfold noEs at e
    rw [Bool.and_eq_true] at e
    exact ⟨v, r, h1, den_cm h d v e.1 h2, denl_cm h ds r e.2 h3⟩
end
theorem denx_cm {Gt Gi : Hp} (h : ∀ k, cm (k + 1) = cm' (k + 1)) (d : D) (v : V) (e : noE d = true) (q : DenX cm K Gt Gi d v) : DenX cm' K Gt Gi d v := by
  cases d with
  | lst xs => obtain ⟨a, vs, h1, h2, h3⟩ := q; exact ⟨a, vs, h1, h2, denl_cm h xs vs (by unfold noE at e; exact e) h3⟩
  | dic ks xs => obtain ⟨a, vs, h1, h2, h3, h4⟩ := q; exact ⟨a, vs, h1, h2, h3, denl_cm h xs vs (by unfold noE at e; exact e) h4⟩
  | non => exact den_cm h _ _ e q
  | bl b => exact den_cm h _ _ e q
  | int b => exact den_cm h _ _ e q
  | str b => exact den_cm h _ _ e q
  | tup b => exact den_cm h _ _ e q
  | obj b _ _ => exact den_cm h _ _ e q
  | ty b => exact den_cm h _ _ e q
  | cls b => exact den_cm h _ _ e q
  | scr b => exact den_cm h _ _ e q
theorem noEs_get : ∀ {xs : List D} {i : Nat} {d : D}, noEs xs = true → xs[i]? = some d → noE d = true
  | [], i, d, _, h => by simp at h
  | x :: xs, 0, d, e, h => by
    unfold noEs at e
    rw [Bool.and_eq_true] at e
    have : x = d := by simpa using h
    rw [← this]; exact e.1
  | x :: xs, i + 1, d, e, h => by
    unfold noEs at e
    rw [Bool.and_eq_true] at e
    exact noEs_get (i := i) e.2 (by simpa using h)
theorem rec_cm {P : Addr → Prop} (h : ∀ k, cm (k + 1) = cm' (k + 1)) {v : V} {d : D} (e : noE d = true) (q : RecC cm K G H P v d) : RecC cm' K G H P v d := by
  obtain ⟨a, xs, vs, e1, p, hd, f⟩ := q
  have key : noEs xs = true ∧ HeadO cm' H a d xs vs := by
    cases d with
    | obj k ns ys =>
      obtain ⟨z1, z2, dx, z3⟩ := hd
      subst z1
      cases k with
      | zero => unfold noE at e; cases e
      | succ k => exact ⟨by unfold noE at e; exact e, rfl, z2, dx, by rw [← h k]; exact z3⟩
    | dic ks ys =>
      obtain ⟨z1, z2, z3⟩ := hd
      subst z1
      exact ⟨by unfold noE at e; exact e, rfl, z2, z3⟩
    | _ => exact hd.elim
  refine ⟨a, xs, vs, e1, p, key.2, f.len, fun i d v h1 h2 => ?_, f.apart⟩
  have hn := noEs_get key.1 h1
  have q := f.ok i d v h1 h2
  cases d with
  | lst ys => obtain ⟨b, us, q1, q2, q3, q4⟩ := q; exact ⟨b, us, q1, q2, q3, denl_cm h ys us (by unfold noE at hn; exact hn) q4⟩
  | non => exact den_cm h _ _ hn q
  | bl b => exact den_cm h _ _ hn q
  | int b => exact den_cm h _ _ hn q
  | str b => exact den_cm h _ _ hn q
  | tup b => exact den_cm h _ _ hn q
  | dic _ b => exact den_cm h _ _ hn q
  | obj b _ _ => exact den_cm h _ _ hn q
  | ty b => exact den_cm h _ _ hn q
  | cls b => exact den_cm h _ _ hn q
  | scr b => exact den_cm h _ _ hn q
theorem reps_cm (h : ∀ k, cm (k + 1) = cm' (k + 1)) {i : Nat} {v : Option V} {s : S} (e : noES s = true) (q : RepS cm K n c H i v s) : RepS cm' K n c H i v s := by
  cases s with
  | un => exact q
  | fr d => obtain ⟨u, h1, h2⟩ := q; exact ⟨u, h1, den_cm h d u e h2⟩
  | bor d => obtain ⟨u, h1, h2⟩ := q; exact ⟨u, h1, denx_cm h d u e h2⟩
  | rc p d => obtain ⟨u, h1, h2⟩ := q; exact ⟨u, h1, rec_cm h e h2⟩
  | tab ts =>
    have e : ∀ p ∈ ts, cm p.1 = cm' p.1 := fun p hp => by
      obtain ⟨k, hk⟩ : ∃ k, p.1 = k + 1 := ⟨p.1 - 1, by have := (q.2 p hp).1; omega⟩
      rw [hk]; exact h k
    refine ⟨fun p hp p' hp' z => q.1 p hp p' hp' (by rw [e p hp, e p' hp']; exact z), fun p hp => ?_⟩
    obtain ⟨h1, h2, h3⟩ := q.2 p hp
    exact ⟨h1, by rw [← e p hp]; exact h2, by rw [← e p hp]; exact h3⟩
  | own d =>
    obtain ⟨a, h1, h2, h3⟩ := q
    refine ⟨a, h1, h2, ?_⟩
    cases d with
    | lst xs => obtain ⟨vs, k1, k2⟩ := h3; exact ⟨vs, k1, denl_cm h xs vs (by unfold noES noE at e; exact e) k2⟩
    | dic ks xs => obtain ⟨vs, k1, k2, k3⟩ := h3; exact ⟨vs, k1, k2, denl_cm h xs vs (by unfold noES noE at e; exact e) k3⟩
    | _ => exact h3.elim
theorem rep_cm (h : ∀ k, cm (k + 1) = cm' (k + 1)) {ρ : List S} {σ : St} (e : ρ.all noES = true) (r : Rep cm K n c H ρ σ) : Rep cm' K n c H ρ σ :=
  ⟨r.len, r.lenσ, fun i s hs => by
    obtain ⟨v, h1, h2⟩ := r.at_ i s hs
    exact ⟨v, h1, reps_cm h (List.all_eq_true.mp e s (List.mem_of_getElem? hs)) h2⟩⟩
theorem rep_un {ρ : List S} {σ : St} (i : Nat) (r : Rep cm K n c H ρ σ) : Rep cm K n c H (ρ.set i .un) (σ.set i none) :=
  ⟨by rw [List.length_set]; exact r.len, by rw [List.length_set]; exact r.lenσ, fun j s hs => by
    by_cases e : i = j
    · subst e
      have hi : i < ρ.length := by
        rcases Nat.lt_or_ge i ρ.length with h | h
        · exact h
        · rw [List.getElem?_eq_none (by rw [List.length_set]; exact h)] at hs; cases hs
      rw [List.getElem?_set_self hi] at hs
      cases hs
      exact ⟨none, List.getElem?_set_self (by rw [r.lenσ, ← r.len]; exact hi), trivial⟩
    · rw [List.getElem?_set_ne e] at hs
      obtain ⟨v, h1, h2⟩ := r.at_ j s hs
      exact ⟨v, by rw [List.getElem?_set_ne e]; exact h1, h2⟩⟩
theorem cmE_eq (cm : Nat → Addr) (a : Addr) (k : Nat) : cm (k + 1) = cmE cm a (k + 1) := rfl
end
/-- of what class an error is, from the written part -/
theorem kit_cls {K : PySem.W.Frag} {S C : Addr} {b : Bool} (h1 : PySem.W.isClsIn K C = true) (h2 : PySem.W.typeIn K (.ref C) = some (.type "type")) (h3 : PySem.W.subIn K (.ref S) (.ref C) = some b) : PySem.W.kitCls K (.ref S) (.ref C) = some b := by
  have e : ((PySem.W.clsIn K C).isSome && PySem.W.typeIn K (.ref C) == some (.type "type")) = true := by
    have h1 : (PySem.W.clsIn K C).isSome = true := h1
    rw [h1, h2]; rfl
  show (if ((PySem.W.clsIn K C).isSome && PySem.W.typeIn K (.ref C) == some (.type "type")) = true then PySem.W.subIn K (.ref S) (.ref C) else none) = some b
  rw [if_pos e]; exact h3
theorem kit_one {K : PySem.W.Frag} {S C : Addr} {b : Bool} (h0 : PySem.W.subIn K (.ref S) (.ref S) = some true) (h1 : PySem.W.isClsIn K C = true) (h2 : PySem.W.typeIn K (.ref C) = some (.type "type")) (h3 : PySem.W.subIn K (.ref S) (.ref C) = some b) : PySem.W.kitOne K (.ref S) (.ref C) = some b := by
  unfold PySem.W.kitOne
  by_cases e : (Value.ref S == Value.ref C) = true
  · rw [if_pos e]
    have e2 : Value.ref S = Value.ref C := by simpa using e
    rw [← e2, h0] at h3
    exact h3
  · rw [if_neg e]; exact kit_cls h1 h2 h3
theorem kit_ty1 {K : PySem.W.Frag} {S : Addr} {T : String} {b : Bool} (hT : PySem.W.kitMeta T = true) (h3 : PySem.W.subIn K (.ref S) (.type T) = some b) : PySem.W.kitOne K (.ref S) (.type T) = some b := by
  unfold PySem.W.kitOne
  rw [if_neg (by simp)]
  show (if PySem.W.kitMeta T = true then PySem.W.subIn K (.ref S) (.type T) else none) = some b
  rw [if_pos hT]; exact h3
theorem exm_one {K : PySem.W.Frag} {S C : Addr} {b : Bool} (h0 : PySem.W.subIn K (.ref C) (.type "BaseException") = some true) (h1 : PySem.W.isClsIn K C = true) (h2 : PySem.W.typeIn K (.ref C) = some (.type "type")) (h3 : PySem.W.subIn K (.ref S) (.ref C) = some b) : PySem.W.exmOne K (.ref S) (.ref C) = some b := by
  have e : (PySem.W.subIn K (.ref C) (.type "BaseException") == some true) = true := by rw [h0]; rfl
  show (if (PySem.W.subIn K (.ref C) (.type "BaseException") == some true) = true then PySem.W.kitCls K (.ref S) (.ref C) else none) = some b
  rw [if_pos e]; exact kit_cls h1 h2 h3
def endTry (i : Nat) : R Fl → R Fl
  | .ok .nx ρ => if (ρ.set i .un).all noES = true then .ok .nx (ρ.set i .un) else .bad
  | _ => .bad
/-- hd: which classes are caught (none: not known) -/
def sTry (i : Nat) (hd : Nat → Option Bool) (body : M Fl) (suite : Nat → M Fl) : M Fl := fun ρ => match body ρ with
  | .exc k ρ1 => match hd k with
    | some true => if ρ1.all noES = true then endTry i (suite k (ρ1.set i (.fr (.cls 0)))) else .bad
    | some false => .exc k ρ1
    | none => .bad
  | r => r
section
variable {cm : Nat → Addr} {X : Cx}
/-- the suite's trace, whatever the error's class is -/
def tsE (cm : Nat → Addr) (hd : Nat → Option Bool) (ts : Nat → Addr → TS) : Addr → Value → Option Addr → TS := fun a cls d D σ H => ∃ k, cls = .ref (cm k) ∧ d = none ∧ hd k = some true ∧ ts k a D σ H
theorem sem_try {K : PySem.W.Frag} {n : Nat} {i c : Nat} {hd : Nat → Option Bool} {tb : WX → TS} {ts : Nat → Addr → TS} {Wout : WX} {fb : M Fl} {fs : Nat → M Fl} (lt : i < n) (hx : ∀ k b, hd k = some b → PySem.W.exmOne K (.ref (cm k)) (.ref (cm c)) = some b)
    (hb : ∀ W, SemS cm K n W (tb W) fb) (hsu : ∀ k, hd k = some true → ∀ a, SemS (cmE cm a) K n W0 (ts k a) (fs k)) :
    SemS cm K n Wout (fun D σ H => tb (wAs K (.ref (cm c)) i (tsE cm hd ts) Wout D) D σ H) (sTry i hd fb fs) := fun ρ cl σ H Dn r q => by
  refine hb _ ρ cl σ H Dn r ?_
  unfold sTry at q
  cases e : fb ρ with
  | bad => rw [e] at q; exact q
  | ok f ρ1 => 
    rw [e] at q
    cases f with
    | nx => exact q
    | bk => exact q
    | ct => exact q
    | rt z => exact q
    | rr z => exact q
  | exc k ρ1 =>
    rw [e] at q
    dsimp only at q
    intro c1 σ1 H1 s1 k1 r1
    cases ek : hd k with
    | none => rw [ek] at q; exact q.elim
    | some b =>
      refine ⟨b, hx k b ek, fun eb a ha => ?_, fun eb => ?_⟩
      · subst eb
        rw [ek] at q
        dsimp only at q
        by_cases g1 : ρ1.all noES = true
        case neg => rw [if_neg g1] at q; exact q.elim
        rw [if_pos g1] at q
        refine ⟨k, rfl, rfl, ek, ?_⟩
        have r1' := rep_cm (cm := cm) (cm' := cmE cm a) (fun j => rfl) g1 r1
        have r2 : Rep (cmE cm a) K n c1 H1 (ρ1.set i (.fr (.cls 0))) (σ1.set i (some (.ref a))) := r1'.store ⟨.ref a, rfl, rfl⟩
        have k2 : Kp ρ1 (ρ1.set i (.fr (.cls 0))) σ1 (σ1.set i (some (.ref a))) := Kp.set rfl
        refine hsu k ek a _ c1 _ H1 _ r2 ?_
        cases e2 : fs k (ρ1.set i (.fr (.cls 0))) with
        | bad => rw [e2] at q; exact q.elim
        | exc j ρ2 => rw [e2] at q; exact q.elim
        | ok f ρ2 =>
          rw [e2] at q
          cases f with
          | bk => exact q.elim
          | ct => exact q.elim
          | rt z => exact q.elim
          | rr z => exact q.elim
          | nx =>
            intro c2 σ2 H2 s2 k3 r3
            have q : QS cm K n Wout Dn ρ σ cl H (if (ρ2.set i .un).all noES = true then .ok .nx (ρ2.set i .un) else .bad) := q
            by_cases g2 : (ρ2.set i .un).all noES = true
            case neg => rw [if_neg g2] at q; exact q.elim
            rw [if_pos g2] at q
            have r4 : Rep (cmE cm a) K n c2 H2 (ρ2.set i .un) (σ2.set i none) := rep_un i r3
            have r5 : Rep cm K n c2 H2 (ρ2.set i .un) (σ2.set i none) := rep_cm (cm := cmE cm a) (cm' := cm) (fun j => rfl) g2 r4
            have k4 : Kp ρ2 (ρ2.set i .un) σ2 (σ2.set i none) := Kp.set rfl
            exact (show QN cm K n Dn.nx ρ σ cl H (ρ2.set i .un) from q) c2 _ H2 (s1.trans s2) (((k1.trans k2).trans k3).trans k4) r5
      · subst eb
        rw [ek] at q
        exact (show QN cm K n (Wout (.ref (cm k)) none) ρ σ cl H ρ1 from q) c1 σ1 H1 s1 k1 r1
theorem vs_try (i c : Nat) {hd : Nat → Option Bool} {x nm : Str} {body suite : List Stmt} {b₀ : Stmt} {np pos pos' : Pos} {tb : WX → TS} {ts : Nat → Addr → TS} {Wout : WX} {fb : M Fl} {fs : Nat → M Fl} (hN : X.N.Nodup) (tk : Takes X Wout) (hx : ∀ k b, hd k = some b → PySem.W.exmOne X.K (.ref (cm k)) (.ref (cm c)) = some b)
    (hc : Names X x (.ref (cm c))) (hb : ∀ (W : WX) (pn : List (Addr × Obj)) (xe : Value → Shared → Prop), Takes (X.tr pn xe) W → PassesOwn (model X.prog X.w) X.A X.env xe → PSs (X.tr pn xe) body (tb W)) (hbs : ∀ W, SemS cm X.K X.N.length W (tb W) fb)
    (hsu : ∀ k, hd k = some true → ∀ (a : Addr) (oe : Obj) (pn : List (Addr × Obj)), Zc (.ref (cm k)) none oe → (∃ vs, oe.data = .fields vs) → VSs (cmE cm a) (X.suite a ((a, oe) :: pn)) W0 (b₀ :: suite) (ts k a) (fs k))
    (hi : X.N[i]? = some nm := by rfl) (hs : X.stack = X.env :: X.outer := by rfl) (hf : X.env.frame = some X.env.locals := by rfl) (hln : X.env.kindOf nm = some .local := by rfl) :
    VS cm X Wout (.Try body [.ExceptHandler (some (.Name x np)) (some nm) (b₀ :: suite) pos'] [] [] pos) (fun D σ H => tb (wAs X.K (.ref (cm c)) i (tsE cm hd ts) Wout D) D σ H) (sTry i hd fb fs) := by
  refine ⟨ps_try_as hs hf hN hi hln hc tk hb fun a oe cls d pn hz hv => ⟨fun pins s σ H D I ⟨k, e1, e2, e3, h⟩ => ?_⟩, sem_try (List.getElem?_eq_some_iff.mp hi).1 hx hbs fun k e a => ?_⟩
  · subst e1 e2
    exact (hsu k e3 a oe pn hz hv).pe.run pins s σ H D I h
  · exact (hsu k e a { cls := .ref (cm k), dict := none, data := .fields #[], slots := #[] } [] ⟨rfl, rfl⟩ ⟨_, rfl⟩).sem
/-- the body is one call -/
theorem vs_tryCall (i c : Nat) {j m : Nat} {φ : List D → Out} {hd : Nat → Option Bool} {x nm fx : Str} {suite : List Stmt} {b₀ : Stmt} {np pos pos' : Pos} {ts : Nat → Addr → TS} {Wout : WX} {fs : Nat → M Fl} {e : Expr} {es : List Expr} {t : TA} {f : M (List Hd)} {p p1 p2 : Pos} (hN : X.N.Nodup) (tk : Takes X Wout)
    (hx : ∀ k b, hd k = some b → PySem.W.exmOne X.K (.ref (cm k)) (.ref (cm c)) = some b) (hc : Names X x (.ref (cm c))) (F : Fn X.prog X.w X.K X.mg X.base cm j fx m φ) (hr : Room j X.A)
    (ha : ∀ (W : WX) (pn : List (Addr × Obj)) (xe : Value → Shared → Prop), VA cm (X.tr pn xe) W (e :: es) t f)
    (hsu : ∀ k, hd k = some true → ∀ (a : Addr) (oe : Obj) (pn : List (Addr × Obj)), Zc (.ref (cm k)) none oe → (∃ vs, oe.data = .fields vs) → VSs (cmE cm a) (X.suite a ((a, oe) :: pn)) W0 (b₀ :: suite) (ts k a) (fs k))
    (hi : X.N[i]? = some nm := by rfl) (hs : X.stack = X.env :: X.outer := by rfl) (hf : X.env.frame = some X.env.locals := by rfl) (hln : X.env.kindOf nm = some .local := by rfl)
    (hg : Gl X fx := by rfl) (hdb : (fx == ("__debug__" : Str)) = false := by decide) (he : starEach (e :: es) X.env = (false, eval e X.env) :: starEach es X.env := by rfl) (hpl : (backTo p1 (starEach es X.env)).any (·.1) = false := by rfl)
    (hsw : swapsWith (.Call (.Name fx p) (e :: es) [] p1) none p2.line X.env = pure false := by rfl) :
    VS cm X Wout (.Try [.Expr (.Call (.Name fx p) (e :: es) [] p1) p2] [.ExceptHandler (some (.Name x np)) (some nm) (b₀ :: suite) pos'] [] [] pos) (fun D σ H => tDrop (tCallS (spV cm X.K m φ) (WE (wAs X.K (.ref (cm c)) i (tsE cm hd ts) Wout D)) t) D σ H) (sTry i hd (sExpr (eCall m φ f)) fs) :=
  vs_try i c (tb := fun W => tDrop (tCallS (spV cm X.K m φ) (WE W) t)) hN tk hx hc (fun W pn xe t p => (vss_one (vs_expr (ve_call (X := X.tr pn xe) F hr (passAt t) (ha W pn xe) hg hdb he hpl) hsw)).pe) (fun W => sem_expr (sem_call (ha W [] fun _ _ => True).sem)) hsu hi hs hf hln
/-- isinstance(error, C) -/
def isED (sub : Nat → Nat → Option Bool) (tys : Nat → String → Option Bool) (k : Nat) (d e : D) : Option Hd := match d, e with
  | .cls 0, .cls (c + 1) => (sub k (c + 1)).map fun b => .val (.bl b)
  | .cls 0, .ty T => (tys k T).map fun b => .val (.bl b)
  | _, _ => none
theorem s_isE {K : PySem.W.Frag} {n : Nat} {a : Addr} (k : Nat) {sub : Nat → Nat → Option Bool} {tys : Nat → String → Option Bool} (h1 : ∀ c b, sub k c = some b → PySem.W.kitOne K (.ref (cm k)) (.ref (cm c)) = some b) (h2 : ∀ T b, tys k T = some b → PySem.W.kitOne K (.ref (cm k)) (.type T) = some b) :
    CallS (cmE cm a) K n (rIsE K (cm k) a) (f2 (isED sub tys k)) := calls2 fun c H d e v u hh Q hd he hg kk => by
  unfold isED at hg
  split at hg
  · rename_i c'
    cases eb : sub k (c' + 1) with
    | none => rw [eb] at hg; cases hg
    | some b =>
      rw [eb] at hg; cases hg
      have e1 : v = .ref a := hd
      have e2 : u = .ref (cm (c' + 1)) := he
      subst e1 e2
      exact ⟨_, _, b, rfl, fun _ r => r, h1 _ b eb, kk c H _ Ext.refl rfl⟩
  · rename_i T
    cases eb : tys k T with
    | none => rw [eb] at hg; cases hg
    | some b =>
      rw [eb] at hg; cases hg
      have e1 : v = .ref a := hd
      have e2 : u = .ty T := he
      subst e1 e2
      exact ⟨_, _, b, rfl, fun _ r => r, h2 T b eb, kk c H _ Ext.refl rfl⟩
  · cases hg
end
end Vi

/-! ## ViTry3 -/
set_option Elab.async false
set_option linter.all false
set_option maxRecDepth 100000
set_option maxHeartbeats 400000
namespace Vi
open PySem L2
/-! ### the classes of errors, by lists -/
def lkp {α : Type} [BEq α] (ps : List (Nat × α × Bool)) (k : Nat) (c : α) : Option Bool := (ps.find? fun p => p.1 == k && p.2.1 == c).map fun p => p.2.2
theorem lkp_of {α : Type} [BEq α] [LawfulBEq α] {ps : List (Nat × α × Bool)} {P : Nat → α → Bool → Prop} (h : ∀ p ∈ ps, P p.1 p.2.1 p.2.2) {k : Nat} {c : α} {b : Bool} (e : lkp ps k c = some b) : P k c b := by
  unfold lkp at e
  cases q : ps.find? fun p => p.1 == k && p.2.1 == c with
  | none => rw [q] at e; cases e
  | some p =>
    rw [q] at e
    have e : p.2.2 = b := Option.some.inj e
    have h1 := h p (List.mem_of_find?_eq_some q)
    have h2 := List.find?_some q
    rw [Bool.and_eq_true] at h2
    rw [← eq_of_beq h2.1, ← eq_of_beq h2.2, ← e]
    exact h1
def SubP (K : PySem.W.Frag) (cm : Nat → Addr) (p : Nat × Nat × Bool) : Prop :=
  PySem.W.subIn K (.ref (cm p.1)) (.ref (cm p.2.1)) = some p.2.2 ∧ PySem.W.isClsIn K (cm p.2.1) = true ∧ PySem.W.typeIn K (.ref (cm p.2.1)) = some (.type "type") ∧ PySem.W.subIn K (.ref (cm p.1)) (.ref (cm p.1)) = some true
def TyP (K : PySem.W.Frag) (cm : Nat → Addr) (p : Nat × String × Bool) : Prop := PySem.W.kitMeta p.2.1 = true ∧ PySem.W.subIn K (.ref (cm p.1)) (.type p.2.1) = some p.2.2
section
variable {cm : Nat → Addr} {K : PySem.W.Frag}
theorem kit_of {ps : List (Nat × Nat × Bool)} (h : ∀ p ∈ ps, SubP K cm p) (k c : Nat) (b : Bool) (e : lkp ps k c = some b) : PySem.W.kitOne K (.ref (cm k)) (.ref (cm c)) = some b :=
  lkp_of (P := fun k c b => PySem.W.kitOne K (.ref (cm k)) (.ref (cm c)) = some b) (fun p hp => kit_one (h p hp).2.2.2 (h p hp).2.1 (h p hp).2.2.1 (h p hp).1) e
theorem exm_of {ps : List (Nat × Nat × Bool)} {c : Nat} (h0 : PySem.W.subIn K (.ref (cm c)) (.type "BaseException") = some true) (h : ∀ p ∈ ps, SubP K cm p) (k : Nat) (b : Bool) (e : lkp ps k c = some b) : PySem.W.exmOne K (.ref (cm k)) (.ref (cm c)) = some b :=
  lkp_of (P := fun k d b => d = c → PySem.W.exmOne K (.ref (cm k)) (.ref (cm c)) = some b) (fun p hp q => exm_one h0 (by rw [← q]; exact (h p hp).2.1) (by rw [← q]; exact (h p hp).2.2.1) (by rw [← q]; exact (h p hp).1)) e rfl
theorem kty_of {ps : List (Nat × String × Bool)} (h : ∀ p ∈ ps, TyP K cm p) (k : Nat) (c : String) (b : Bool) (e : lkp ps k c = some b) : PySem.W.kitOne K (.ref (cm k)) (.type c) = some b :=
  lkp_of (P := fun k c b => PySem.W.kitOne K (.ref (cm k)) (.type c) = some b) (fun p hp => kit_ty1 (h p hp).1 (h p hp).2) e
def exL (l : List Nat) (k : Nat) : Prop := k ∈ l
theorem excc_mk {D : Addr} (hg : PySem.W.findIn K (.ref D) "__getattribute__" = some (some (.builtin "BaseException.__getattribute__"))) (hk : PySem.W.findIn K (.ref D) "__getattr__" = some none) (hs : PySem.W.subIn K (.ref D) (.type "BaseException") = some true)
  (hd : PySem.W.hasDictIn K D = true) (ha : PySem.W.findIn K (.ref D) "__class__" = some (some (.builtin "object.__class__"))) (hn : PySem.W.specialIn K (.builtin "object.__class__") "__get__" = some (some (.builtin "getset_descriptor.__get__"))) (ht : PySem.W.takesIn K (.builtin "object.__class__") = some true)
  (hm : PySem.W.mroIn K D (.type "object") = some true) : ExcC K D := ⟨hg, hk, hs, hd, ha, hn, ht, hm⟩
/-- all of a list of errors -/
theorem exc_of {ls : List Nat} (h : ∀ k ∈ ls, ExcC K (cm k)) {ps : List (Nat × Nat × Bool)} {c : Nat} (hp : (ps.all fun p => !(p.2.1 == c && p.2.2) || ls.contains p.1) = true) (k : Nat) (e : lkp ps k c = some true) : ExcC K (cm k) := by
  have := lkp_of (P := fun k d b => d = c → b = true → ls.contains k = true) (fun p hq e1 e2 => by
    have z := List.all_eq_true.mp hp p hq
    rw [e1, e2] at z
    simpa using z) e rfl rfl
  exact h k (List.contains_iff_mem.mp this)
end
end Vi

/-! ## ViMoreK -/
set_option Elab.async false
set_option linter.all false
set_option maxRecDepth 100000
set_option maxHeartbeats 400000
namespace Vi
open PySem L2
/-! list methods, the written part by a letter of its own -/
section
variable {cm : Nat → Addr} {X : Cx} {W : WX} {n : Nat} (K : PySem.W.Frag)
theorem wappK (i : Nat) {x : Str} {e : Expr} {te : TE} {f : M Hd} {p apos pos : Pos} (h : VE cm X W e te f) (hK : X.K = K := by rfl) (hN : X.N[i]? = some x := by rfl) (hv : Vis X.env.scope x := by first | exact Or.inl rfl | exact Or.inr (Or.inl rfl) | exact Or.inr (Or.inr rfl)) (hd : (x == ("__debug__" : Str)) = false := by decide)
    (hcd : (x == ("__classdict__" : Str)) = false := by decide) (h0 : attributeBase (.Name x p) "append" X.env (eval (.Name x p) X.env) = eval (.Name x p) X.env := by rfl)
    (h1 : ((((backTo pos (starEach [e] X.env)).all (!·.1)) && ((backToKw pos (keywordEach [] X.env)).all (·.1.isSome))) && decide (([e].length + ([] : List Keyword).length + if ([] : List Keyword).isEmpty = true then 0 else 1) < 30)) = true := by rfl)
    (h2 : (apos.endLine == pos.line) = true := by rfl) (h3 : starEach [e] X.env = (false, eval e X.env) :: starEach [] X.env := by rfl) :
    VE cm X W (.Call (.Attribute (.Name x p) "append" apos) [e] [] pos) (tBM K "list" rAppend (tVar i) (tCons te tNil)) (eAppend i f) := by
  subst hK
  exact ve_append i h hN hv hd hcd (pe_bm PySem.F.plainAttrs_list PySem.F.slot_list_append PySem.F.type_list_append mt_append (pe_var hN hv hd hcd) (pa_cons h.pe pa_nil h3) h0 h1 h2 h3 rfl)
theorem wextK (i : Nat) {x : Str} {e : Expr} {te : TE} {f : M Hd} {p apos pos : Pos} (h : VE cm X W e te f) (hK : X.K = K := by rfl) (hN : X.N[i]? = some x := by rfl) (hv : Vis X.env.scope x := by first | exact Or.inl rfl | exact Or.inr (Or.inl rfl) | exact Or.inr (Or.inr rfl)) (hd : (x == ("__debug__" : Str)) = false := by decide)
    (hcd : (x == ("__classdict__" : Str)) = false := by decide) (h0 : attributeBase (.Name x p) "extend" X.env (eval (.Name x p) X.env) = eval (.Name x p) X.env := by rfl)
    (h1 : ((((backTo pos (starEach [e] X.env)).all (!·.1)) && ((backToKw pos (keywordEach [] X.env)).all (·.1.isSome))) && decide (([e].length + ([] : List Keyword).length + if ([] : List Keyword).isEmpty = true then 0 else 1) < 30)) = true := by rfl)
    (h2 : (apos.endLine == pos.line) = true := by rfl) (h3 : starEach [e] X.env = (false, eval e X.env) :: starEach [] X.env := by rfl) :
    VE cm X W (.Call (.Attribute (.Name x p) "extend" apos) [e] [] pos) (tBM K "list" rExtend (tVar i) (tCons te tNil)) (eExtend i f) := by
  subst hK
  exact ve_extend i h (pe_bm PySem.F.plainAttrs_list PySem.F.slot_list_extend PySem.F.type_list_extend mt_extend (pe_var hN hv hd hcd) (pa_cons h.pe pa_nil h3) h0 h1 h2 h3 rfl)
theorem wpopK (i : Nat) {x : Str} {p apos pos : Pos} (hK : X.K = K := by rfl) (hN : X.N[i]? = some x := by rfl) (hv : Vis X.env.scope x := by first | exact Or.inl rfl | exact Or.inr (Or.inl rfl) | exact Or.inr (Or.inr rfl)) (hd : (x == ("__debug__" : Str)) = false := by decide)
    (hcd : (x == ("__classdict__" : Str)) = false := by decide) (h0 : attributeBase (.Name x p) "pop" X.env (eval (.Name x p) X.env) = eval (.Name x p) X.env := by rfl)
    (h2 : (apos.endLine == pos.line) = true := by rfl) :
    VE cm X W (.Call (.Attribute (.Name x p) "pop" apos) [] [] pos) (tBM0 K "list" rPop (tVar i)) (ePop i) := by
  subst hK
  exact ve_pop i (pe_bm0 PySem.F.plainAttrs_list PySem.F.slot_list_pop PySem.F.type_list_pop mt_pop (pe_var hN hv hd hcd) h0 h2)
theorem vg_tupK {es : List Expr} {k : Nat} {t : TGs} {m : Nat} {g : List D → M Unit} {is : List Nat} {pos : Pos} (hc : X.calm = true) (h : VGs cm X is es t g) (hK : X.K = K := by rfl)
    (hn : (assignEach es X.env).length = m := by rfl) (hst : (assignEach es X.env).findIdx? (·.1) = none := by rfl) : VG cm X is (.Tuple es k pos) (gTup K m t) (gT m g) := by
  subst hK
  exact vg_tup hc h hn hst
end
end Vi

/-! ## ViEnum -/
set_option Elab.async false
set_option linter.all false
set_option maxRecDepth 100000
set_option maxHeartbeats 400000
namespace Vi
open PySem L2
/-! ### enumerate(xs), zip(xs, ys) -/
def enumD : Nat → List D → List D
  | _, [] => []
  | k, x :: r => .tup [.int (k : Int), x] :: enumD (k + 1) r
def zipD : List D → List D → List D
  | x :: xs, y :: ys => .tup [x, y] :: zipD xs ys
  | _, _ => []
def lstOf : D → Option (List D) | .lst xs => some xs | _ => none
def itEnum (f : M Hd) : M (List D × Option Nat) := f >>= fun h => rd h >>= fun d => fun ρ => match lstOf d with
  | some xs => .ok (enumD 0 xs, lentOf h ρ) ρ
  | none => .bad
/-- the second is not a list of a name's own -/
def zipEnd (h k : Hd) (d e : D) : M (List D × Option Nat) := fun ρ => match lstOf d, lstOf e, lentOf k ρ with
  | some xs, some ys, none => .ok (zipD xs ys, lentOf h ρ) ρ
  | _, _, _ => .bad
def itZip (f g : M Hd) : M (List D × Option Nat) := f >>= fun h => g >>= fun k => rd h >>= fun d => rd k >>= fun e => zipEnd h k d e
theorem enum_get : ∀ {xs : List D} {k i : Nat} {d : D}, (enumD k xs)[i]? = some d → ∃ x, xs[i]? = some x ∧ d = .tup [.int ((k + i : Nat) : Int), x]
  | [], k, i, d, h => by simp [enumD] at h
  | x :: r, k, 0, d, h => by
    have h : some (D.tup [.int (k : Int), x]) = some d := h
    cases h; exact ⟨x, rfl, rfl⟩
  | x :: r, k, i + 1, d, h => by
    have h : (enumD (k + 1) r)[i]? = some d := h
    obtain ⟨y, h1, h2⟩ := enum_get h
    refine ⟨y, h1, ?_⟩
    rw [h2]
    have : k + 1 + i = k + (i + 1) := by omega
    rw [this]
theorem enum_len : ∀ {xs : List D} {k : Nat}, (enumD k xs).length = xs.length
  | [], _ => rfl
  | x :: r, k => by show (enumD (k + 1) r).length + 1 = r.length + 1; rw [enum_len]
theorem zip_get : ∀ {xs ys : List D} {i : Nat} {d : D}, (zipD xs ys)[i]? = some d → ∃ x y, xs[i]? = some x ∧ ys[i]? = some y ∧ d = .tup [x, y]
  | [], ys, i, d, h => by simp [zipD] at h
  | x :: xs, [], i, d, h => by simp [zipD] at h
  | x :: xs, y :: ys, 0, d, h => by
    have h : some (D.tup [x, y]) = some d := h
    cases h; exact ⟨x, y, rfl, rfl, rfl⟩
  | x :: xs, y :: ys, i + 1, d, h => zip_get (xs := xs) (ys := ys) h
theorem zip_len : ∀ {xs ys : List D}, xs.length ≤ (zipD xs ys).length ∨ ys.length ≤ (zipD xs ys).length
  | [], ys => .inl (Nat.zero_le _)
  | x :: xs, [] => .inr (Nat.zero_le _)
  | x :: xs, y :: ys => by
    rcases zip_len (xs := xs) (ys := ys) with h | h
    · exact .inl (Nat.succ_le_succ h)
    · exact .inr (Nat.succ_le_succ h)
section
variable {cm : Nat → Addr} {X : Cx} {W : WX} {K : PySem.W.Frag} {n : Nat} {c c' : Col} {H H' : Hp}
/-- where a list that is walked stands, and that it stands still meanwhile -/
theorem lst_src {H₀ : Hp} {ρ : List S} {σ : St} {h : Hd} {x : V} {xs : List D} (r : Rep cm K n c H ρ σ) (hx : HdOk cm K n H₀ c H σ h x) (e : rd h ρ = .ok (.lst xs) ρ) :
    ∃ a vs, x = .ref a ∧ H a = some (.lst vs) ∧ DenL cm K (Gz c H) xs vs ∧ (lentOf h ρ = none → c a = 0 ∨ n < c a) ∧
      ∀ (J : It) (ds : List D), (∀ c2, (∀ b o, Gz c H b = some o → Gz c2 H b = some o) → (∀ b, c b = 0 ∨ n < c b → c2 b = 0 ∨ n < c2 b) → (c2 a = 0 ∨ n < c2 a) → Wlk cm K n J ds c2 H) → WlkL cm K n J σ (lentOf h ρ) ds c H := by
  have dr := (rd_ok r hx e).2
  obtain ⟨a, vs, ev, ha, dl⟩ := dr
  refine ⟨a, vs, ev, ha, dl, ?_⟩
  have plain : (c a = 0 ∨ n < c a) → lentOf h ρ = none → (lentOf h ρ = none → c a = 0 ∨ n < c a) ∧ ∀ (J : It) (ds : List D), (∀ c2, (∀ b o, Gz c H b = some o → Gz c2 H b = some o) → (∀ b, c b = 0 ∨ n < c b → c2 b = 0 ∨ n < c2 b) → (c2 a = 0 ∨ n < c2 a) → Wlk cm K n J ds c2 H) → WlkL cm K n J σ (lentOf h ρ) ds c H := fun hc hn => by
    refine ⟨fun _ => hc, fun J ds g => ?_⟩
    rw [hn]
    exact g c (fun _ _ h => h) (fun _ h => h) hc
  cases h with
  | val d' =>
    have e1 : (R.ok d' ρ : R D) = .ok (.lst xs) ρ := e
    cases e1
    obtain ⟨a', vs', e2, h2, h3⟩ := hx
    rw [ev] at e2; cases e2
    exact plain (.inl (Gz.to h2).1) rfl
  | rc j d' => cases (show (R.bad : R D) = .ok (.lst xs) ρ from e)
  | new d' =>
    obtain ⟨a', e2, h0, h1, h2⟩ := hx
    rw [ev] at e2; cases e2
    exact plain (.inr (by omega)) rfl
  | slot i =>
    have hx : σ[i]? = some (some x) := hx
    rw [ev] at hx
    have e1 : (at_ ρ i).rd ρ = .ok (.lst xs) ρ := e
    have el : lentOf (.slot i) ρ = (at_ ρ i).lentOf i := rfl
    cases qq : at_ ρ i with
    | un => rw [qq] at e1; cases e1
    | fr d' =>
      rw [qq] at e1; cases e1
      obtain ⟨_, _, u, e2, e3⟩ := slot_ok r hx qq (fun z => S.noConfusion z)
      cases e2
      obtain ⟨a', vs', e2, h2, h3⟩ := e3
      cases e2
      exact plain (.inl (Gz.to h2).1) (by rw [el, qq]; rfl)
    | rc p d' => rw [qq] at e1; cases e1
    | tab ts => rw [qq] at e1; cases e1
    | bor d' =>
      rw [qq] at e1; cases e1
      obtain ⟨_, _, u, e2, e3⟩ := slot_ok r hx qq (fun z => S.noConfusion z)
      cases e2
      obtain ⟨a', vs', e2, h2, h3⟩ := e3
      cases e2
      exact plain ((Gb.to h2).1.imp id fun z => by omega) (by rw [el, qq]; rfl)
    | own d' =>
      obtain ⟨hi, _, a', e2, e3, e4⟩ := slot_ok r hx qq (fun z => S.noConfusion z)
      cases e2
      refine ⟨fun z => ?_, fun J ds g => ?_⟩
      · rw [el, qq] at z; cases z
      · rw [el, qq]
        show WlkL cm K n J σ (some i) ds c H
        intro b hb
        rw [hx] at hb
        cases hb
        have e3 : c a = i + 1 := e3
        exact g _ (gz_recol (by omega)) (fun b hb => by
          by_cases q : b = a
          · subst q; exact .inr (by rw [cset_same]; omega)
          · rw [cset_ne q]; exact hb) (.inr (by rw [cset_same]; omega))
theorem still {a : Addr} {o : HO} {c1 : Col} {H1 : Hp} (s : Stp n c c1 H H1) (hc : c a = 0 ∨ n < c a) (ha : H a = some o) : H1 a = some o := by
  rcases hc with q | q
  · exact ((s a _ ha).2.1 q).2
  · exact ((s a _ ha).2.2 q).2
theorem wlk_enum {a : Addr} {ds : List D} {vs : List V} (ha : H a = some (.lst vs)) (hd : DenL cm K (Gz c H) ds vs) (hc : c a = 0 ∨ n < c a) : Wlk cm K n (Ite K a) (enumD 0 ds) c H := by
  intro c1 H1 s i
  have h1 := still s hc ha
  have hl := hd.length
  refine ⟨fun e => ⟨vs, SqL.of h1, by rw [enum_len] at e; omega⟩, fun d e => ?_⟩
  obtain ⟨x, hx, ed⟩ := enum_get e
  obtain ⟨v, hv, dv⟩ := hd.get hx
  refine ⟨⟨vs, v, SqL.of h1, hv⟩, fun u H2 hy => ?_⟩
  obtain ⟨T, x', e1, e2, e3, e4⟩ := hy
  have e5 := e4 vs (SqL.of h1)
  rw [hv] at e5
  cases e5
  subst e1 e3 ed
  refine ⟨cset c1 T 0, Ext.alloc e2, den_new_tup e2 ⟨.int ((0 + i : Nat) : Int), [v], ?_, rfl, v, [], rfl, Den.mono s.gz _ _ dv, rfl⟩⟩
  rw [Nat.zero_add]
theorem wlk_zip {a b : Addr} {ds es : List D} {vs us : List V} (ha : H a = some (.lst vs)) (hd : DenL cm K (Gz c H) ds vs) (hc : c a = 0 ∨ n < c a) (hb : H b = some (.lst us)) (he : DenL cm K (Gz c H) es us) (hcb : c b = 0 ∨ n < c b) : Wlk cm K n (Itz K a b) (zipD ds es) c H := by
  intro c1 H1 s i
  have h1 := still s hc ha
  have h2 := still s hcb hb
  have hl := hd.length
  have hl2 := he.length
  refine ⟨fun e => ⟨vs, us, SqL.of h1, SqL.of h2, ?_⟩, fun d e => ?_⟩
  · have := zip_len (xs := ds) (ys := es)
    omega
  obtain ⟨x, y, hx, hy, ed⟩ := zip_get e
  obtain ⟨v, hv, dv⟩ := hd.get hx
  obtain ⟨u, hu, du⟩ := he.get hy
  refine ⟨⟨vs, us, v, u, SqL.of h1, SqL.of h2, hv, hu⟩, fun z H2 hy => ?_⟩
  obtain ⟨T, x', y', e1, e2, e3, e4, e6⟩ := hy
  have e5 := e4 vs (SqL.of h1)
  have e7 := e6 us (SqL.of h2)
  rw [hv] at e5
  rw [hu] at e7
  cases e5; cases e7
  subst e1 e3 ed
  exact ⟨cset c1 T 0, Ext.alloc e2, den_new_tup e2 ⟨v, [u], rfl, Den.mono s.gz _ _ dv, u, [], rfl, Den.mono s.gz _ _ du, rfl⟩⟩
theorem lstOf_ok {d : D} {xs : List D} (h : lstOf d = some xs) : d = .lst xs := by
  cases d with
  | lst ys => cases h; rfl
  | _ => cases h
theorem sem_itEnum {te : TE} {f : M Hd} (h : Sem cm K n W (HdOk cm K n) te f) : SemI cm K n W (iEnum K (tCons te tNil)) (itEnum f) := by
  intro ρ c σ H Rw r q
  refine h ρ c σ H _ r ?_
  unfold itEnum at q
  rw [M.bind_run] at q
  cases e : f ρ with
  | bad => rw [e] at q; exact q.elim
  | exc k ρ1 => rw [e] at q; exact q
  | ok hd ρ1 =>
    rw [e] at q
    intro c1 H1 x s1 r1 hx
    obtain ⟨d, e1, q⟩ := rd_bind (P := QI cm K n W Rw ρ c H σ) (fun h => h) q
    cases el : lstOf d with
    | none => simp only [el] at q; exact q.elim
    | some xs =>
      simp only [el] at q
      have ed := lstOf_ok el
      subst ed
      obtain ⟨a, vs, ev, ha, dl, _, key⟩ := lst_src r1 hx e1
      refine ⟨a, vs, by rw [ev], SqL.of ha, q c1 H1 _ s1 r1 (key _ _ fun c2 g _ hc => wlk_enum ha (DenL.mono g _ _ dl) hc)⟩
theorem vi_enum {e : Expr} {te : TE} {f : M Hd} {p pos tpos : Pos} {elts : List Expr} {kk : Nat} (K : PySem.W.Frag) (hm : X.mg "enumerate" = none) (h : VE cm X W e te f) (hK : X.K = K := by rfl) (hg : Gl X "enumerate" := by rfl) (hs : starEach [e] X.env = [(false, eval e X.env)] := by rfl) :
    VI cm X W (.Tuple elts kk tpos) (.Call (.Name "enumerate" p) [e] [] pos) (iEnum K (tCons te tNil)) (itEnum f) := by
  subst hK
  exact ⟨pi_enum hg hm (pa_cons h.pe pa_nil hs) hs, sem_itEnum h.sem⟩
theorem sem_itZip {te tu : TE} {f g : M Hd} (h : Sem cm K n W (HdOk cm K n) te f) (h2 : Sem cm K n W (HdOk cm K n) tu g) : SemI cm K n W (iZip K (tCons te (tCons tu tNil))) (itZip f g) := by
  intro ρ c σ H Rw r q
  refine h ρ c σ H _ r ?_
  unfold itZip at q
  rw [M.bind_run] at q
  cases e : f ρ with
  | bad => rw [e] at q; exact q.elim
  | exc k ρ1 => rw [e] at q; exact q
  | ok hd ρ1 =>
    rw [e] at q
    intro c1 H1 x s1 r1 hx
    refine h2 ρ1 c1 σ H1 _ r1 ?_
    dsimp only at q
    rw [M.bind_run] at q
    cases e2 : g ρ1 with
    | bad => rw [e2] at q; exact q.elim
    | exc k ρ2 => rw [e2] at q; exact fun c' H' s r' => q c' H' (s1.trans s) r'
    | ok hd2 ρ2 =>
      rw [e2] at q
      intro c2 H2 y s2 r2 hy
      obtain ⟨d, ed, q⟩ := rd_bind (P := QI cm K n W Rw ρ c H σ) (fun h => h) q
      have q5 : QI cm K n W Rw ρ c H σ ((rd hd2 >>= fun e => zipEnd hd hd2 d e) ρ2) := q
      clear q
      rw [M.bind_run] at q5
      rcases rd_cases hd2 ρ2 with ⟨d2, ed2⟩ | ed2
      case inr => rw [ed2] at q5; exact q5.elim
      rw [ed2] at q5
      dsimp only at q5
      unfold zipEnd at q5
      cases el : lstOf d with
      | none => simp only [el] at q5; exact q5.elim
      | some xs =>
        cases el2 : lstOf d2 with
        | none => simp only [el, el2] at q5; exact q5.elim
        | some ys =>
          cases eo : lentOf hd2 ρ2 with
          | some j => simp only [el, el2, eo] at q5; exact q5.elim
          | none =>
            simp only [el, el2, eo] at q5
            have ex := lstOf_ok el
            have ey := lstOf_ok el2
            subst ex ey
            obtain ⟨a, vs, ev, ha, dl, _, key⟩ := lst_src r2 (hx.stp s2.st) ed
            obtain ⟨b, us, eu, hb, dl2, hb2, _⟩ := lst_src r2 hy ed2
            exact ⟨a, b, vs, us, by rw [ev, eu], SqL.of ha, SqL.of hb, q5 c2 H2 _ (s1.trans s2) r2 (key _ _ fun c3 g keep hc => wlk_zip ha (DenL.mono g _ _ dl) hc hb (DenL.mono g _ _ dl2) (keep b (hb2 eo)))⟩
theorem vi_zip {e e2 : Expr} {te tu : TE} {f g : M Hd} {p pos tpos : Pos} {elts : List Expr} {kk : Nat} (K : PySem.W.Frag) (hm : X.mg "zip" = none) (h : VE cm X W e te f) (h2 : VE cm X W e2 tu g) (hK : X.K = K := by rfl) (hg : Gl X "zip" := by rfl)
    (hs : starEach [e, e2] X.env = (false, eval e X.env) :: starEach [e2] X.env := by rfl) (hs2 : starEach [e2] X.env = (false, eval e2 X.env) :: starEach [] X.env := by rfl) (hpl : (backTo pos (starEach [e2] X.env)).any (·.1) = false := by rfl) :
    VI cm X W (.Tuple elts kk tpos) (.Call (.Name "zip" p) [e, e2] [] pos) (iZip K (tCons te (tCons tu tNil))) (itZip f g) := by
  subst hK
  exact ⟨pi_zip hg hm (pa_cons h.pe (pa_cons h2.pe pa_nil hs2) hs) hs hpl, sem_itZip h.sem h2.sem⟩
end
end Vi

/-! ## ViDic -/
set_option Elab.async false
set_option linter.all false
set_option maxRecDepth 100000
set_option maxHeartbeats 400000
namespace Vi
open PySem L2
/-! ### dicts whose keys are texts -/
section
variable {cm : Nat → Addr} {X : Cx} {W : WX} {K : PySem.W.Frag} {n : Nat} {c : Col} {H : Hp}
def eDNew : M Hd := pure (.new (.dic [] []))
theorem ve_dnew {pos : Pos} : VE cm X W (.Dict [] [] pos) tDNewK eDNew := ⟨pe_dnewK, fun ρ c σ H Q r q p hp => by
  have e : Ext c (cset c p (X.N.length + 1)) H (upd H p (.dK [])) := Ext.alloc hp
  exact q _ _ _ (Stp.stq e.stp) (r.ext e) ⟨p, rfl, hp, cset_same, [], upd_same, rfl, rfl⟩⟩
/-- k there: its value, or at the end -/
def kput {α : Type} (ks : List (List Nat)) (xs : List α) (k : List Nat) (v : α) : List (List Nat) × List α :=
  if ks.contains k = true then (ks, List.zipWith (fun k' x => if k' = k then v else x) ks xs) else (ks ++ [k], xs ++ [v])
theorem kys_any (k : List Nat) : ∀ {ks : List (List Nat)} {vs : List V}, ks.length = vs.length → ((kys ks vs).any fun kv => decide (kv.1 = Sum.inr ⟨k.toArray⟩)) = ks.contains k
  | [], [], _ => rfl
  | [], v :: vs, h => by cases h
  | k' :: ks, [], h => by cases h
  | k' :: ks, v :: vs, h => by
    have h : ks.length = vs.length := by simpa using h
    have e : kys (k' :: ks) (v :: vs) = ((Sum.inr ⟨k'.toArray⟩ : Key), v) :: kys ks vs := rfl
    rw [e, List.any_cons, kys_any k h, List.contains_cons]
    congr 1
    by_cases q : k' = k
    · subst q; simp
    · have q1 : (k == k') = false := beq_eq_false_iff_ne.mpr fun e => q e.symm
      rw [q1]
      exact decide_eq_false fun z => q (str_mk.mp (Sum.inr.inj z))
theorem kys_map (k : List Nat) (v : V) : ∀ {ks : List (List Nat)} {vs : List V}, (kys ks vs).map (fun kv => if kv.1 = Sum.inr ⟨k.toArray⟩ then (kv.1, v) else kv) = kys ks (List.zipWith (fun k' x => if k' = k then v else x) ks vs)
  | [], vs => rfl
  | k' :: ks, [] => rfl
  | k' :: ks, u :: vs => by
    have e : kys (k' :: ks) (u :: vs) = ((Sum.inr ⟨k'.toArray⟩ : Key), u) :: kys ks vs := rfl
    rw [e, List.map_cons, kys_map k v, List.zipWith_cons_cons]
    by_cases q : k' = k
    · subst q; rw [if_pos rfl, if_pos rfl]; rfl
    · rw [if_neg q, if_neg fun z => q (str_mk.mp (Sum.inr.inj z))]; rfl
theorem kys_app {ks ks' : List (List Nat)} {vs vs' : List V} (h : ks.length = vs.length) : kys (ks ++ ks') (vs ++ vs') = kys ks vs ++ kys ks' vs' := by
  unfold kys
  rw [List.map_append, List.zip_append (by rw [List.length_map]; exact h)]
theorem kys_put {ks : List (List Nat)} {vs : List V} {k : List Nat} {v : V} (h : ks.length = vs.length) : kys (kput ks vs k v).1 (kput ks vs k v).2 = putK (kys ks vs) (Sum.inr ⟨k.toArray⟩) v := by
  unfold kput putK
  rw [kys_any k h]
  by_cases q : ks.contains k = true
  · rw [if_pos q, if_pos q]; exact (kys_map k v).symm
  · rw [if_neg q, if_neg q]; exact kys_app h
theorem kput_len {α : Type} {ks : List (List Nat)} {vs : List α} {k : List Nat} {v : α} (h : ks.length = vs.length) : (kput ks vs k v).1.length = (kput ks vs k v).2.length := by
  unfold kput
  split
  · simp [h]
  · simp [h]
theorem kput_keys {α β : Type} (ks : List (List Nat)) (xs : List α) (ys : List β) (k : List Nat) (v : α) (u : β) : (kput ks xs k v).1 = (kput ks ys k u).1 := by
  unfold kput; split <;> rfl
theorem zip_den {G : Hp} {d : D} {v : V} (k : List Nat) (hv : Den cm K G d v) : ∀ {ks : List (List Nat)} {xs : List D} {vs : List V}, DenL cm K G xs vs → DenL cm K G (List.zipWith (fun k' x => if k' = k then d else x) ks xs) (List.zipWith (fun k' x => if k' = k then v else x) ks vs)
  | [], xs, vs, h => rfl
  | k' :: ks, [], vs, h => by cases (show vs = [] from h); rfl
  | k' :: ks, x :: xs, vs, ⟨u, r, e, h1, h2⟩ => by
    subst e
    rw [List.zipWith_cons_cons, List.zipWith_cons_cons]
    refine ⟨_, _, rfl, ?_, zip_den k hv h2⟩
    by_cases q : k' = k
    · rw [if_pos q, if_pos q]; exact hv
    · rw [if_neg q, if_neg q]; exact h1
theorem kput_den {G : Hp} {ks : List (List Nat)} {xs : List D} {vs : List V} {k : List Nat} {d : D} {v : V} (h : DenL cm K G xs vs) (hv : Den cm K G d v) : DenL cm K G (kput ks xs k d).2 (kput ks vs k v).2 := by
  unfold kput
  split
  · exact zip_den k hv h
  · exact h.append ⟨v, [], rfl, hv, rfl⟩
/-- dict(pairs) -/
def prs? : List D → Option (List (List Nat × D))
  | [] => some []
  | .tup [.str k, v] :: r => (prs? r).map ((k, v) :: ·)
  | _ => none
def mkDic (ps : List (List Nat × D)) : List (List Nat) × List D := ps.foldl (fun a p => kput a.1 a.2 p.1 p.2) ([], [])
def dictD : D → Option Hd
  | .lst ds => (prs? ds).map fun ps => .new (.dic (mkDic ps).1 (mkDic ps).2)
  | _ => none
theorem prs_v : ∀ {ds : List D} {vs : List V} {ps : List (List Nat × D)}, DenL cm K (Gz c H) ds vs → prs? ds = some ps → ∃ (as : List Addr) (us : List V), vs = as.map V.ref ∧ DenL cm K (Gz c H) (ps.map (·.2)) us ∧ ps.length = us.length ∧
    Paired (fun p (kv : Key × V) => SqT K H p [kV kv.1, kv.2]) as (kys (ps.map (·.1)) us)
  | [], vs, ps, h, e => by
    cases e
    cases (show vs = [] from h)
    exact ⟨[], [], rfl, rfl, rfl, .nil⟩
  | d :: ds, vs, ps, ⟨v, r, e1, h1, h2⟩, e => by
    subst e1
    unfold prs? at e
    split at e
    · rename_i q; cases q
    · rename_i k w r' q
      cases q
      cases e2 : prs? ds with
      | none => rw [e2] at e; cases e
      | some qs =>
        rw [e2] at e
        cases e
        obtain ⟨as, us, q1, q2, q3, q4⟩ := prs_v h2 e2
        obtain ⟨a, ws, ev, ha, hw⟩ := h1
        obtain ⟨u1, r1, e3, k1, k2⟩ := hw
        obtain ⟨u2, r2, e4, k3, k4⟩ := k2
        cases (show r2 = [] from k4)
        subst e4 e3 ev
        cases (show u1 = .str ⟨k.toArray⟩ from k1)
        refine ⟨a :: as, u2 :: us, by rw [q1]; rfl, ⟨u2, us, rfl, k3, q2⟩, by simp [q3], .cons (SqT.of (Gz.to ha).2) q4⟩
    · cases e
theorem mk_v {G : Hp} : ∀ {ps : List (List Nat × D)} {us : List V} {a : List (List Nat) × List D} {b : List V}, DenL cm K G (ps.map (·.2)) us → a.1.length = b.length → DenL cm K G a.2 b →
    ∃ b', mergeK (kys a.1 b) (kys (ps.map (·.1)) us) = kys (ps.foldl (fun a p => kput a.1 a.2 p.1 p.2) a).1 b' ∧ (ps.foldl (fun a p => kput a.1 a.2 p.1 p.2) a).1.length = b'.length ∧ DenL cm K G (ps.foldl (fun a p => kput a.1 a.2 p.1 p.2) a).2 b'
  | [], us, a, b, h, hl, hd => ⟨b, by cases (show us = [] from h); rfl, hl, hd⟩
  | p :: ps, us, a, b, ⟨u, r, e, h1, h2⟩, hl, hd => by
    subst e
    have e1 : kys ((p :: ps).map (·.1)) (u :: r) = ((Sum.inr ⟨p.1.toArray⟩ : Key), u) :: kys (ps.map (·.1)) r := rfl
    have e2 := kys_put (k := p.1) (v := u) hl
    obtain ⟨b', q1, q2, q3⟩ := mk_v (a := kput a.1 a.2 p.1 p.2) (b := (kput a.1 b p.1 u).2) h2 (by rw [← kput_len hl]; congr 1; exact kput_keys _ _ _ _ _ _) (kput_den hd h1)
    refine ⟨b', ?_, q2, q3⟩
    rw [e1]
    show mergeK (putK (kys a.1 b) (Sum.inr ⟨p.1.toArray⟩) u) (kys (ps.map (·.1)) r) = _
    rw [← e2, kput_keys a.1 b a.2 p.1 u p.2]
    exact q1
def rDict (K : PySem.W.Frag) : List V → Hp → VK → Prop := fun xs H Q => ∃ (a : Addr) (ps : List Addr) (kvs : List (Key × V)), xs = [.ref a] ∧ SqL K H a (ps.map V.ref) ∧ Paired (fun p kv => SqT K H p [kV kv.1, kv.2]) ps kvs ∧
    ∀ p, H p = none → Q (.ref p) (upd H p (.dK (mergeK [] kvs)))
theorem s_dict : CallS cm K n (rDict K) (f1 dictD) := calls1 fun c H d v hh Q hd hg k => by
  unfold dictD at hg
  split at hg
  · rename_i ds
    cases e : prs? ds with
    | none => rw [e] at hg; cases hg
    | some ps =>
      rw [e] at hg; cases hg
      obtain ⟨a, vs, ev, h1, h2⟩ := hd
      obtain ⟨as, us, q1, q2, q3, q4⟩ := prs_v h2 e
      obtain ⟨b', m1, m2, m3⟩ := mk_v (a := ([], [])) (b := []) q2 rfl rfl
      refine ⟨a, as, _, by rw [ev], by rw [← q1]; exact SqL.of h1, q4, fun p hp => ?_⟩
      have ex : Ext c (cset c p (n + 1)) H (upd H p (.dK (mergeK [] (kys (ps.map (·.1)) us)))) := Ext.alloc hp
      refine k _ _ _ ex ⟨p, rfl, hp, cset_same, b', ?_, m2, DenL.mono ex.gz _ _ m3⟩
      rw [upd_same]
      exact congrArg (fun z => some (HO.dK z)) m1
  · cases hg
theorem cd_dict (hc : X.calm = true) : CallR X (.type "dict") (rDict X.K) := call_dictP hc
/-- d.get(k, e) -/
def isDic : D → Bool | .dic _ _ => true | _ => false
def getD2 (d k : D) : Option (Option D) := match d, k with | .dic ks xs, .str s => some (kget ks xs s) | _, _ => none
def eGet2 (fd fk fx : M Hd) : M Hd := fd >>= fun hd => rd hd >>= fun d0 => guardM (isDic d0) (fk >>= fun hk => fx >>= fun hx => rd hd >>= fun d => rd hk >>= fun k => M.lift (getD2 d k) >>= fun o => match o with | some v => pure (.val v) | none => pure hx)
theorem isd_of {d : D} {v : V} (hd : DenR cm K c H d v) (h : isDic d = true) : ∃ a, v = .ref a ∧ IsD H a := by
  cases d with
  | dic ks xs => obtain ⟨a, vs, e, h1, h2⟩ := hd; exact ⟨a, e, .inl ⟨_, .inl h1⟩⟩
  | _ => cases h
theorem sem_get2 {td tk tx : TE} {fd fk fx : M Hd} (h1 : Sem cm K n W (HdOk cm K n) td fd) (h2 : Sem cm K n W (HdOk cm K n) tk fk) (h3 : Sem cm K n W (HdOk cm K n) tx fx) : Sem cm K n W (HdOk cm K n) (tDGet2 td tk tx) (eGet2 fd fk fx) := by
  refine Sem.bind (u := fun x σ H1 Q => ∃ a, x = .ref a ∧ IsD H1 a ∧ tk σ H1 fun y H2 => tx σ H2 fun z H3 => ∃ o, DGet H3 a y o ∧ Q (o.getD z) H3) h1 ?_
  intro ρ₀ c₀ H₀ a x ρ c σ H Q s0 r0 hx q
  dsimp only at q
  obtain ⟨d0, e0, q⟩ := rd_bind (P := QR cm K n W (HdOk cm K n) Q ρ₀ c₀ H₀ σ) QR.nobad q
  cases ei : isDic d0 with
  | false => rw [ei] at q; exact q.elim
  | true =>
    rw [ei] at q
    obtain ⟨p, ep, isd⟩ := isd_of (rd_ok r0 hx e0).2 ei
    refine ⟨p, ep, isd, ?_⟩
    subst ep
    have q : QR cm K n W (HdOk cm K n) Q ρ₀ c₀ H₀ σ ((fk >>= fun hk => fx >>= fun hx => rd a >>= fun d => rd hk >>= fun k => M.lift (getD2 d k) >>= fun o => match o with | some v => pure (.val v) | none => pure hx) ρ) := q
    refine h2 ρ c σ H _ r0 ?_
    rw [M.bind_run] at q
    cases e1 : fk ρ with
    | bad => rw [e1] at q; exact q.elim
    | exc j ρ' => rw [e1] at q; exact fun c' H' s' r' => q c' H' (s0.trans s') r'
    | ok hk ρ1 =>
      rw [e1] at q
      intro c1 H1 y s1 r1 hy
      dsimp only at q
      refine h3 ρ1 c1 σ H1 _ r1 ?_
      rw [M.bind_run] at q
      cases e2 : fx ρ1 with
      | bad => rw [e2] at q; exact q.elim
      | exc j ρ' => rw [e2] at q; exact fun c' H' s' r' => q c' H' ((s0.trans s1).trans s') r'
      | ok hz ρ2 =>
        rw [e2] at q
        intro c2 H2 z s2 r2 hz'
        dsimp only at q
        obtain ⟨d, ed, q⟩ := rd_bind (P := QR cm K n W (HdOk cm K n) Q ρ₀ c₀ H₀ σ) QR.nobad q
        obtain ⟨k, ek, q⟩ := rd_bind (P := QR cm K n W (HdOk cm K n) Q ρ₀ c₀ H₀ σ) QR.nobad q
        have p1 := (rd_ok r2 ((hx.stp s1.st).stp s2.st) ed).2
        have p2 := (rd_ok r2 (hy.stp s2.st) ek).2
        rw [M.bind_run, lift_run] at q
        cases d with
        | dic ks xs =>
          cases k with
          | str s =>
            have q : QR cm K n W (HdOk cm K n) Q ρ₀ c₀ H₀ σ ((match kget ks xs s with | some v => (pure (.val v) : M Hd) | none => pure hz) ρ2) := q
            obtain ⟨a', vs, e3, e4, e5, g⟩ := dget_of p1 p2
            cases e3
            have sall := (s0.trans s1).trans s2
            refine ⟨_, g, ?_⟩
            cases eg : kget ks xs s with
            | none =>
              rw [eg] at q
              have en : kget ks vs s = none := by
                have h1 := kget_some (s := s) (ks := ks) (vs := vs) e4
                have h2 := kget_some (s := s) (ks := ks) (vs := xs) (by rw [e4, e5.length])
                rw [eg] at h2
                rw [← h2] at h1
                cases h3 : kget ks vs s with
                | none => rfl
                | some _ => rw [h3] at h1; cases h1
              rw [en]
              exact q c2 H2 z sall r2 (hd_stab.2 _ _ _ _ _ _ _ _ _ (s0.trans s1).st hz')
            | some v =>
              rw [eg] at q
              obtain ⟨u, eu, du⟩ := kget_den e5 eg
              rw [eu]
              exact q c2 H2 u sall r2 du
          | _ => exact q.elim
        | _ => exact q.elim
theorem m2_mk {o : Expr} {m : Str} {apos cpos : Pos} {e f : Expr} (h1 : attributeBase o m X.env (eval o X.env) = eval o X.env := by rfl)
  (h2 : ((backTo cpos (starEach [e, f] X.env)).all (fun x => !x.1) && (backToKw cpos (keywordEach [] X.env)).all (fun x => x.1.isSome)
    && decide (([e, f] : List Expr).length + ([] : List Keyword).length + (if ([] : List Keyword).isEmpty then 0 else 1) < 30)) = true := by rfl)
  (h3 : (apos.endLine == cpos.line) = true := by rfl) (h4 : backTo cpos (starEach [e, f] X.env) = [(false, eval e X.env), (false, eval f X.env)] := by rfl) : M2 X o m apos e f cpos := ⟨h1, h2, h3, h4⟩
theorem ve_get2 {o e f : Expr} {td tk tx : TE} {fd fk fx : M Hd} {apos cpos : Pos} (hu : X.A.units + 64 < cLine) (ho : VE cm X W o td fd) (he : VE cm X W e tk fk) (hf : VE cm X W f tx fx) (m : M2 X o "get" apos e f cpos := by exact m2_mk) :
    VE cm X W (.Call (.Attribute o "get" apos) [e, f] [] cpos) (tDGet2 td tk tx) (eGet2 fd fk fx) := ⟨pe_dget2 (by omega) ho.pe he.pe hf.pe m, sem_get2 ho.sem he.sem hf.sem⟩
end
end Vi

/-! ## ViDic2 -/
set_option Elab.async false
set_option linter.all false
set_option maxRecDepth 100000
set_option maxHeartbeats 400000
namespace Vi
open PySem L2
section
variable {cm : Nat → Addr} {X : Cx} {W : WX} {K : PySem.W.Frag} {n : Nat} {c : Col} {H : Hp}
/-! ### d[k] = v, d a name's own dict -/
def ownK : S → Option (List (List Nat) × List D) | .own (.dic ks xs) => some (ks, xs) | _ => none
theorem ownK_ok {s : S} {p : List (List Nat) × List D} (h : ownK s = some p) : s = .own (.dic p.1 p.2) := by
  cases s with
  | own d => cases d with
    | dic ks xs => cases h; rfl
    | _ => cases h
  | _ => cases h
def getOwnK (i : Nat) : M (List (List Nat) × List D) := fun ρ => match ownK (at_ ρ i) with | some xs => .ok xs ρ | none => .bad
def setOwnK (i : Nat) (p : List (List Nat) × List D) : M Unit := fun ρ => .ok () (ρ.set i (.own (.dic p.1 p.2)))
theorem getOwnK_ok {ρ : List S} {σ : St} {i : Nat} (r : Rep cm K n c H ρ σ) : (getOwnK i ρ = .bad) ∨ ∃ p a vs, getOwnK i ρ = .ok p ρ ∧ i < n ∧ ρ[i]? = some (.own (.dic p.1 p.2)) ∧ σ[i]? = some (some (.ref a)) ∧ c a = i + 1 ∧ H a = some (.dK (kys p.1 vs)) ∧ p.1.length = vs.length ∧ DenL cm K (Gz c H) p.2 vs := by
  unfold getOwnK
  cases q : ownK (at_ ρ i) with
  | none => exact .inl rfl
  | some p =>
    have e := ownK_ok q
    have hs := at_some e (fun z => S.noConfusion z)
    obtain ⟨v, hv, a, e1, e2, vs, e3, e4, e5⟩ := r.at_ i _ hs
    subst e1
    exact .inr ⟨p, a, vs, rfl, by rw [← r.len]; exact (List.getElem?_eq_some_iff.mp hs).1, hs, hv, e2, e3, e4, e5⟩
def str? : D → Option (List Nat) | .str s => some s | _ => none
def sSetK (i : Nat) (fj fe : M Hd) : M Fl := fe >>= fun h => fz h >>= fun d => getOwnK i >>= fun _ => fj >>= fun hj => rd hj >>= fun dj => M.lift (str? dj) >>= fun k => getOwnK i >>= fun p => guardM (decide (p.1.length < SLine)) (setOwnK i (kput p.1 p.2 k d) >>= fun _ => pure .nx)
theorem kys_len {ks : List (List Nat)} {vs : List V} (h : ks.length = vs.length) : (kys ks vs).length = ks.length := by
  unfold kys
  rw [List.length_zip, List.length_map]; omega
theorem sem_setK (i : Nat) {te tj : TE} {f fj : M Hd} (he : Sem cm K n W (HdOk cm K n) te f) (hj : Sem cm K n W (HdOk cm K n) tj fj) : SemS cm K n W (tAsg te (gSub (tVar i) tj rSetD)) (sSetK i fj f) := by
  intro ρ c σ H Dn r q
  unfold sSetK at q
  refine sem_in he r q fun a ρ1 c1 H1 y s1 r1 hy q1 => ?_
  rw [M.bind_run] at q1
  rcases fz_cases a ρ1 with ⟨d, ρ2, ez⟩ | ez
  case inr => rw [ez] at q1; exact q1.elim
  rw [ez] at q1
  dsimp only at q1
  obtain ⟨c2, s2, r2, dd, g2⟩ := fz_ok s1 r1 hy ez
  rw [M.bind_run] at q1
  rcases getOwnK_ok (i := i) r2 with e0 | ⟨xs0, ad, vs0, e0, hi0, hs0, had, hc0, hH0, hl0, dl0⟩
  · rw [e0] at q1; exact q1.elim
  rw [e0] at q1
  dsimp only at q1
  have main : tj σ H1 fun z H2 => rSetD (.ref ad) z y H2 fun H3 => Dn.nx σ H3 := by
    refine hj ρ2 c2 σ H1 _ r2 ?_
    rw [M.bind_run] at q1
    cases ef : fj ρ2 with
    | bad => rw [ef] at q1; exact q1.elim
    | exc k ρ' => rw [ef] at q1; exact fun c' H' s' r' => q1 c' σ H' (s2.trans s').st (s2.trans s').kp r'
    | ok hh ρ3 =>
      rw [ef] at q1
      intro c3 H3 z s3 r3 hz
      dsimp only at q1
      obtain ⟨dj, ed, q1⟩ := rd_bind (P := QS cm K n W Dn ρ σ c H) (fun h => h) q1
      have dr := (rd_ok r3 hz ed).2
      rw [M.bind_run, lift_run] at q1
      cases dj with
      | str k =>
        have q1 : QS cm K n W Dn ρ σ c H ((getOwnK i >>= fun p => guardM (decide (p.1.length < SLine)) (setOwnK i (kput p.1 p.2 k d) >>= fun _ => pure .nx)) ρ3) := q1
        rw [M.bind_run] at q1
        rcases getOwnK_ok (i := i) r3 with e2 | ⟨p, a2, vs2, e2, hi2, hs2, ha2, hc2, hH2, hl2, dl2⟩
        · rw [e2] at q1; exact q1.elim
        rw [e2] at q1
        dsimp only at q1
        rw [had] at ha2
        cases ha2
        by_cases hz : p.1.length < SLine
        case neg => simp only [guardM, decide_eq_false hz, Bool.false_eq_true, if_false] at q1; exact q1.elim
        simp only [guardM, decide_eq_true hz, if_true] at q1
        have q1 : QN cm K n Dn.nx ρ σ c H (ρ3.set i (.own (.dic (kput p.1 p.2 k d).1 (kput p.1 p.2 k d).2))) := q1
        have s03 := s2.trans s3
        have ek := kys_put (k := k) (v := y) hl2
        refine ⟨ad, _, rfl, .inl ⟨_, Sum.inr ⟨k.toArray⟩, hH2, den_str dr, by rw [kys_len hl2]; exact Nat.lt_of_lt_of_le hz sline, rfl⟩, ?_⟩
        rw [← ek]
        refine q1 c3 σ _ (s03.st.mutN (by omega) (by omega)) ?_ ?_
        · exact (Stq.mk (s03.st.mutN (by omega) (by omega)) s03.kq.own : Stq n ρ _ c c3 H (upd H3 ad (.dK (kys (kput p.1 vs2 k y).1 (kput p.1 vs2 k y).2)))).kp
        · refine r3.mut hs2 had hc2 ⟨(kput p.1 vs2 k y).2, ?_, ?_, DenL.mono (gz_write (by omega)) _ _ (kput_den dl2 (Den.mono s3.st.gz _ _ dd))⟩
          · rw [upd_same, kput_keys p.1 p.2 vs2 k d y]
          · rw [kput_keys p.1 p.2 vs2 k d y]; exact kput_len hl2
      | _ => exact q1.elim
  exact ⟨_, had, main⟩
theorem wsetK (K : PySem.W.Frag) (i : Nat) {x : Str} {e ej : Expr} {te tj : TE} {f fj : M Hd} {p p2 pos : Pos} (hu : X.A.units + 64 < cLine) (he : VE cm X W e te f) (hj : VE cm X W ej tj fj) (hK : X.K = K := by rfl) (hN : X.N[i]? = some x := by rfl) (hv : Vis X.env.scope x := by first | exact Or.inl rfl | exact Or.inr (Or.inl rfl) | exact Or.inr (Or.inr rfl)) (hd : (x == ("__debug__" : Str)) = false := by decide)
    (hcd : (x == ("__classdict__" : Str)) = false := by decide)
    (h1 : swapsWithSole [.Subscript (.Name x p) ej p2] e pos.line X.env = pure false := by rfl) (h2 : swappedStores [.Subscript (.Name x p) ej p2] e X.env = pure none := by rfl)
    (h3 : (assignEach [.Subscript (.Name x p) ej p2] X.env).map (·.2) = [assign (.Subscript (.Name x p) ej p2) X.env] := by rfl)
    (h4 : ∀ v, assign (.Subscript (.Name x p) ej p2) X.env v = (do
      let ov ← holding [v] (eval (.Name x p) X.env)
      let iv ← holding [v, ov] (eval ej X.env)
      standAt p2
      holding [v, ov, iv] (setItem ov iv v)
      release [v, ov, iv] []) := by intro _; rfl) :
    VS cm X W (.Assign [.Subscript (.Name x p) ej p2] e pos) (tAsg te (gSub (tVar i) tj rSetD)) (sSetK i fj f) :=
  ⟨ps_asg he.pe (pg_sub (pe_var hN hv hd hcd) hj.pe (set_dict (by omega)) h4) h1 h2 h3, sem_setK i he.sem hj.sem⟩

/-! ### [(x, d[x]) for x in d], d a name's own dict -/
def pairD (k : List Nat) (x : D) : D := .tup [.str k, x]
def pairsD (ks : List (List Nat)) (xs : List D) : List D := List.zipWith pairD ks xs
def ePairs (i : Nat) : M Hd := getOwnK i >>= fun p => guardM (decide (p.1.length < SLine ∧ p.1.Nodup)) (pure (.new (.lst (pairsD p.1 p.2))))
theorem kys_at {ks : List (List Nat)} {vs : List V} {i : Nat} {k : Key} {v : V} (h : (kys ks vs)[i]? = some (k, v)) : ∃ s, ks[i]? = some s ∧ k = Sum.inr ⟨s.toArray⟩ ∧ vs[i]? = some v := by
  unfold kys at h
  have h := List.getElem?_zip_eq_some.mp h
  rw [List.getElem?_map] at h
  cases e : ks[i]? with
  | none => rw [e] at h; exact nomatch h.1
  | some s =>
    rw [e] at h
    exact ⟨s, rfl, (Option.some.inj h.1).symm, h.2⟩
theorem kget_at {α : Type} : ∀ {ks : List (List Nat)} {vs : List α} {i : Nat} {s : List Nat} {v : α}, ks.Nodup → ks[i]? = some s → vs[i]? = some v → kget ks vs s = some v
  | [], vs, i, s, v, _, h, _ => by simp at h
  | k :: ks, [], i, s, v, _, _, h => by simp at h
  | k :: ks, u :: vs, 0, s, v, nd, h1, h2 => by
    have h1 : some k = some s := h1
    have h2 : some u = some v := h2
    cases h1; cases h2
    unfold kget; rw [if_pos rfl]
  | k :: ks, u :: vs, i + 1, s, v, nd, h1, h2 => by
    have h1 : ks[i]? = some s := h1
    have h2 : vs[i]? = some v := h2
    unfold kget
    rw [if_neg (fun e : k = s => (List.nodup_cons.mp nd).1 (by rw [e]; exact List.mem_of_getElem? h1))]
    exact kget_at (List.nodup_cons.mp nd).2 h1 h2
abbrev tPairEl (j i : Nat) : TE := tTup (tCons (tVar j) (tCons (tDGet (tVar i) (tVar j)) tNil))
def tPairs (j i : Nat) : TE := tLockE (tLc (iKeys (tVar i)) (gName j) tYes (tPairEl j i) [j])
theorem frz_read {H1 : Hp} {a : Addr} {o : Obj} {kvs : List (Key × V)} {k : Key} (h : H1 a = some (.frz o (.dK kvs))) : DGet H1 a (kV k) (valV kvs k) := .inl ⟨kvs, k, .inr ⟨o, h⟩, rfl, rfl⟩
theorem pairs_take {ks : List (List Nat)} {xs : List D} {i : Nat} {s : List Nat} {x : D} (h1 : ks[i]? = some s) (h2 : xs[i]? = some x) : (pairsD ks xs).take (i + 1) = (pairsD ks xs).take i ++ [pairD s x] := by
  rw [List.take_add_one]
  congr 1
  unfold pairsD
  rw [List.getElem?_zipWith, h1, h2]; rfl
theorem ifT_ {P Q : Prop} (h : P) : if true = true then P else Q := by rw [if_pos rfl]; exact h
theorem sem_pairs {i j : Nat} (hj : j < n) (hij : i ≠ j) : Sem cm K n W (HdOk cm K n) (tPairs j i) (ePairs i) := by
  intro ρ c σ H Q r q
  unfold ePairs at q
  rw [M.bind_run] at q
  rcases getOwnK_ok (i := i) r with e0 | ⟨p, d, vs, e0, hi, hs, ha, hc, hH, hl, dl⟩
  · rw [e0] at q; exact q.elim
  rw [e0] at q
  dsimp only at q
  by_cases hz : p.1.length < SLine ∧ p.1.Nodup
  case neg => simp only [guardM, decide_eq_false hz, Bool.false_eq_true, if_false] at q; exact q.elim
  simp only [guardM, decide_eq_true hz, if_true] at q
  have nk := kys_len hl
  have hl2 := dl.length
  refine ⟨d, _, hH, trivial, fun od => ?_⟩
  -- the locked heap
  generalize hL : upd H d (.frz od (.dK (kys p.1 vs))) = L
  have hLd : L d = some (.frz od (.dK (kys p.1 vs))) := by rw [← hL]; exact upd_same
  have hLo : ∀ a o, a ≠ d → H a = some o → L a = some o := fun a o ne h => by rw [← hL, upd_ne ne]; exact h
  have hLn : ∀ a, L a = none → H a = none := fun a h => by
    by_cases e : a = d
    · rw [e, hLd] at h; cases h
    · rw [← hL, upd_ne e] at h; exact h
  refine ⟨_, ha, d, od, rfl, .inl ⟨_, hLd, fun D hD => ?_⟩⟩
  have hDd : D ≠ d := fun e => by rw [e, hLd] at hD; cases hD
  have hjσ : j < σ.length := by rw [r.lenσ]; exact hj
  -- what holds at turn i
  refine ⟨fun t m H2 => m = (kys p.1 vs).length - t ∧ t ≤ (kys p.1 vs).length ∧ ∃ c2 us, H2 D = some (.lst us) ∧ c2 D = n + 1 ∧ (∀ a o, L a = some o → H2 a = some o ∧ c2 a = c a) ∧ DenL cm K (Gz c2 H2) ((pairsD p.1 p.2).take t) us, ⟨_, rfl, Nat.zero_le _, cset c D (n + 1), [], upd_same, cset_same, fun a o h => ?_, rfl⟩, ?_⟩
  · have ne : a ≠ D := fun e => by rw [e, hD] at h; cases h
    exact ⟨by rw [upd_ne ne]; exact h, cset_ne ne⟩
  · rintro t m H2 ⟨em, et, c2, us, h1, h2, h3, h4⟩
    have hd2 := (h3 d _ hLd).1
    by_cases ht : t < (kys p.1 vs).length
    · refine .inr ⟨⟨hd2, ht⟩, fun H3 => ∃ c3 us', H3 D = some (.lst us') ∧ c3 D = n + 1 ∧ (∀ a o, L a = some o → H3 a = some o ∧ c3 a = c a) ∧ DenL cm K (Gz c3 H3) ((pairsD p.1 p.2).take (t + 1)) us', fun H' ⟨c3, us', k1, k2, k3, k4⟩ => ⟨(kys p.1 vs).length - (t + 1), by omega, rfl, ht, c3, us', k1, k2, k3, k4⟩, ?_⟩
      rintro x H3 ⟨eH, k, v, hk, ex⟩
      subst eH ex
      obtain ⟨s, g1, g2, g3⟩ := kys_at hk
      subst g2
      refine ⟨by show ((σ.set j none).set j _).set j none = σ.set j none; rw [List.set_set, List.set_set], ?_⟩
      simp only [tYes, if_true]
      have lj : (wipe σ [j]).length = σ.length := wipe_length σ [j]
      have σj : ((wipe σ [j]).set j (some (kV (Sum.inr ⟨s.toArray⟩))))[j]? = some (some (V.str ⟨s.toArray⟩)) := List.getElem?_set_self (by rw [lj]; exact hjσ)
      have σi : ((wipe σ [j]).set j (some (kV (Sum.inr ⟨s.toArray⟩))))[i]? = some (some (V.ref d)) := by
        rw [List.getElem?_set_ne (fun e => hij e.symm)]
        have := wipe_out (σ := σ) (vs := [j]) (i := i) (by simpa using hij)
        rw [this]; exact ha
      have gv : valV (kys p.1 vs) (Sum.inr ⟨s.toArray⟩) = some v := by rw [kys_val]; exact kget_at hz.2 g1 g3
      refine ⟨_, σj, _, σi, _, σj, d, v, rfl, ?_, ?_⟩
      · rw [← gv]; exact frz_read (k := Sum.inr ⟨s.toArray⟩) hd2
      refine ⟨by show 2 ≤ sizeLine; decide, fun q hq => ?_⟩
      have hqD : q ≠ D := fun e => by rw [e, h1] at hq; cases hq
      have hqL : L q = none := by
        cases z : L q with
        | none => rfl
        | some o => rw [(h3 q o z).1] at hq; cases hq
      have ul := h4.length
      have tl : ((pairsD p.1 p.2).take t).length ≤ p.1.length := by rw [List.length_take]; unfold pairsD; rw [List.length_zipWith]; omega
      refine ⟨us, by rw [upd_ne (Ne.symm hqD)]; exact h1, Nat.lt_of_lt_of_le (Nat.lt_of_le_of_lt (by omega) hz.1) sline, ?_⟩
      -- the colours behind
      obtain ⟨x', hx', dx'⟩ := dl.get' g3
      refine ⟨cset c2 q 0, us ++ [.ref q], upd_same, ?_, fun a o h => ?_, ?_⟩
      · rw [cset_ne (fun e => hqD e.symm)]; exact h2
      · have n1 : a ≠ D := fun e => by rw [e, hD] at h; cases h
        have n2 : a ≠ q := fun e => by rw [e, hqL] at h; cases h
        exact ⟨by rw [upd_ne n1, upd_ne n2]; exact (h3 a o h).1, by rw [cset_ne n2]; exact (h3 a o h).2⟩
      · have gzz : ∀ a o, Gz c2 H3 a = some o → Gz (cset c2 q 0) (upd (upd H3 q (.tup [V.str ⟨s.toArray⟩, v])) D (.lst (us ++ [.ref q]))) a = some o := fun a o h => by
          obtain ⟨z1, z2⟩ := Gz.to h
          have n1 : a ≠ D := fun e => by rw [e, h2] at z1; omega
          have n2 : a ≠ q := fun e => by rw [e, hq] at z2; cases z2
          exact Gz.of (by rw [cset_ne n2]; exact z1) (by rw [upd_ne n1, upd_ne n2]; exact z2)
        rw [pairs_take g1 hx']
        have vd : Den cm K (Gz c2 H3) x' v := Den.mono (fun a o h => by
          obtain ⟨z1, z2⟩ := Gz.to h
          have nd : a ≠ d := fun e => by rw [e, hc] at z1; omega
          obtain ⟨w1, w2⟩ := h3 a o (hLo a o nd z2)
          exact Gz.of (by rw [w2]; exact z1) w1) _ _ dx'
        refine (DenL.mono gzz _ _ h4).append ⟨.ref q, [], rfl, ⟨q, [V.str ⟨s.toArray⟩, v], rfl, ?_, V.str ⟨s.toArray⟩, [v], rfl, rfl, v, [], rfl, Den.mono gzz _ _ vd, rfl⟩, rfl⟩
        exact Gz.of cset_same (by rw [upd_ne hqD]; exact upd_same)
    · have et2 : t = (kys p.1 vs).length := by omega
      subst et2
      refine .inl ⟨⟨hd2, Nat.le_refl _⟩, hd2, ?_⟩
      have all : (pairsD p.1 p.2).take (kys p.1 vs).length = pairsD p.1 p.2 := List.take_of_length_le (by unfold pairsD; rw [List.length_zipWith, nk]; omega)
      rw [all] at h4
      have back : ∀ a o, H a = some o → upd H2 d (.dK (kys p.1 vs)) a = some o ∧ c2 a = c a := fun a o h => by
        by_cases e : a = d
        · subst e
          rw [hH] at h; cases h
          exact ⟨upd_same, (h3 a _ hLd).2⟩
        · obtain ⟨w1, w2⟩ := h3 a o (hLo a o e h)
          exact ⟨by rw [upd_ne e]; exact w1, w2⟩
      have ex : Ext c c2 H (upd H2 d (.dK (kys p.1 vs))) := fun a o h => ⟨(back a o h).2, (back a o h).1⟩
      refine q c2 _ _ (Stp.stq ex.stp) (r.ext ex) ⟨D, rfl, hLn D hD, h2, us, by rw [upd_ne hDd]; exact h1, DenL.mono (gz_write (by have := (h3 d _ hLd).2; omega)) _ _ h4⟩
theorem room_1 {u : Nat} (h : u + 64 < cLine) : u + 1 < cLine := by omega
theorem ve_pairs (K : PySem.W.Frag) (i j : Nat) {x y : Str} {tpos p1 p2 p3 p4 p5 pos gpos : Pos} {kk : Nat} {scope : Scope} (hc : X.calm = true) (hN : X.N.Nodup) (hu : X.A.units + 64 < cLine) (hij : i ≠ j) (hj : j < X.N.length)
    (ok : blkC X.N X.env.scope scope [(y, j)] = true) (hNi : X.N[i]? = some x := by rfl)
    (hg : ∀ (s : Shared) (H : Hp) (C : Addr) (cl : List (Str × Addr)) (fp : List Addr), PG (X.blk s H scope (compEnvC scope cl C X.env) fp) (.Name y p1) (gName j))
    (he : ∀ (s : Shared) (H : Hp) (C : Addr) (cl : List (Str × Addr)) (fp : List Addr), PE (X.blk s H scope (compEnvC scope cl C X.env) fp) (.Tuple [.Name y p2, .Subscript (.Name x p3) (.Name y p4) p5] kk tpos) (tPairEl j i))
    (hv : Vis X.env.scope x := by first | exact Or.inl rfl | exact Or.inr (Or.inl rfl) | exact Or.inr (Or.inr rfl)) (hd : (x == ("__debug__" : Str)) = false := by decide) (hcd : (x == ("__classdict__" : Str)) = false := by decide)
    (hs : ∀ z, foldedSetIterable (.Name x gpos) X.env z = pure z := by intro _; rfl) :
    VE cm X W (.ListComp (.Tuple [.Name y p2, .Subscript (.Name x p3) (.Name y p4) p5] kk tpos) [⟨.Name y p1, .Name x gpos, [], 0⟩] scope pos) (tPairs j i) (ePairs i) :=
  ⟨pe_lock (pe_lc (own := [(y, j)]) (g := gName j) (tt := tYes) hc hN (pi_keys (pe_var hNi hv hd hcd)) (blkOk_by ok) hg (fun _ _ _ _ _ => pts_nil) he hs), sem_pairs hj hij⟩
end
end Vi

/-! ## ViSort -/
set_option Elab.async false
set_option linter.all false
set_option maxRecDepth 100000
set_option maxHeartbeats 1600000
/-! ### sorting of tuples whose firsts are unlike texts -/
namespace SrtK
open PySem PySem.Spec PyProof.Rows Srt SrtO
def IsKP (h : Heap) (v : Value) (x : Str) : Prop := ∃ a o t u n, v = .ref a ∧ h.get? a = some o ∧ o.cls = .type "tuple" ∧ o.data = .seq #[.str x t, u] n ∧ ((∃ y t', u = .str y t') ∨ ∃ y t', u = .int y t')
theorem IsKP.keeps {h h' : Heap} {v : Value} {x : Str} (p : IsKP h v x) (k : ∀ b o, h.get? b = some o → o.cls = .type "tuple" → h'.get? b = some o) : IsKP h' v x := by
  obtain ⟨a, o, t, u, n, e, ho, hc, hd, hu⟩ := p
  exact ⟨a, o, t, u, n, e, k _ _ ho hc, hc, hd, hu⟩
abbrev ltS (k : Value → Str) (v u : Value) : Bool := decide ((k v).cps.toList < (k u).cps.toList)
theorem swo_s {α : Type} (k : α → List Nat) : Swo fun v u => decide (k v < k u) := by
  refine ⟨fun x y h => ?_, fun x y z h1 h2 => ?_⟩
  · have h := of_decide_eq_true h
    exact decide_eq_false fun q => List.lt_irrefl _ (List.lt_trans h q)
  · have h1 := of_decide_eq_false h1
    have h2 := of_decide_eq_false h2
    exact decide_eq_false (List.le_trans (α := Nat) h1 h2)
section
variable {prog : Program} {w : World} {A : Around} {E : Value → Shared → Prop} {s : Shared}
theorem kp_cmp {vs : List Value} {k : Value → Str} (hp : ∀ v ∈ vs, IsKP s.heap v (k v)) (inj : ∀ v ∈ vs, ∀ u ∈ vs, k v = k u → v = u) : Cmp prog w A s (tuples' true) (fun p => p.1 ∈ vs) (lt2 (ltS k)) := by
  intro p q hm hm'
  have h1 := hp _ hm
  have h2 := hp _ hm'
  have hj := inj _ hm _ hm'
  show wpAny (model prog w) A (keyLt' (tuples' true) p.1 q.1) (fun r s' => s' = s ∧ r = decide ((k p.1).cps.toList < (k q.1).cps.toList)) (fun _ _ => False) s
  generalize k p.1 = x at h1 hj ⊢
  generalize k q.1 = x' at h2 hj ⊢
  obtain ⟨a, o, t, u, n, e, ho, hc, hd, hu⟩ := h1
  obtain ⟨a', o', t', u', n', e', ho', hc', hd', hu'⟩ := h2
  rw [e, e'] at hj ⊢
  refine PySem.W.kat_lt ho hd ho' hd' ?_
  show PySem.W.KatLex prog w A true (decide (2 < 2)) _ [(.str x t, .str x' t'), (u, u')] 0 s
  refine PySem.W.kat_cons (SeqAt.EqAt.str_str x t x' t' prog w _ _ ?_)
  refine PySem.W.kat_go (fun e1 => ?_) (fun e1 => ?_)
  · have ex : x = x' := by simpa using e1
    have ea := hj ex
    cases ea
    rw [ho] at ho'
    cases ho'
    rw [hd] at hd'
    injection hd' with hd' _
    injection hd' with hd'
    injection hd' with _ hd'
    injection hd' with hd' _
    subst hd'
    have e3 : decide (x.cps.toList < x'.cps.toList) = false := by
      rw [ex]; exact decide_eq_false (List.lt_irrefl _)
    rcases hu with ⟨y, t2, eu⟩ | ⟨y, t2, eu⟩
    · subst eu
      refine PySem.W.kat_yes (PySem.W.kat_cons (SeqAt.EqAt.str_str y t2 y t2 prog w _ _ ?_))
      refine PySem.W.kat_go (fun e2 => ?_) (fun e2 => ?_)
      · exact PySem.W.kat_yes (PySem.W.kat_nil ⟨rfl, e3.symm⟩)
      · simp at e2
    · subst eu
      refine PySem.W.kat_yes (PySem.W.kat_cons (SeqAt.EqAt.int_int y t2 y t2 prog w _ _ ?_))
      refine PySem.W.kat_go (fun e2 => ?_) (fun e2 => ?_)
      · exact PySem.W.kat_yes (PySem.W.kat_nil ⟨rfl, e3.symm⟩)
      · simp at e2
  · exact PySem.W.kat_no (oneLt_str ⟨rfl, rfl⟩)
theorem firsts_k {h : Heap} {k : Value → Str} : ∀ {vs : List Value}, (∀ v ∈ vs, IsKP h v (k v)) → ∃ fs : List Value, PySem.W.KatTups h vs fs ∧ fs.length = vs.length ∧ ∀ f ∈ fs, ∃ x t, f = Value.str x t
  | [], _ => ⟨[], PySem.W.KatTups.nil, rfl, fun _ hm => by simp at hm⟩
  | v :: vs, hp => by
    obtain ⟨fs, h1, h2, h3⟩ := firsts_k (vs := vs) fun v' hm => hp v' (List.mem_cons_of_mem _ hm)
    obtain ⟨a, o, t, u, n, e, ho, hc, hd, hu⟩ := hp v (List.mem_cons_self ..)
    generalize k v = x at hd
    subst e
    refine ⟨.str x t :: fs, PySem.W.KatTups.cons ho hc hd rfl h1, by rw [List.length_cons, List.length_cons, h2], fun f hm => ?_⟩
    rcases List.mem_cons.mp hm with rfl | hm
    · exact ⟨x, t, rfl⟩
    · exact h3 f hm
theorem kp_sortable {a : Addr} {vs : List Value} {k : Value → Str} (h0 : 0 < vs.length) (hp : ∀ v ∈ vs, IsKP s.heap v (k v)) (inj : ∀ v ∈ vs, ∀ u ∈ vs, k v = k u → v = u) (ha : ∀ o, s.heap.get? a = some o → o.cls ≠ .type "tuple") : SortableO prog w A s a vs (ltS k) := by
  intro h' keep
  have hp' : ∀ v ∈ vs, IsKP h' v (k v) := fun v hm => (hp v hm).keeps fun b o e c => keep b o (fun z => by subst z; exact ha o e c) e
  obtain ⟨fs, h1, h2, h3⟩ := firsts_k hp'
  refine ⟨tuples' true, fun Q E hq => ?_, kp_cmp hp' inj⟩
  refine PySem.W.kat_kind (T := .type "str") h1 (by omega) (fun f hm => ?_) (by rfl) ?_
  · obtain ⟨x, t, rfl⟩ := h3 f hm
    exact PySem.W.Looks.now
  · have e : (Value.type "str" != Value.type "tuple") = true := by first | decide +kernel | rfl | decide
    rw [e]
    exact hq
theorem sorted_kp {l : Addr} {vs : List Value} {k : Value → Str} {Q : Value → Shared → Prop} (hl : s.heap.IsList l vs.toArray) (hz : vs.length ≤ sizeLine) (hp : ∀ v ∈ vs, IsKP s.heap v (k v)) (inj : ∀ v ∈ vs, ∀ u ∈ vs, k v = k u → v = u)
    (h : ∀ (h' : Heap) (d : Addr) (out : List Value), Srtd (ltS k) out → Stb (ltS k) out vs → (∀ b o, s.heap.get? b = some o → h'.get? b = some o) → s.heap.objs.size ≤ d → (∃ n, h'.get? d = some (seqObj "list" out.toArray n)) → Q (.ref d) { s with heap := h' }) :
    wpAny (model prog w) A (call (.builtin "sorted") [.ref l]) Q E s := by
  refine sorted_ord (swo_s fun v => (k v).cps.toList) hl hz (fun h2 h₁ a ha kk => ?_) fun out hs hb => ?_
  · refine kp_sortable (s := { s with heap := h₁ }) (by omega) (fun v hm => (hp v hm).keeps fun b o e _ => (kk b o e).2) inj fun o e => ?_
    have e' : some o = some (seqObj "list" vs.toArray 0) := e.symm.trans ha
    cases e'
    intro c
    exact absurd (Value.type.inj c) (by decide)
  · exact h _ _ out hs hb (fun b o e => sortedAll_old e) (Nat.le_succ _) (sortedAll_at s.heap vs out.toArray)
end
end SrtK
namespace Vi
open PySem L2
/-- sorted(xs), xs tuples (text, text or int), k their firsts, all unlike -/
def rSortedKP (K : PySem.W.Frag) : List V → Hp → VK → Prop := fun vs H Q => ∃ (a : Addr) (xs : List V) (k : V → Str), vs = [V.ref a] ∧ SqL K H a xs ∧ (∀ x ∈ xs, ∃ t u, x = V.ref t ∧ H t = some (.tup [.str (k x), u]) ∧ ((∃ y, u = .str y) ∨ ∃ y, u = .int y)) ∧
  (∀ x ∈ xs, ∀ y ∈ xs, k x = k y → x = y) ∧ ∀ ys p, ys.Pairwise (fun x y => ¬ (k y).cps.toList < (k x).cps.toList) → ys.Perm xs → H p = none → Q (.ref p) (upd H p (.lst ys))
section
variable {X : Cx}
open PySem.Spec PyProof.Rows in
theorem cr_sortedKP : CallR X (.builtin "sorted") (rSortedKP X.K) := by
  intro pins s σ H vs us Q I r h
  obtain ⟨a, xs, k, rfl, hs, hx, inj, q⟩ := h
  obtain ⟨its, rv, hl, hz⟩ := I.list hs
  obtain ⟨u, rfl, ru⟩ := vals1 r
  obtain rfl : u = Value.ref a := ru
  obtain ⟨e1, e2⟩ := refs_back rv fun x m => by
    obtain ⟨t, u, e, _⟩ := hx x m
    exact ⟨t, e⟩
  refine SrtK.sorted_kp (k := fun u => k (backV u)) hl.isList (by rw [← rv.length]; exact hz) (fun v hv => ?_) (fun v hv u hu e => ?_) fun h' d out h1 h2 kp hd hn => ?_
  · obtain ⟨t, rfl⟩ := e2 v hv
    have hm : V.ref t ∈ xs := by rw [e1]; exact List.mem_map.mpr ⟨_, hv, rfl⟩
    obtain ⟨t', w, e, ht, hw⟩ := hx _ hm
    cases e
    obtain ⟨_, its2, r2, o, ho, hc, n, hd⟩ := I.hok _ _ ht
    obtain ⟨u1, u2, rfl, ri, rj⟩ := vals2 r2
    obtain ⟨t1, rfl⟩ := ri
    refine ⟨t, o, t1, u2, n, rfl, ho, hc, hd, ?_⟩
    rcases hw with ⟨y, rfl⟩ | ⟨y, rfl⟩
    · obtain ⟨t2, rfl⟩ := rj; exact .inl ⟨_, _, rfl⟩
    · obtain ⟨t2, rfl⟩ := rj; exact .inr ⟨_, _, rfl⟩
  · obtain ⟨t, rfl⟩ := e2 v hv
    obtain ⟨t', rfl⟩ := e2 u hu
    have h3 := inj (V.ref t) (by rw [e1]; exact List.mem_map.mpr ⟨_, hv, rfl⟩) (V.ref t') (by rw [e1]; exact List.mem_map.mpr ⟨_, hu, rfl⟩) e
    cases h3
    rfl
  · have h3 : ∀ u ∈ out, ∃ a, u = Value.ref a := fun u hu => e2 u (h2.perm.mem_iff.mp hu)
    obtain ⟨n, hn⟩ := hn
    have hb : (out.map backV).Perm xs := by
      rw [e1]
      exact h2.perm.map backV
    refine ⟨.ref d, upd H d (.lst (out.map backV)), I.laid (t' := s.toks) kp hd ⟨?_, out, n, vals_back h3, hn⟩, rfl, q _ d ?_ hb (I.hok.fresh hd)⟩
    · rw [hb.length_eq]; exact hz
    · exact List.pairwise_map.mpr (h1.imp fun h => of_decide_eq_false h)
end
/-! tuples by their firsts -/
def fstD : D → Option (List Nat)
  | .tup [.str k, .str _] => some k
  | .tup [.str k, .int _] => some k
  | _ => none
def keyD (d : D) : List Nat := (fstD d).getD []
def leK (a b : D) : Bool := leT (keyD a) (keyD b)
def sortedD : D → Option Hd
  | .lst ds => match strs? ds with
    | some xs => if xs.length < 64 then some (.new (.lst ((isortL leT xs).map .str))) else none
    | none => if (ds.all fun d => (fstD d).isSome) = true ∧ (ds.map keyD).Nodup then some (.new (.lst (isortL leK ds))) else none
  | .dic ks _ => if ks.length < 64 then some (.new (.lst ((isortL leT ks).map .str))) else none
  | _ => none
section
variable {cm : Nat → Addr} {X : Cx} {W : WX} {K : PySem.W.Frag} {n : Nat} {c : Col} {H G : Hp}
theorem denl_perm {vs ys : List V} (p : ys.Perm vs) : ∀ {ds : List D}, DenL cm K G ds vs → ∃ es : List D, es.Perm ds ∧ DenL cm K G es ys := by
  induction p with
  | nil => intro ds h; exact ⟨ds, List.Perm.refl _, h⟩
  | @cons x l₁ l₂ q ih =>
    intro ds h
    cases ds with
    | nil => cases (show x :: l₂ = [] from h)
    | cons d ds =>
      obtain ⟨v, r, e, h1, h2⟩ := h
      cases e
      obtain ⟨es, p1, p2⟩ := ih h2
      exact ⟨d :: es, p1.cons d, _, _, rfl, h1, p2⟩
  | swap x y l =>
    intro ds h
    cases ds with
    | nil => cases (show x :: y :: l = [] from h)
    | cons d ds =>
      obtain ⟨v, r, e, h1, h2⟩ := h
      cases e
      cases ds with
      | nil => cases (show y :: l = [] from h2)
      | cons d' ds =>
        obtain ⟨v, r, e, h3, h4⟩ := h2
        cases e
        exact ⟨d' :: d :: ds, List.Perm.swap d d' ds, _, _, rfl, h3, _, _, rfl, h1, h4⟩
  | trans p1 p2 ih1 ih2 =>
    intro ds h
    obtain ⟨es, q1, q2⟩ := ih2 h
    obtain ⟨fs, q3, q4⟩ := ih1 q2
    exact ⟨fs, q3.trans q1, q4⟩
/-- the one sorted list -/
theorem sorted_one {l m : List D} (inj : ∀ x ∈ m, ∀ y ∈ m, keyD x = keyD y → x = y) (p : l.Perm m) (h1 : l.Pairwise fun x y => LeS (keyD x) (keyD y)) (h2 : m.Pairwise fun x y => LeS (keyD x) (keyD y)) : l = m :=
  List.Perm.eq_of_pairwise (le := fun x y => LeS (keyD x) (keyD y)) (fun a b ha hb q1 q2 => inj a (p.mem_iff.mp ha) b hb (leS_anti q1 q2)) h1 h2 p
theorem inj_of_nodup {α β : Type} {f : α → β} : ∀ {l : List α}, (l.map f).Nodup → ∀ x ∈ l, ∀ y ∈ l, f x = f y → x = y
  | [], _, x, hx, _, _, _ => (nomatch hx)
  | a :: l, h, x, hx, y, hy, e => by
    have h := List.nodup_cons.mp h
    rcases List.mem_cons.mp hx with q | q
    · rcases List.mem_cons.mp hy with q2 | q2
      · rw [q, q2]
      · exact absurd (List.mem_map.mpr ⟨y, q2, by rw [← e, q]⟩) h.1
    · rcases List.mem_cons.mp hy with q2 | q2
      · exact absurd (List.mem_map.mpr ⟨x, q, by rw [e, q2]⟩) h.1
      · exact inj_of_nodup h.2 x q y q2 e
/-- a value's first -/
noncomputable def keyOf (H : Hp) (v : V) : Str := match v with
  | .ref t => match H t with
    | some (.tup (.str z :: _)) => z
    | _ => ⟨#[]⟩
  | _ => ⟨#[]⟩
theorem keyOf_ref {t : Addr} {z : Str} {r : List V} (h : H t = some (.tup (.str z :: r))) : keyOf H (.ref t) = z := by
  show (match H t with
    | some (.tup (.str z :: _)) => z
    | _ => ⟨#[]⟩) = z
  rw [h]
theorem fst_den {d : D} {v : V} (hs : (fstD d).isSome = true) (hd : Den cm K (Gz c H) d v) : ∃ t u, v = .ref t ∧ H t = some (.tup [.str ⟨(keyD d).toArray⟩, u]) ∧ ((∃ y, u = .str y) ∨ ∃ y, u = .int y) := by
  unfold fstD at hs
  split at hs
  · obtain ⟨a, vs, e, h1, v1, r1, e1, k1, v2, r2, e2, k2, k3⟩ := hd
    cases (show r2 = [] from k3)
    subst e2 e1 e
    cases (show v1 = _ from k1)
    exact ⟨a, v2, rfl, (Gz.to h1).2, .inl ⟨_, k2⟩⟩
  · obtain ⟨a, vs, e, h1, v1, r1, e1, k1, v2, r2, e2, k2, k3⟩ := hd
    cases (show r2 = [] from k3)
    subst e2 e1 e
    cases (show v1 = _ from k1)
    exact ⟨a, v2, rfl, (Gz.to h1).2, .inr ⟨_, k2⟩⟩
  · cases hs
theorem keyOf_den {d : D} {v : V} (hs : (fstD d).isSome = true) (hd : Den cm K (Gz c H) d v) : (keyOf H v).cps.toList = keyD d := by
  obtain ⟨t, u, e, h, _⟩ := fst_den hs hd
  subst e
  rw [keyOf_ref h]
theorem denl_mem {ds : List D} {vs : List V} (h : DenL cm K G ds vs) {v : V} (hv : v ∈ vs) : ∃ d ∈ ds, Den cm K G d v := by
  obtain ⟨i, hi⟩ := List.mem_iff_getElem?.mp hv
  obtain ⟨d, h1, h2⟩ := h.get' hi
  exact ⟨d, List.mem_of_getElem? h1, h2⟩
theorem pw_den : ∀ {es : List D} {ys : List V}, (∀ d ∈ es, (fstD d).isSome = true) → DenL cm K (Gz c H) es ys → ys.Pairwise (fun x y => ¬ (keyOf H y).cps.toList < (keyOf H x).cps.toList) → es.Pairwise fun x y => LeS (keyD x) (keyD y)
  | [], ys, _, _, _ => List.Pairwise.nil
  | d :: es, ys, hs, ⟨v, r, e, h1, h2⟩, hp => by
    subst e
    have hp1 := List.pairwise_cons.mp hp
    refine List.pairwise_cons.mpr ⟨fun x hx => ?_, pw_den (fun y hy => hs y (List.mem_cons_of_mem _ hy)) h2 hp1.2⟩
    obtain ⟨i, hi⟩ := List.mem_iff_getElem?.mp hx
    obtain ⟨u, g1, g2⟩ := h2.get hi
    have := hp1.1 u (List.mem_of_getElem? g1)
    rw [keyOf_den (hs d List.mem_cons_self) h1, keyOf_den (hs x (List.mem_cons_of_mem _ hx)) g2] at this
    exact this
def rSortedA (K : PySem.W.Frag) : List V → Hp → VK → Prop := fun vs H Q => rSortedS K vs H Q ∨ rSortedKP K vs H Q ∨ ∃ (a : Addr) (kvs : List (Key × V)) (ks : List Str), vs = [.ref a] ∧ Rd H a (.dK kvs) ∧ kvs.map (·.1) = ks.map Sum.inr ∧ ks.length < 64 ∧
    ∀ ys p, ys.Perm ks → PyProof.Rows.sortedS ys = true → H p = none → Q (.ref p) (upd H p (.lst (ys.map V.str)))
theorem sortedS_one {xs : List (List Nat)} {ys : List Str} (p : ys.Perm (xs.map toS)) (h : PyProof.Rows.sortedS ys = true) : ys = (isortL leT xs).map toS := by
  have e : ys = (ys.map fun s => s.cps.toList).map toS := by
    rw [List.map_map]
    have : (toS ∘ fun s : Str => s.cps.toList) = id := funext fun s => toS_in s
    rw [this, List.map_id]
  have p2 : (ys.map fun s => s.cps.toList).Perm xs := by
    have := p.map fun s : Str => s.cps.toList
    rw [List.map_map] at this
    have e2 : ((fun s : Str => s.cps.toList) ∘ toS) = id := funext fun s => in_toS s
    rw [e2, List.map_id] at this
    exact this
  have h3 : (ys.map fun s => s.cps.toList).Pairwise LeS := List.pairwise_map.mpr (sorted_pw ys h)
  have h4 : (isortL leT xs).Pairwise LeS := (isortL_pw leT_tot leT_tr xs).imp fun q => leT_iff.mp q
  have h5 := List.Perm.eq_of_pairwise (le := LeS) (fun a b _ _ q1 q2 => leS_anti q1 q2) h3 h4 (p2.trans (isortL_perm leT xs).symm)
  rw [e, h5]
theorem s_sorted : CallS cm K n (rSortedA K) (f1 sortedD) := calls1 fun c H d v hh Q hd hg k => by
  unfold sortedD at hg
  split at hg
  · rename_i ds
    obtain ⟨a, vs, e, h1, h2⟩ := hd
    subst e
    split at hg
    · rename_i xs e1
      by_cases hz : xs.length < 64
      case neg => rw [if_neg hz] at hg; cases hg
      rw [if_pos hz] at hg
      cases hg
      have ev := strs_v h2 e1
      subst ev
      refine .inl ⟨a, xs.map toS, rfl, SqL.of h1, by rw [List.length_map]; exact hz, fun ys p hp hs hn => ?_⟩
      have q := sortedS_one hp hs
      subst q
      exact k _ _ _ (Ext.alloc hn) (hdv_new_lst hn (denl_strs _))
    · by_cases hz : (ds.all fun d => (fstD d).isSome) = true ∧ (ds.map keyD).Nodup
      case neg => rw [if_neg hz] at hg; cases hg
      rw [if_pos hz] at hg
      cases hg
      have all : ∀ d ∈ ds, (fstD d).isSome = true := List.all_eq_true.mp hz.1
      have inj := inj_of_nodup hz.2
      refine .inr (.inl ⟨a, vs, keyOf H, rfl, SqL.of h1, fun x hx => ?_, fun x hx y hy e => ?_, fun ys p hs hp hn => ?_⟩)
      · obtain ⟨d, m, dd⟩ := denl_mem h2 hx
        obtain ⟨t, u, e, g, gu⟩ := fst_den (all d m) dd
        refine ⟨t, u, e, ?_, gu⟩
        rw [e, keyOf_ref g]; exact g
      · obtain ⟨i, hi⟩ := List.mem_iff_getElem?.mp hx
        obtain ⟨j, hj⟩ := List.mem_iff_getElem?.mp hy
        obtain ⟨d, d1, d2⟩ := h2.get' hi
        obtain ⟨d', d3, d4⟩ := h2.get' hj
        have ek : keyD d = keyD d' := by
          rw [← keyOf_den (all d (List.mem_of_getElem? d1)) d2, ← keyOf_den (all d' (List.mem_of_getElem? d3)) d4, e]
        have eij : i = j := by
          have q1 : (ds.map keyD)[i]? = some (keyD d) := by rw [List.getElem?_map, d1]; rfl
          have q2 : (ds.map keyD)[j]? = some (keyD d) := by rw [List.getElem?_map, d3, ek]; rfl
          have l1 := (List.getElem?_eq_some_iff.mp q1).1
          exact (List.getElem?_inj l1 hz.2).mp (q1.trans q2.symm)
        subst eij
        rw [hi] at hj
        exact Option.some.inj hj
      · obtain ⟨es, p1, p2⟩ := denl_perm hp h2
        have h3 := pw_den (fun d hd => all d (p1.mem_iff.mp hd)) p2 hs
        have h4 : (isortL leK ds).Pairwise fun x y => LeS (keyD x) (keyD y) := (isortL_pw (le := leK) (fun a b => leT_tot _ _) (fun a b c => leT_tr _ _ _) ds).imp fun q => leT_iff.mp q
        have pm := isortL_perm leK ds
        have e5 := sorted_one (fun x hx y hy => inj x (pm.mem_iff.mp hx) y (pm.mem_iff.mp hy)) (p1.trans pm.symm) h3 h4
        rw [e5] at p2
        exact k _ _ _ (Ext.alloc hn) (hdv_new_lst hn p2)
  · rename_i ks xs
    by_cases hz : ks.length < 64
    case neg => rw [if_neg hz] at hg; cases hg
    rw [if_pos hz] at hg
    cases hg
    obtain ⟨a, vs, e, h1, h2, h3⟩ := hd
    subst e
    have ek : (kys ks vs).map (·.1) = (ks.map toS).map Sum.inr := by
      unfold kys
      rw [List.map_fst_zip (by rw [List.length_map]; omega), List.map_map]; rfl
    refine .inr (.inr ⟨a, _, ks.map toS, rfl, .inl h1, ek, by rw [List.length_map]; exact hz, fun ys p hp hs hn => ?_⟩)
    have q := sortedS_one hp hs
    subst q
    exact k _ _ _ (Ext.alloc hn) (hdv_new_lst hn (denl_strs _))
  · cases hg
theorem CallR.or' {f : Value} {r r' : List V → Hp → VK → Prop} (h : CallR X f r) (h' : CallR X f r') : CallR X f (fun x H Q => r x H Q ∨ r' x H Q) := by
  intro pins s σ H xs us Q I rr q
  rcases q with q | q
  · exact h pins s σ H xs us Q I rr q
  · exact h' pins s σ H xs us Q I rr q
theorem cr_sortedA (hc : X.calm = true) : CallR X (.builtin "sorted") (rSortedA X.K) := CallR.or' cr_sortedS (CallR.or' cr_sortedKP (call_sortedD hc))
end
end Vi

/-! ## ViTxt -/
set_option Elab.async false
set_option linter.all false
set_option maxRecDepth 100000
set_option maxHeartbeats 400000
namespace Vi
open PySem L2
/-! ### sep.join(texts) -/
def joinD (sep : List Nat) : D → Option Hd
  | .lst ds => (strs? ds).bind fun xs => if (xs.map (·.length)).sum + xs.length * sep.length ≤ SLine then some (.val (.str (TL.joinL sep xs))) else none
  | _ => none
def eJoin (fo fl : M Hd) : M Hd := fo >>= fun ho => rd ho >>= fun d => M.lift (str? d) >>= fun sep => fl >>= fun hl => rd hl >>= fun dl => M.lift (joinD sep dl)
section
variable {cm : Nat → Addr} {X : Cx} {W : WX} {K : PySem.W.Frag} {n : Nat} {c : Col} {H : Hp}
def rJoin (K : PySem.W.Frag) : V → List V → Hp → VK → Prop := fun x xs H Q => ∃ a p, ∃ ys : List Str, x = .str a ∧ xs = [.ref p] ∧ (SqL K H p (ys.map V.str) ∨ SqT K H p (ys.map V.str)) ∧
      (ys.map (·.length)).sum + ys.length * a.length ≤ 16777216 ∧ Q (.str (Txt.join a ys)) H
theorem join_v (sep : List Nat) (xs : List (List Nat)) : Txt.join (toS sep) (xs.map toS) = toS (TL.joinL sep xs) := by
  refine TL.ext_tl ?_
  rw [TL.join_eq, TL.tl_join, List.map_map]
  have : (TL.tl ∘ toS) = id := funext fun s => in_toS s
  rw [this, List.map_id]; rfl
theorem sem_join {to te : TE} {fo fl : M Hd} (h1 : Sem cm K n W (HdOk cm K n) to fo) (h2 : Sem cm K n W (HdOk cm K n) te fl) : Sem cm K n W (HdOk cm K n) (tM1 (rJoin K) to te) (eJoin fo fl) := by
  refine Sem.bind (u := fun x σ H1 Q => (∃ a, x = .str a) ∧ te σ H1 fun y H2 => rJoin K x [y] H2 Q) h1 ?_
  intro ρ₀ c₀ H₀ a x ρ c σ H Q s0 r0 hx q
  dsimp only at q
  obtain ⟨d, e1, q⟩ := rd_bind (P := QR cm K n W (HdOk cm K n) Q ρ₀ c₀ H₀ σ) QR.nobad q
  have p1 := (rd_ok r0 hx e1).2
  rw [M.bind_run, lift_run] at q
  cases d with
  | str sep =>
    have ex := den_str p1
    subst ex
    refine ⟨⟨_, rfl⟩, ?_⟩
    have q : QR cm K n W (HdOk cm K n) Q ρ₀ c₀ H₀ σ ((fl >>= fun hl => rd hl >>= fun dl => M.lift (joinD sep dl)) ρ) := q
    refine h2 ρ c σ H _ r0 ?_
    rw [M.bind_run] at q
    cases e2 : fl ρ with
    | bad => rw [e2] at q; exact q.elim
    | exc j ρ' => rw [e2] at q; exact fun c' H' s' r' => q c' H' (s0.trans s') r'
    | ok hl ρ1 =>
      rw [e2] at q
      intro c1 H1 y s1 r1 hy
      dsimp only at q
      obtain ⟨dl, e3, q⟩ := rd_bind (P := QR cm K n W (HdOk cm K n) Q ρ₀ c₀ H₀ σ) QR.nobad q
      have p2 := (rd_ok r1 hy e3).2
      rw [lift_run] at q
      cases dl with
      | lst ds =>
        cases es : strs? ds with
        | none => simp only [joinD, es, Option.bind_none] at q; exact q.elim
        | some xs =>
          simp only [joinD, es, Option.bind_some] at q
          by_cases hz : (xs.map (·.length)).sum + xs.length * sep.length ≤ SLine
          case neg => rw [if_neg hz] at q; exact q.elim
          rw [if_pos hz] at q
          obtain ⟨b, vs, ev, g1, g2⟩ := p2
          have e4 := strs_v g2 es
          subst e4
          refine ⟨toS sep, b, xs.map toS, rfl, by rw [ev], .inl (SqL.of g1), ?_, ?_⟩
          · rw [List.map_map, List.length_map]
            have : ((fun x : Str => x.length) ∘ toS) = fun s : List Nat => s.length := funext fun s => str_len s
            rw [this]
            have l2 : (toS sep).length = sep.length := str_len sep
            rw [l2]
            have : SLine = 1000000 := by unfold SLine; rfl
            omega
          · rw [join_v]
            exact q c1 H1 _ (s0.trans s1) r1 rfl
      | _ => exact q.elim
  | _ => exact q.elim
theorem ve_join {o e : Expr} {to te : TE} {fo fl : M Hd} {apos pos : Pos} (K : PySem.W.Frag) (ho : VE cm X W o to fo) (he : VE cm X W e te fl) (hK : X.K = K := by rfl) (hs : starEach [e] X.env = [(false, eval e X.env)] := by rfl) (hbase : attributeBase o "join" X.env (eval o X.env) = eval o X.env := by rfl) (hline : (apos.endLine == pos.line) = true := by rfl) :
    VE cm X W (.Call (.Attribute o "join" apos) [e] [] pos) (tM1 (rJoin K) to te) (eJoin fo fl) := by
  subst hK
  exact ⟨pe_join ho.pe he.pe hs hbase hline, sem_join ho.sem he.sem⟩
end
end Vi

/-! ## ViSetT -/
set_option Elab.async false
set_option linter.all false
set_option maxRecDepth 100000
set_option maxHeartbeats 3200000
namespace Vi
open PySem L2 PySem.Spec PyProof.Rows
section
variable {P : Program} {w : World} {A : Around} {E : Value → Shared → Prop} {s : Shared}
theorem call_setT {x : Str} {t : Tok} (ks : List Key) {Q : Value → Shared → Prop} (hh : A.handled = none) (ha : x.cps.all (· < 128) = true) (hlen : x.cps.size = ks.length) (hit : ∀ (i : Nat) (v : Value), SignAt x i v → ∃ k, ks[i]? = some k ∧ keyIs k v = true) (hb : ks.length + 1 < scanBound)
    (h : ∀ (h' : Heap) (tk : Nat), SetG w h' s.heap.objs.size ks → (∀ b o, s.heap.get? b = some o → h'.get? b = some o) → Q (.ref s.heap.objs.size) { s with heap := h', toks := tk }) :
    wpAny (model P w) A (call (.type "set") [.str x t]) Q E s := by
  obtain ⟨c, tl, hmro⟩ := PySem.F.called_set.mro
  have hmade := PySem.F.called_set.made
  have hsub := PySem.F.called_set.sub
  refine wpAny_call (codeAny_of_tree ?_)
  show wpAny _ _ (callAny (.type "set") _) _ _ _
  refine wpAny_pure ⟨Code.quiet_builtin _ (by decide +kernel), codeAny_builtin PySem.F.entry_type_call ?_⟩
  rw [Around.under_plain (weight_type_call_type "set" [.str x t] []) rfl]
  have k1 := PySem.F.called_set.notType
  have k2 := PySem.F.called_set.canCreate
  have k3 := PySem.F.typeCall_set_1 (.str x t)
  repeat (any_goals (first | assumption | wp_step))
  refine codeAny_mono (code_set_led1 (.str x t) (E := E) (Q₁ := fun x s₁ => x = .ref s.heap.objs.size ∧ s₁ = { s with heap := s.heap.push (newSet w) }) ⟨rfl, rfl⟩) fun r s₁ hr => ?_
  match r, hr with
  | .error e, hr => exact hr
  | .ok (.ret x), hr =>
    obtain ⟨ex, es⟩ := hr
    subst ex es
    have at_S : (s.heap.push (newSet w)).get? s.heap.objs.size = some (newSet w) := Heap.get?_push_size _ rfl
    have ty_S : Shared.TypeIs { s with heap := s.heap.push (newSet w) } (.ref s.heap.objs.size) "set" := ⟨_, at_S, rfl⟩
    have i1 := PySem.F.called_set.init.lookup
    have i2 := PySem.F.called_set.init.bind (.ref s.heap.objs.size)
    repeat (any_goals (first | assumption | wp_step))
    refine codeAny_mono (codeAny_call_builtin (R := wants (fun r s₂ => r = .none ∧ ∃ h' tk, s₂ = { s with heap := h', toks := tk } ∧ SetG w h' s.heap.objs.size ks ∧ (∀ b o, s.heap.get? b = some o → h'.get? b = some o)) E) PySem.F.called_set.init.plain PySem.F.entry_set_init (check_set_init_1 ty_S ?_)) fun r₂ s₂ hr₂ => ?_
    · have n1 := PySem.F.sub_str_set
      have n2 := PySem.F.sub_str_frozenset
      have n3 : (Value.type "str" == Value.type "dict") = false := by decide
      unfold Builtin.«set.__init__» noKeywords Builtin.Frozenset.updateFrom
      generalize hPI : pyIter = PI
      wp_walk
      subst hPI
      refine wpAny_pyIter_ascii ha (wpAny_bind (wpAny_runValue ?_))
      have none3 : A.in1.in1.in1.handled = none := by simp [hh]
      have z1 : (s.heap.push (newSet w)).objs.size = s.heap.objs.size + 1 := Heap.size_push ..
      have outside : s.heap.objs.size ∉ [(s.heap.push (newSet w)).objs.size] := by
        rw [z1]
        intro z
        exact absurd (List.mem_singleton.mp z) (Nat.ne_of_lt (Nat.lt_succ_self _))
      refine set_upd ((Walks.strAscii none3 _ x t).toS) s.heap.objs.size outside ks hlen hb hit (x.cps.size - 0) 0 _ rfl (Nat.zero_le _) ⟨_, Heap.get?_push_size _ rfl, rfl, rfl⟩ ?_ ?_
      · exact setG_new (Heap.get?_push_of_some _ at_S)
      · intro s' mv hS
        obtain ⟨h', g2, d2, tk2, os2⟩ := s'
        have e1 : g2 = s.gens := mv.gens
        have e2 : d2 = s.drawn := mv.drawn
        have e3 : os2 = s.os := mv.os
        subst e1 e2 e3
        refine wpAny_pure ?_
        show wpAny _ _ (ret Value.none) _ _ _
        refine wpAny_pure ⟨rfl, h', tk2, rfl, hS, fun b o e => ?_⟩
        have b_lt : b < s.heap.objs.size := Heap.lt_size e
        refine mv.heap b o (fun z => ?_) (Heap.get?_push_of_some _ (Heap.get?_push_of_some _ e))
        rcases List.mem_cons.mp z with z | z
        · exact absurd z (Nat.ne_of_lt b_lt)
        · have z := List.mem_singleton.mp z
          rw [z1] at z
          exact absurd z (Nat.ne_of_lt (Nat.lt_succ_of_lt b_lt))
    · match r₂, hr₂ with
      | .error e, hr₂ => exact hr₂
      | .ok (.ret x), hr₂ =>
        obtain ⟨ex, h', tk, es, hS, hk⟩ := hr₂
        subst ex es
        repeat (any_goals (first | assumption | wp_step))
        exact h _ _ hS hk
end
end Vi

/-! ## ViSet6 -/
set_option Elab.async false
set_option linter.all false
set_option maxRecDepth 100000
set_option maxHeartbeats 3200000
namespace Vi
open PySem L2
/-! ### sorted(set(a list or a text)) -/
def sortSetA : D → Option Hd
  | .str s => if (s.all (· < 128)) = true ∧ s.length < 4000 ∧ (dedup (s.map fun c => [c])).length < 64 then some (.new (.lst ((sortS (dedup (s.map fun c => [c]))).map .str))) else none
  | d => sortSetD d
def tSortSetA (K : PySem.W.Frag) (ta : TE) : TE := fun σ H Q => ta σ H fun x H1 => rSortSet K x H1 Q ∨
  ∃ z : Str, x = .str z ∧ z.cps.all (· < 128) = true ∧ z.cps.size < 4000 ∧ Few (z.cps.toList.map fun c => (⟨#[c]⟩ : Str)) ∧ ∀ (p : Addr) (ys : List Str), ys.Nodup → PyProof.Rows.sortedS ys = true → (∀ k : Str, k ∈ ys ↔ k ∈ z.cps.toList.map fun c => (⟨#[c]⟩ : Str)) → H1 p = none → Q (.ref p) (upd H1 p (.lst (ys.map V.str)))
def rSortSetA (K : PySem.W.Frag) : V → Hp → VK → Prop := fun x H1 Q => rSortSet K x H1 Q ∨
  ∃ z : Str, x = .str z ∧ z.cps.all (· < 128) = true ∧ z.cps.size < 4000 ∧ Few (z.cps.toList.map fun c => (⟨#[c]⟩ : Str)) ∧ ∀ (p : Addr) (ys : List Str), ys.Nodup → PyProof.Rows.sortedS ys = true → (∀ k : Str, k ∈ ys ↔ k ∈ z.cps.toList.map fun c => (⟨#[c]⟩ : Str)) → H1 p = none → Q (.ref p) (upd H1 p (.lst (ys.map V.str)))
section
variable {X : Cx}
theorem pe_sortSetA {e : Expr} {ta : TE} {p p2 q pos : Pos} (hc : X.calm = true) (hg : Gl X "sorted") (hm : X.mg "sorted" = none) (hg2 : Gl X "set") (hm2 : X.mg "set" = none) (ha : PE X e ta)
    (na : starEach [e] X.env = (false, eval e X.env) :: starEach [] X.env := by rfl) : PE X (.Call (.Name "sorted" p) [.Call (.Name "set" p2) [e] [] q] [] pos) (tUn (rSortSetA X.K) ta) := by
  constructor
  intro pins s σ H Q I h
  refine PyProof.Rows.Call_ (ld_blt I hg hm PyProof.Rows.boot_sorted ?_)
  refine PyProof.Rows.callWith_builtin1 (PyProof.Rows.args_cons (PyProof.Rows.Call_ (ld_blt I hg2 hm2 PyProof.Rows.boot_set ?_)) rfl) rfl rfl
  refine PyProof.Rows.callWith_type1 (PyProof.Rows.args_cons (thn (ha.run pins s σ H _ I h) fun v s1 ⟨x, H1, I1, r1, q1⟩ => PyProof.Rows.args_nil ?_) na) na rfl
  have hd := I1.ok.hd hc
  rcases q1 with (⟨l, ns, ex, hs, many, few, q1⟩ | ⟨l, ns, ex, hs, many, few, q1⟩) | ⟨z, ex, asc, many, few, q1⟩
  · subst ex
    cases r1
    obtain ⟨its, rv, il, _⟩ := I1.list hs
    have hl : its.length = ns.length := by have := rv.length; rw [List.length_map] at this; exact this.symm
    refine call_setL (ns.map Sum.inl) hd il.isList (by rw [List.size_toArray, List.length_map]; exact hl) (fun i v e => vals_int_at rv i v (by simpa using e)) (by rw [List.length_map]; unfold scanBound; omega) fun h' tk hS keep => ?_
    have I2 : Inv X pins σ H1 { s1 with heap := h', toks := tk } := I1.kept keep
    refine PyProof.Rows.args_nil (sortG_int (s := { s1 with heap := h', toks := tk }) hS hd few (by unfold scanBound; omega) fun s' p out c ys k2 g2 o2 p2 at2 i2 lt2 m2 => ?_)
    have fl : ys.length < 64 := few ys (lt2.imp fun h => by omega) m2
    exact laid_sorted I2 k2 g2 o2 p2 at2 (vals_of_ints i2) (by rw [List.length_map, sizeLine_eq]; omega) (q1 p ys lt2 m2)
  · subst ex
    cases r1
    obtain ⟨its, rv, il, _⟩ := I1.list hs
    have hl : its.length = ns.length := by have := rv.length; rw [List.length_map] at this; exact this.symm
    refine call_setL (ns.map Sum.inr) hd il.isList (by rw [List.size_toArray, List.length_map]; exact hl) (fun i v e => vals_str_at rv i v (by simpa using e)) (by rw [List.length_map]; unfold scanBound; omega) fun h' tk hS keep => ?_
    have I2 : Inv X pins σ H1 { s1 with heap := h', toks := tk } := I1.kept keep
    refine PyProof.Rows.args_nil (sortG_str (s := { s1 with heap := h', toks := tk }) hS hd few (by unfold scanBound; omega) fun s' p out c ys k2 g2 o2 p2 at2 i2 nd2 lt2 m2 => ?_)
    have fl : ys.length < 64 := few ys nd2 m2
    exact laid_sorted I2 k2 g2 o2 p2 at2 (vals_of_strs i2) (by rw [List.length_map, sizeLine_eq]; omega) (q1 p ys nd2 lt2 m2)
  · subst ex
    obtain ⟨t, rfl⟩ := r1
    refine call_setT ((z.cps.toList.map fun c => (⟨#[c]⟩ : Str)).map Sum.inr) hd asc (by simp) (fun i v hv => ?_) (by rw [List.length_map, List.length_map, Array.length_toList]; unfold scanBound; omega) fun h' tk hS keep => ?_
    · obtain ⟨c, u, hc, e⟩ := hv
      refine ⟨Sum.inr ⟨#[c]⟩, ?_, by rw [e]; exact keyIs_str _ u⟩
      rw [List.getElem?_map, List.getElem?_map, Array.getElem?_toList, hc]; rfl
    have I2 : Inv X pins σ H1 { s1 with heap := h', toks := tk } := I1.kept keep
    refine PyProof.Rows.args_nil (sortG_str (s := { s1 with heap := h', toks := tk }) hS hd few (by rw [List.length_map, Array.length_toList]; unfold scanBound; omega) fun s' p out c ys k2 g2 o2 p2 at2 i2 nd2 lt2 m2 => ?_)
    have fl : ys.length < 64 := few ys nd2 m2
    exact laid_sorted I2 k2 g2 o2 p2 at2 (vals_of_strs i2) (by rw [List.length_map, sizeLine_eq]; omega) (q1 p ys nd2 lt2 m2)
end
section
variable {cm : Nat → Addr} {X : Cx} {W : WX} {K : PySem.W.Frag} {n : Nat}
theorem few_str {xs : List (List Nat)} (hz : (dedup xs).length < 64) : Few (xs.map toS) := fun l' nd m => by
  have f := few_of hz
  have nd2 : (l'.map fun s : Str => s.cps.toList).Nodup := by
    have e : l' = (l'.map fun s : Str => s.cps.toList).map toS := by
      rw [List.map_map]
      have : (toS ∘ fun s : Str => s.cps.toList) = id := funext fun s => toS_in s
      rw [this, List.map_id]
    rw [e] at nd
    exact List.Pairwise.of_map toS (fun _ _ h q => h (congrArg _ q)) nd
  have := f _ nd2 fun s => by
    rw [List.mem_map]
    constructor
    · rintro ⟨t, ht, q⟩
      obtain ⟨u, hu, q2⟩ := List.mem_map.mp ((m t).mp ht)
      rw [← q, ← q2, in_toS]; exact hu
    · intro hs
      exact ⟨toS s, (m _).mpr (List.mem_map.mpr ⟨s, hs, rfl⟩), in_toS s⟩
  rw [List.length_map] at this
  exact this
theorem s_sortSetA : UnS cm K n (rSortSetA K) sortSetA := fun c H d x h Q hd hg k => by
  cases d with
  | str s =>
    have hg : (if (s.all (· < 128)) = true ∧ s.length < 4000 ∧ (dedup (s.map fun c => [c])).length < 64 then some (Hd.new (.lst ((sortS (dedup (s.map fun c => [c]))).map .str))) else none) = some h := hg
    by_cases hz : (s.all (· < 128)) = true ∧ s.length < 4000 ∧ (dedup (s.map fun c => [c])).length < 64
    case neg => rw [if_neg hz] at hg; cases hg
    rw [if_pos hz] at hg
    cases hg
    have ex := den_str hd
    subst ex
    have e1 : (s.toArray.toList.map fun c => (⟨#[c]⟩ : Str)) = (s.map fun c => [c]).map toS := by
      rw [List.toList_toArray, List.map_map]; rfl
    refine .inr ⟨_, rfl, ?_, ?_, ?_, fun p ys nd hs hm hp => ?_⟩
    · have := hz.1
      simpa using this
    · simpa using hz.2.1
    · show Few (s.toArray.toList.map fun c => (⟨#[c]⟩ : Str))
      rw [e1]; exact few_str hz.2.2
    · have hm : ∀ k : Str, k ∈ ys ↔ k ∈ (s.map fun c => [c]).map toS := fun k => by rw [← e1]; exact hm k
      have q := sortS_eq nd hs hm
      subst q
      exact k _ _ _ (Ext.alloc hp) (hdv_new_lst hp (denl_strs _))
  | lst ds => exact .inl (s_sortSet c H _ x h Q hd hg k)
  | non => exact .inl (s_sortSet c H _ x h Q hd hg k)
  | bl b => exact .inl (s_sortSet c H _ x h Q hd hg k)
  | int b => exact .inl (s_sortSet c H _ x h Q hd hg k)
  | tup b => exact .inl (s_sortSet c H _ x h Q hd hg k)
  | dic a b => exact .inl (s_sortSet c H _ x h Q hd hg k)
  | obj a b e => exact .inl (s_sortSet c H _ x h Q hd hg k)
  | ty b => exact .inl (s_sortSet c H _ x h Q hd hg k)
  | cls b => exact .inl (s_sortSet c H _ x h Q hd hg k)
  | scr b => exact .inl (s_sortSet c H _ x h Q hd hg k)
theorem ve_sortSetA {e : Expr} {te : TE} {f : M Hd} {p p2 pos pos2 : Pos} (hc : X.calm = true) (hm : X.mg "sorted" = none) (hm2 : X.mg "set" = none) (h : VE cm X W e te f) (hK : X.K = K := by rfl) (hg : Gl X "sorted" := by rfl) (hg2 : Gl X "set" := by rfl)
    (na : starEach [e] X.env = (false, eval e X.env) :: starEach [] X.env := by rfl) : VE cm X W (.Call (.Name "sorted" p) [.Call (.Name "set" p2) [e] [] pos2] [] pos) (tUn (rSortSetA K) te) (eUn sortSetA f) := by
  subst hK
  exact ⟨pe_sortSetA hc hg hm hg2 hm2 h.pe na, sem_un s_sortSetA h.sem⟩
end
end Vi

/-! ## ViObj -/
set_option Elab.async false
set_option linter.all false
set_option maxRecDepth 100000
set_option maxHeartbeats 1600000
namespace Vi
open PySem L2
/-! ### instances with fields that stay -/
def lookN (f : Str) : List Str → List D → Option D
  | n :: ns, x :: xs => if f = n then some x else lookN f ns xs
  | _, _ => none
def fldD (tab : List Nat) (f : Str) : D → Option Hd
  | .obj k ns xs => if tab.contains k = true then (lookN f ns xs).map .val else none
  | _ => none
def rFld (K : PySem.W.Frag) (f : Str) : V → Hp → VK → Prop := fun x H1 Q => ∃ a C dx fs v, x = .ref a ∧ H1 a = some (.ins C dx fs) ∧ Cls K C ∧ NoAttr K C f ∧ fs.lookup f = some v ∧ Q v H1
/-- what the top tells of a class -/
def KlsP (K : PySem.W.Frag) (cm : Nat → Addr) (f : Str) (k : Nat) : Prop := Cls K (cm k) ∧ NoAttr K (cm k) f
section
variable {cm : Nat → Addr} {K : PySem.W.Frag} {n : Nat}
theorem lookN_some {G : Hp} {f : Str} : ∀ {ns : List Str} {xs : List D} {vs : List V} {d : D}, DenL cm K G xs vs → lookN f ns xs = some d → ∃ v, (ns.zip vs).lookup f = some v ∧ Den cm K G d v
  | [], xs, vs, d, h, e => by unfold lookN at e; cases e
  | n :: ns, [], vs, d, h, e => by unfold lookN at e; cases e
  | n :: ns, x :: xs, vs, d, ⟨v, r, h1, h2, h3⟩, e => by
    subst h1
    unfold lookN at e
    show ∃ u, ((n, v) :: ns.zip r).lookup f = some u ∧ _
    rw [List.lookup_cons]
    by_cases q : f = n
    · rw [if_pos q] at e
      have e : x = d := Option.some.inj e
      subst e
      exact ⟨v, by rw [beq_iff_eq.mpr q], h2⟩
    · rw [if_neg q] at e
      obtain ⟨u, e1, e2⟩ := lookN_some h3 e
      exact ⟨u, by rw [beq_eq_false_iff_ne.mpr q]; exact e1, e2⟩
theorem lookN_none {f : Str} : ∀ {ns : List Str} {xs : List D} {vs : List V}, xs.length = vs.length → lookN f ns xs = none → (ns.zip vs).lookup f = none
  | [], xs, vs, h, e => rfl
  | n :: ns, [], [], h, e => rfl
  | n :: ns, [], v :: vs, h, e => by cases h
  | n :: ns, x :: xs, [], h, e => by cases h
  | n :: ns, x :: xs, v :: vs, h, e => by
    unfold lookN at e
    show ((n, v) :: ns.zip vs).lookup f = none
    rw [List.lookup_cons]
    by_cases q : f = n
    · rw [if_pos q] at e; cases e
    · rw [if_neg q] at e
      rw [beq_eq_false_iff_ne.mpr q]
      exact lookN_none (by simpa using h) e
theorem s_fld {tab : List Nat} {f : Str} (hT : ∀ k ∈ tab, KlsP K cm f k) : UnS cm K n (rFld K f) (fldD tab f) := fun c H d x h Q hd hg k => by
  cases d with
  | obj j ns xs =>
    have hg : (if tab.contains j = true then (lookN f ns xs).map .val else none) = some h := hg
    by_cases q : tab.contains j = true
    case neg => rw [if_neg q] at hg; cases hg
    rw [if_pos q] at hg
    obtain ⟨a, dx, vs, e1, e2, e3, e4⟩ := (show Den cm K (Gz c H) (.obj j ns xs) x from hd)
    have t := hT j (List.contains_iff_mem.mp q)
    cases eo : lookN f ns xs with
    | none => rw [eo] at hg; cases hg
    | some d =>
      rw [eo] at hg
      cases hg
      obtain ⟨v, l, dv⟩ := lookN_some e4 eo
      exact ⟨a, _, dx, _, v, e1, (Gz.to e2).2, t.1, t.2, l, k c H v Ext.refl dv⟩
  | _ => cases (show none = some h from hg)
/-- isinstance(x, an own class) -/
def isOD (tab : List Nat) (sub : Nat → Nat → Option Bool) (d e : D) : Option Hd := match d, e with
  | .obj k _ _, .cls c => if tab.contains k = true then (sub k c).map fun b => .val (.bl b) else none
  | _, _ => none
def InsP (K : PySem.W.Frag) (C : Addr) : Prop := Cls K C ∧ PySem.W.findIn K (.ref C) "__class__" = some (some (.builtin "object.__class__")) ∧
  PySem.W.specialIn K (.builtin "object.__class__") "__get__" = some (some (.builtin "getset_descriptor.__get__")) ∧ PySem.W.takesIn K (.builtin "object.__class__") = some true ∧ PySem.W.mroIn K C (.type "object") = some true
theorem s_isO {tab : List Nat} {sub : Nat → Nat → Option Bool} (hT : ∀ k ∈ tab, InsP K (cm k)) (h1 : ∀ k c b, sub k c = some b → PySem.W.kitOne K (.ref (cm k)) (.ref (cm c)) = some b) : CallS cm K n (rIsi K) (f2 (isOD tab sub)) := calls2 fun c H d e v u hh Q hd he hg kk => by
  unfold isOD at hg
  split at hg
  · rename_i k ns xs c'
    by_cases q : tab.contains k = true
    case neg => rw [if_neg q] at hg; cases hg
    rw [if_pos q] at hg
    cases eb : sub k c' with
    | none => rw [eb] at hg; cases hg
    | some b =>
      rw [eb] at hg; cases hg
      obtain ⟨a, dx, vs, e1, e2, e3, e4⟩ := (show Den cm K (Gz c H) (.obj k ns xs) v from hd)
      have e5 : u = .ref (cm c') := he
      subst e1 e5
      obtain ⟨t1, t2, t3, t4, t5⟩ := hT k (List.contains_iff_mem.mp q)
      exact ⟨_, _, _, _, b, rfl, .own _, .base (.ins (Gz.to e2).2 t1 t2 t3 t4 t5), h1 k c' b eb, kk c H _ Ext.refl rfl⟩
  · cases hg
end
/-! making one -/
def spIni (C : Addr) (ns : List Str) : Sp := fun vs H Q _ => ∃ x dx ys, vs = .ref x :: ys ∧ ys.length = ns.length ∧ H x = some (.ins C dx []) ∧ Q .non (upd H x (.ins C dx (ns.zip ys)))
/-- a class as it is called -/
structure Kls (P : Program) (w : World) (K : PySem.W.Frag) (mg : Str → Option Value) (base : Heap) (cm : Nat → Addr) (j k : Nat) (x : Str) (ns : List Str) : Prop where
  ex : ∃ f fd ps, Mk K (cm k) f ∧ FnOk P w K mg base (L2.CX P w) j f fd ps (spIni (cm k) ns) ∧ mg x = some (.ref (cm k)) ∧ Binds K fd ps []
def E0 : XK := fun _ _ _ => False
theorem passE {X : Cx} : Passes (L2.CX X.prog X.w) X E0 := fun pins σ H s e s' I h => by
  obtain ⟨a, B, H', cls, d, _, _, _, _, _, _, _, z⟩ := h
  exact z.elim
def eMk (k : Nat) (ns : List Str) (f : M (List D)) : M Hd := f >>= fun xs => if xs.length = ns.length then pure (.val (.obj k ns xs)) else M.bad
section
variable {cm : Nat → Addr} {X : Cx} {W : WX} {K : PySem.W.Frag} {n : Nat}
theorem sem_mk {k : Nat} {ns : List Str} {t : TA} {f : M (List D)} (h : Sem cm K n W (DsOk cm K) t f) : Sem cm K n W (HdOk cm K n) (tMake (cm k) (spIni (cm k) ns) [] E0 t) (eMk k ns f) := by
  refine Sem.bind (u := fun vs σ H1 Q => ∀ x dx, H1 x = none → H1 dx = none → dx ≠ x → spIni (cm k) ns (V.ref x :: (vs ++ [])) (upd (upd H1 dx (.own x)) x (.ins (cm k) dx [])) (fun v H2 => v = .non ∧ Q (V.ref x) H2) E0) h ?_
  intro ρ₀ c₀ H₀ a x ρ c σ H Q s0 r0 hx q
  dsimp only at q
  have hx : DenL cm K (Gz c H) a x := hx
  have hl := hx.length
  by_cases hz : a.length = ns.length
  · rw [if_pos hz] at q
    intro p dx hp hdx ne
    rw [List.append_nil]
    refine ⟨p, dx, x, rfl, by omega, upd_same, rfl, ?_⟩
    rw [upd_upd]
    have e1 : Ext c (cset c dx 0) H (upd H dx (.own p)) := Ext.alloc hdx
    have hp2 : (upd H dx (.own p)) p = none := by rw [upd_ne ne.symm]; exact hp
    have e : Ext c (cset (cset c dx 0) p 0) H (upd (upd H dx (.own p)) p (.ins (cm k) dx (ns.zip x))) := e1.trans (Ext.alloc hp2)
    exact q _ _ _ (s0.app e.stp) (r0.ext e) ⟨p, dx, x, rfl, Gz.of cset_same upd_same, by omega, DenL.mono e.gz _ _ hx⟩
  · rw [if_neg hz] at q; exact q.elim
theorem ve_fld {tab : List Nat} {f : Str} {e : Expr} {te : TE} {fe : M Hd} {pos : Pos} (hT : ∀ k ∈ tab, KlsP K cm f k) (h : VE cm X W e te fe) (hK : X.K = K := by rfl) (hb : attributeBase e f X.env (eval e X.env) = eval e X.env := by rfl) :
    VE cm X W (.Attribute e f pos) (tUn (rFld K f) te) (eUn (fldD tab f) fe) := by
  subst hK
  exact ⟨pe_fld h.pe hb, sem_un (s_fld hT) h.sem⟩
theorem ve_mk {j k : Nat} {x : Str} {ns : List Str} {e : Expr} {es : List Expr} {t : TA} {f : M (List D)} {p pos : Pos} (F : Kls X.prog X.w K X.mg X.base cm j k x ns) (hr : Room (j + 1) X.A) (ha : VD cm X W (e :: es) t f) (hK : X.K = K := by rfl)
    (hg : Gl X x := by rfl) (hdb : (x == ("__debug__" : Str)) = false := by decide) (he : starEach (e :: es) X.env = (false, eval e X.env) :: starEach es X.env := by rfl) (hpl : (backTo pos (starEach es X.env)).any (·.1) = false := by rfl) :
    VE cm X W (.Call (.Name x p) (e :: es) [] pos) (tMake (cm k) (spIni (cm k) ns) [] E0 t) (eMk k ns f) := by
  subst hK
  obtain ⟨fa, fd, ps, M, Fk, hm, hb⟩ := F.ex
  exact ⟨pe_make M Fk hr hg hm hb .nil passE ha.pe hdb he hpl, sem_mk ha.sem⟩
/-! methods -/
structure Mth (P : Program) (w : World) (K : PySem.W.Frag) (mg : Str → Option Value) (base : Heap) (cm : Nat → Addr) (j k : Nat) (m : Str) (ar : Nat) (φ : List D → Out) : Prop where
  ex : ∃ f fd ps, Cls K (cm k) ∧ Meth K (cm k) m f ∧ ps.length = ar + 1 ∧ FnOk P w K mg base (L2.CX P w) j f fd ps (spV cm K (ar + 1) φ) ∧ Binds K fd ps []
def outHdN : Out → List S → R Hd
  | .ret (.fr d), ρ => .ok (.val d) ρ
  | .ret (.own d), ρ => .ok (.new d) ρ
  | _, _ => .bad
def mthM (ar : Nat) (F : List D → Out) (d : D) (ds : List D) : M Hd := fun ρ => if ds.length = ar then outHdN (F (d :: ds)) ρ else .bad
def eMth (m : Str) (ar : Nat) (φ : Nat → Option (List D → Out)) (fo : M Hd) (fa : M (List Hd)) : M Hd := fo >>= fun h => rd h >>= fun d => match d with
  | .obj k ns xs => match φ k, lookN m ns xs with
    | some F, none => fa >>= fun hs => rds hs >>= fun ds => mthM ar F d ds
    | _, _ => M.bad
  | _ => M.bad
theorem PE.or' {e : Expr} {t1 t2 : TE} (h1 : PE X e t1) (h2 : PE X e t2) : PE X e (fun σ H Q => t1 σ H Q ∨ t2 σ H Q) := ⟨fun pins s σ H Q I h => h.elim (h1.run pins s σ H Q I) (h2.run pins s σ H Q I)⟩
theorem sem_mth2 {k1 k2 ar : Nat} {m : Str} {F1 F2 : List D → Out} {to : TE} {ta : TA} {fo : M Hd} {fa : M (List Hd)} (ho : Sem cm K n W (HdOk cm K n) to fo) (ha : Sem cm K n W (HsOk cm K n) ta fa) :
    Sem cm K n W (HdOk cm K n) (fun σ H Q => tMeth (cm k1) m (spV cm K (ar + 1) F1) [] E0 to ta σ H Q ∨ tMeth (cm k2) m (spV cm K (ar + 1) F2) [] E0 to ta σ H Q) (eMth m ar (fun k => if k = k1 then some F1 else if k = k2 then some F2 else none) fo fa) := by
  intro ρ c σ H Q r q
  -- one class at a time
  have key : ∀ (k : Nat) (F : List D → Out), (∀ ρ' h, fo ρ = .ok h ρ' → ∃ ns xs, rd h ρ' = .ok (.obj k ns xs) ρ' ∧ lookN m ns xs = none) → (∀ ρ' h, fo ρ = .ok h ρ' → ∀ d, rd h ρ' = .ok d ρ' → QR cm K n W (HdOk cm K n) Q ρ c H σ ((fa >>= fun hs => rds hs >>= fun ds => mthM ar F d ds) ρ')) →
      (fo ρ = .bad → False) → (∀ x ρ', fo ρ = .exc x ρ' → QR cm K n W (HdOk cm K n) Q ρ c H σ (.exc x ρ')) → tMeth (cm k) m (spV cm K (ar + 1) F) [] E0 to ta σ H Q := by
    intro k F hob hq hbad hexc
    refine ho ρ c σ H _ r ?_
    cases e : fo ρ with
    | bad => exact hbad e
    | exc x ρ' => exact hexc x ρ' e
    | ok h ρ' =>
      intro c1 H1 x s1 r1 hx
      obtain ⟨ns, xs, hd, hn⟩ := hob ρ' h e
      have q1 := hq ρ' h e _ hd
      obtain ⟨a, dx, vs, e1, e2, e3, e4⟩ := (show Den cm K (Gz c1 H1) (.obj k ns xs) x from (rd_ok r1 hx hd).2)
      refine ⟨a, dx, ns.zip vs, e1, (Gz.to e2).2, lookN_none e4.length hn, ?_⟩
      refine ha ρ' c1 σ H1 _ r1 ?_
      rw [M.bind_run] at q1
      cases ea : fa ρ' with
      | bad => rw [ea] at q1; exact q1
      | exc x2 ρ2 =>
        rw [ea] at q1
        exact fun c' H' s' r' => q1 c' H' (s1.trans s') r'
      | ok hs ρ2 =>
        rw [ea] at q1
        dsimp only at q1
        intro c2 H2 ys s2 r2 hy
        rw [M.bind_run] at q1
        rcases rds_ok r2 hy with ⟨ds, e5, hds⟩ | e5
        case inr => rw [e5] at q1; exact q1.elim
        rw [e5] at q1
        dsimp only [mthM] at q1
        by_cases hl : ds.length = ar
        case neg => rw [if_neg hl] at q1; exact q1.elim
        rw [if_pos hl] at q1
        rw [List.append_nil]
        have dn : DenR cm K c2 H2 (.obj k ns xs) x := Den.mono (s2.st.gz) _ _ (show Den cm K (Gz c1 H1) (.obj k ns xs) x from ⟨a, dx, vs, e1, e2, e3, e4⟩)
        refine ⟨c2, .obj k ns xs :: ds, by rw [List.length_cons, hl], ⟨x, ys, rfl, dn, hds⟩, ?_⟩
        cases eo : F (.obj k ns xs :: ds) with
        | bad => rw [eo] at q1; exact q1.elim
        | exc k => rw [eo] at q1; exact q1.elim
        | ret s =>
          rw [eo] at q1
          cases s with
          | un => exact q1.elim
          | bor d => exact q1.elim
          | rc p d => exact q1.elim
          | tab ts => exact q1.elim
          | fr d => exact fun c' H' v ex hv => q1 c' H' v ((s1.trans s2).app ex.stp) (r2.ext ex) hv
          | own d =>
            intro c' H' v ex hv
            obtain ⟨p, ev, hp, hc, ct⟩ := hv
            have ex2 : Ext c2 (cset c' p (n + 1)) H2 H' := fun b o h => by
              have ne : b ≠ p := ne_of_none h hp
              exact ⟨by rw [cset_ne ne]; exact (ex b o h).1, (ex b o h).2⟩
            exact q1 _ H' v ((s1.trans s2).app ex2.stp) (r2.ext ex2) ⟨p, ev, (s1.trans s2).st.free hp, cset_same, ct.keep (gz_recol hc) fun o q => q⟩
  unfold eMth at q
  rw [M.bind_run] at q
  cases e : fo ρ with
  | bad => rw [e] at q; exact q.elim
  | exc x ρ' => rw [e] at q; exact .inl (key k1 F1 (fun ρ'' h z => by rw [e] at z; cases z) (fun ρ'' h z => by rw [e] at z; cases z) (fun z => by rw [e] at z; cases z) (fun x2 ρ2 z => by rw [e] at z; cases z; exact q))
  | ok h ρ' =>
    rw [e] at q
    dsimp only at q
    rw [M.bind_run] at q
    rcases rd_cases h ρ' with ⟨d, ed⟩ | ed
    case inr => rw [ed] at q; exact q.elim
    case inl =>
      rw [ed] at q
      dsimp only at q
      cases d with
      | obj k ns xs =>
        dsimp only at q
        by_cases h1 : k = k1
        · subst h1
          rw [if_pos rfl] at q
          cases eo : lookN m ns xs with
          | some z => rw [eo] at q; exact q.elim
          | none =>
            rw [eo] at q
            exact .inl (key k F1 (fun ρ'' h' z => by rw [e] at z; cases z; exact ⟨ns, xs, ed, eo⟩) (fun ρ'' h' z d' z2 => by rw [e] at z; cases z; rw [ed] at z2; cases z2; exact q) (fun z => by rw [e] at z; cases z) (fun x2 ρ2 z => by rw [e] at z; cases z))
        · rw [if_neg h1] at q
          by_cases h2 : k = k2
          · subst h2
            rw [if_pos rfl] at q
            cases eo : lookN m ns xs with
            | some z => rw [eo] at q; exact q.elim
            | none =>
              rw [eo] at q
              exact .inr (key k F2 (fun ρ'' h' z => by rw [e] at z; cases z; exact ⟨ns, xs, ed, eo⟩) (fun ρ'' h' z d' z2 => by rw [e] at z; cases z; rw [ed] at z2; cases z2; exact q) (fun z => by rw [e] at z; cases z) (fun x2 ρ2 z => by rw [e] at z; cases z))
          · rw [if_neg h2] at q; exact q.elim
      | _ => exact q.elim
theorem ve_mth2 {pl : PySem.Sem Bool} {j1 j2 k1 k2 ar : Nat} {m : Str} {F1 F2 : List D → Out} {o e : Expr} {es : List Expr} {to : TE} {ta : TA} {fo : M Hd} {fa : M (List Hd)} {apos pos : Pos} (M1 : Mth X.prog X.w K X.mg X.base cm j1 k1 m ar F1) (M2 : Mth X.prog X.w K X.mg X.base cm j2 k2 m ar F2) (hr1 : Room j1 X.A) (hr2 : Room j2 X.A)
    (ho : VE cm X W o to fo) (ha : VA cm X W (e :: es) ta fa) (hK : X.K = K := by rfl)
    (hst : starEach (e :: es) X.env = (false, eval e X.env) :: starEach es X.env := by rfl) (hpl : (backTo pos (starEach es X.env)).any (·.1) = false := by rfl)
    (ht : eval (.Call (.Attribute o m apos) (e :: es) [] pos) X.env = (do
      let ov ← eval o X.env
      standAt apos.atName
      let (f, first) ← holding [ov] (getMethod ov m pl)
      callWith pos f first (backTo pos (starEach (e :: es) X.env)) (backToKw pos (keywordEach [] X.env))) := by rfl) :
    VE cm X W (.Call (.Attribute o m apos) (e :: es) [] pos) (fun σ H Q => tMeth (cm k1) m (spV cm K (ar + 1) F1) [] E0 to ta σ H Q ∨ tMeth (cm k2) m (spV cm K (ar + 1) F2) [] E0 to ta σ H Q) (eMth m ar (fun k => if k = k1 then some F1 else if k = k2 then some F2 else none) fo fa) := by
  subst hK
  obtain ⟨f1, fd1, ps1, c1, m1, l1, F1', b1⟩ := M1.ex
  obtain ⟨f2, fd2, ps2, c2, m2, l2, F2', b2⟩ := M2.ex
  exact ⟨PE.or' (pe_meth ho.pe c1 m1 F1' hr1 b1 .nil passE ha.pe hst hpl ht) (pe_meth ho.pe c2 m2 F2' hr2 b2 .nil passE ha.pe hst hpl ht), sem_mth2 ho.sem ha.sem⟩
end
end Vi
namespace Vi
open PySem L2
/-! ### list.index -/
def fiD (x : D) : List D → Option Nat
  | [] => none
  | y :: r => if eqF y x = true then some 0 else (fiD x r).map (· + 1)
def idxD (d x : D) : Option Hd := match d with
  | .lst xs => if flatD x = true ∧ xs.all flatD = true then (fiD x xs).map (fun j : Nat => Hd.val (.int (j : Int))) else none
  | _ => none
def lstGo (d : D) (m : M Hd) : M Hd := match d with | .lst _ => m | _ => M.bad
def eIdxL (fo fe : M Hd) : M Hd := fo >>= fun h => rd h >>= fun d0 => lstGo d0 (fe >>= fun hx => rd h >>= fun d => rd hx >>= fun e => M.lift (idxD d e))
section
variable {cm : Nat → Addr} {X : Cx} {W : WX} {K : PySem.W.Frag} {n : Nat}
theorem fi_v {G G' : Hp} {x : D} {v : V} (h : flatD x = true) (hx : Den cm K G' x v) : ∀ {xs : List D} {vs : List V} {j : Nat}, xs.all flatD = true → DenL cm K G xs vs → fiD x xs = some j →
    ∃ z, vs[j]? = some z ∧ eqV z v = true ∧ ∀ (m : Nat) (z' : V), m < j → vs[m]? = some z' → eqV z' v = false
  | [], vs, j, _, _, e => by cases e
  | d :: ds, vs, j, hf, ⟨u, r, e, h1, h2⟩, q => by
    subst e
    rw [List.all_cons, Bool.and_eq_true] at hf
    have ev := eqF_v hf.1 h h1 hx
    unfold fiD at q
    by_cases c : eqF d x = true
    · rw [if_pos c] at q
      cases q
      exact ⟨u, rfl, by rw [ev]; exact c, fun m z' hm => absurd hm (Nat.not_lt_zero _)⟩
    · rw [if_neg c] at q
      cases e2 : fiD x ds with
      | none => rw [e2] at q; cases q
      | some i =>
        rw [e2] at q
        cases q
        obtain ⟨z, g1, g2, g3⟩ := fi_v h hx hf.2 h2 e2
        refine ⟨z, g1, g2, fun m z' hm hz => ?_⟩
        cases m with
        | zero =>
          have : u = z' := by simpa using hz
          rw [← this, ev]; simpa using c
        | succ m => exact g3 m z' (by have : m + 1 < i + 1 := hm; omega) (by simpa using hz)
theorem sem_idxL {to te : TE} {fo fe : M Hd} (ho : Sem cm K n W (HdOk cm K n) to fo) (he : Sem cm K n W (HdOk cm K n) te fe) : Sem cm K n W (HdOk cm K n) (tBM K "list" (rIndex K) to (tCons te tNil)) (eIdxL fo fe) := by
  refine Sem.bind (u := fun x σ H1 Q => tyV K "list" x H1 ∧ te σ H1 fun y H2 => rIndex K x [y] H2 Q) ho ?_
  intro ρ₀ c₀ H₀ a x ρ c σ H Q s0 r0 hx q
  dsimp only at q
  obtain ⟨d0, e0, q⟩ := rd_bind (P := QR cm K n W (HdOk cm K n) Q ρ₀ c₀ H₀ σ) QR.nobad q
  have p0 := (rd_ok r0 hx e0).2
  cases d0 with
  | lst xs0 =>
    obtain ⟨l, vs, ea, eh, _⟩ := p0
    refine ⟨by rw [ea]; exact .inl ⟨rfl, _, SqL.of eh⟩, ?_⟩
    dsimp only [lstGo] at q
    refine he ρ c σ H _ r0 ?_
    rw [M.bind_run] at q
    cases e : fe ρ with
    | exc k ρ' => rw [e] at q; exact fun c' H' s' r' => q c' H' (s0.trans s') r'
    | bad => rw [e] at q; exact q
    | ok b ρ' =>
      rw [e] at q
      intro c1 H1 y s1 r1 hy
      obtain ⟨d1, e1, q⟩ := rd_bind (P := QR cm K n W (HdOk cm K n) Q ρ₀ c₀ H₀ σ) QR.nobad q
      obtain ⟨d2, e2, q⟩ := rd_bind (P := QR cm K n W (HdOk cm K n) Q ρ₀ c₀ H₀ σ) QR.nobad q
      have p1 := (rd_ok r1 (hx.stp s1.st) e1).2
      have p2 := (rd_ok r1 hy e2).2
      rw [lift_run] at q
      cases d1 with
      | lst xs =>
        dsimp only [idxD] at q
        by_cases hf : flatD d2 = true ∧ xs.all flatD = true
        case neg => rw [if_neg hf] at q; exact q.elim
        rw [if_pos hf] at q
        cases ej : fiD d2 xs with
        | none => rw [ej] at q; exact q.elim
        | some j =>
          rw [ej] at q
          obtain ⟨l1, ws, eb, ehb, dl⟩ := p1
          have dy : Den cm K (Gz c1 H1) d2 y := by
            cases d2 with
            | lst _ => cases hf.1
            | dic _ _ => cases hf.1
            | _ => exact p2
          obtain ⟨z, g1, g2, g3⟩ := fi_v hf.1 dy hf.2 dl ej
          have fw := (in_v hf.1 dy hf.2 dl).1
          exact ⟨l1, ws, y, j, z, eb, rfl, SqL.of ehb, flat_v hf.1 dy, fw, g1, g2, g3, q c1 H1 _ (s0.trans s1) r1 rfl⟩
      | _ => exact q.elim
  | _ => exact q.elim
theorem ve_idxL {o e : Expr} {to te : TE} {fo fe : M Hd} {apos pos : Pos} (ho : VE cm X W o to fo) (he : VE cm X W e te fe) (hK : X.K = K := by rfl) (h0 : attributeBase o "index" X.env (eval o X.env) = eval o X.env := by rfl)
    (h1 : ((((backTo pos (starEach [e] X.env)).all (!·.1)) && ((backToKw pos (keywordEach [] X.env)).all (·.1.isSome))) && decide (([e].length + ([] : List Keyword).length + if ([] : List Keyword).isEmpty = true then 0 else 1) < 30)) = true := by rfl)
    (h2 : (apos.endLine == pos.line) = true := by rfl) (h3 : starEach [e] X.env = (false, eval e X.env) :: starEach [] X.env := by rfl) :
    VE cm X W (.Call (.Attribute o "index" apos) [e] [] pos) (tBM K "list" (rIndex K) to (tCons te tNil)) (eIdxL fo fe) := by
  subst hK
  exact ⟨pe_bm PySem.F.plainAttrs_list PySem.F.slot_list_index PySem.F.type_list_index mt_index ho.pe (pa_cons he.pe pa_nil h3) h0 h1 h2 h3 rfl, sem_idxL ho.sem he.sem⟩
end
end Vi
namespace Vi
open PySem L2
/-! ### is True -/
def cIsB : D → D → Option Hd | .bl a, .bl b => some (.val (.bl (a == b))) | _, _ => none
def cNotB : D → D → Option Hd | .bl a, .bl b => some (.val (.bl !(a == b))) | _, _ => none
section
variable {cm : Nat → Addr} {X : Cx} {K : PySem.W.Frag} {n : Nat}
theorem dec_beq (a b : Bool) : decide (a = b) = (a == b) := by cases a <;> cases b <;> rfl
theorem s_isB : OpS cm K n rIsB cIsB := by
  intro c H d e x y hh Q hd he hg k
  unfold cIsB at hg
  split at hg
  · rename_i a b
    cases hg
    exact ⟨a, b, den_bl hd, den_bl he, by rw [dec_beq]; exact k c H _ Ext.refl hv_bl⟩
  · cases hg
theorem s_notB : OpS cm K n rNotB cNotB := by
  intro c H d e x y hh Q hd he hg k
  unfold cNotB at hg
  split at hg
  · rename_i a b
    cases hg
    exact ⟨a, b, den_bl hd, den_bl he, by rw [dec_beq]; exact k c H _ Ext.refl hv_bl⟩
  · cases hg
end
end Vi

/-! ## ViLst -/
set_option Elab.async false
set_option linter.all false
set_option maxRecDepth 100000
set_option maxHeartbeats 1600000
namespace Vi
open PySem L2 PyProof.Rows
/-! ### list(text) -/
def rLstS : List V → Hp → VK → Prop := fun xs H Q => ∃ z : Str, xs = [.str z] ∧ z.cps.size ≤ sizeLine ∧ ∀ q, H q = none → Q (.ref q) (upd H q (.lst (z.cps.toList.map fun c => V.str ⟨#[c]⟩)))
theorem call_lstS {X : Cx} (hc : X.calm = true) : CallR X (.type "list") rLstS := by
  intro pins s σ H xs us Q I r h
  obtain ⟨z, rfl, hz, q⟩ := h
  obtain ⟨u, rfl, rx⟩ := vals1 r
  obtain ⟨t, rfl⟩ := rx
  refine PySem.call_list_str (I.ok.hd hc) z t (fun h' tk acc c' hk e hi => ?_) hz
  refine ⟨.ref s.heap.objs.size, upd H s.heap.objs.size (.lst (z.cps.toList.map fun c => V.str ⟨#[c]⟩)), I.laid hk (Nat.le_refl _) ⟨by rw [List.length_map, Array.length_toList]; exact hz, acc.toList, c', ?_, by rw [Array.toArray_toList]; exact e⟩, rfl, q _ (I.hok.fresh (Nat.le_refl _))⟩
  refine vals_of_idx _ _ (by rw [List.length_map, Array.length_toList, Array.length_toList]; exact hi.1) fun j u hj => ?_
  obtain ⟨c, t', hc, rfl⟩ := hi.2 j u (by rw [← Array.getElem?_toList]; exact hj)
  exact ⟨.str ⟨#[c]⟩, by simp [hc], ⟨_, rfl⟩⟩
def listTD : D → Option Hd
  | .str s => if s.length ≤ SLine then some (.new (.lst (s.map fun c => .str [c]))) else none
  | d => listD d
section
variable {cm : Nat → Addr} {X : Cx} {K : PySem.W.Frag} {n : Nat}
def rLstT (K : PySem.W.Frag) : List V → Hp → VK → Prop := fun xs H Q => (∃ p ys, xs = [.ref p] ∧ (SqL K H p ys ∨ SqT K H p ys) ∧ ∀ l, H l = none → Q (.ref l) (upd H l (.lst ys))) ∨ rLstS xs H Q
theorem call_lstT (hc : X.calm = true) : CallR X (.type "list") (rLstT X.K) := CallR.or' call_list_of (call_lstS hc)
theorem denl_chars {G : Hp} : ∀ s : List Nat, DenL cm K G (s.map fun c => .str [c]) (s.map fun c => V.str ⟨#[c]⟩)
  | [] => rfl
  | c :: s => ⟨_, _, rfl, rfl, denl_chars s⟩
theorem s_listT : CallS cm K n (rLstT K) (f1 listTD) := fun c H ds xs h Q hd hg k => by
  cases ds with
  | nil => cases (show none = some h from hg)
  | cons d r =>
    cases r with
    | cons _ _ => cases (show none = some h from hg)
    | nil =>
      cases d with
      | str s =>
        have hg : (if s.length ≤ SLine then some (Hd.new (.lst (s.map fun c => .str [c]))) else none) = some h := hg
        by_cases hz : s.length ≤ SLine
        case neg => rw [if_neg hz] at hg; cases hg
        rw [if_pos hz] at hg
        cases hg
        obtain ⟨v, t, e, hv, ht⟩ := hd
        have ht : t = [] := ht
        have hv : v = .str ⟨s.toArray⟩ := hv
        subst ht hv e
        refine .inr ⟨_, rfl, by simpa using Nat.le_trans hz sline, fun q hq => ?_⟩
        exact k _ _ _ (Ext.alloc hq) (hdv_new_lst hq (by
          have : (⟨s.toArray⟩ : Str).cps.toList = s := List.toList_toArray
          rw [this]; exact denl_chars s))
      | _ => exact .inl (s_list c H [_] xs h Q hd hg k)
end
theorem passOf {X : Cx} {E : XK} (tk : Takes X (WD E)) : Passes (L2.CX X.prog X.w) X E := fun pins σ H s e s' I h => passAt tk σ pins H s e s' I h
end Vi

/-! ## ViRec -/
set_option Elab.async false
set_option linter.all false
set_option maxRecDepth 100000
set_option maxHeartbeats 800000
namespace Vi
open PySem L2

/-! ### records: instances, dicts whose fields are changed -/
def notL : D → Bool | .lst _ => false | _ => true
def rcOf : S → Option D | .rc _ d => some d | _ => none
def getRc (i : Nat) : M D := fun ρ => match rcOf (at_ ρ i) with | some d => .ok d ρ | none => .bad
def rcSet (i : Nat) (d : D) (ρ : List S) : List S := match at_ ρ i with | .rc p _ => ρ.set i (.rc p d) | _ => ρ
def setRc (i : Nat) (d : D) : M Unit := fun ρ => .ok () (rcSet i d ρ)
/-- the place of a name among names -/
def nIdx {α : Type} [DecidableEq α] (f : α) : List α → Option Nat
  | [] => none
  | n :: ns => if f = n then some 0 else (nIdx f ns).map (· + 1)

section
variable {α : Type} [DecidableEq α]
theorem nIdx_get {f : α} : ∀ {ns : List α} {i : Nat}, nIdx f ns = some i → ns[i]? = some f
  | [], i, h => by cases h
  | n :: ns, i, h => by
    unfold nIdx at h
    by_cases q : f = n
    · rw [if_pos q] at h; cases h; simp [q]
    · rw [if_neg q] at h
      cases e : nIdx f ns with
      | none => rw [e] at h; cases h
      | some j => rw [e] at h; cases h; simpa using nIdx_get e
theorem nIdx_lookup {f : Str} : ∀ {ns : List Str} {vs : List V} {i : Nat}, nIdx f ns = some i → (ns.zip vs).lookup f = vs[i]?
  | [], vs, i, h => by cases h
  | n :: ns, [], i, h => by simp
  | n :: ns, v :: vs, i, h => by
    unfold nIdx at h
    show ((n, v) :: ns.zip vs).lookup f = _
    rw [List.lookup_cons]
    by_cases q : f = n
    · rw [if_pos q] at h; cases h; rw [beq_iff_eq.mpr q]; rfl
    · rw [if_neg q] at h
      rw [beq_eq_false_iff_ne.mpr q]
      cases e : nIdx f ns with
      | none => rw [e] at h; cases h
      | some j => rw [e] at h; cases h; simpa using nIdx_lookup e
theorem nIdx_none {f : Str} : ∀ {ns : List Str} {vs : List V}, nIdx f ns = none → (ns.zip vs).lookup f = none
  | [], vs, h => rfl
  | n :: ns, [], h => by simp
  | n :: ns, v :: vs, h => by
    unfold nIdx at h
    show ((n, v) :: ns.zip vs).lookup f = _
    rw [List.lookup_cons]
    by_cases q : f = n
    · rw [if_pos q] at h; cases h
    · rw [if_neg q] at h
      rw [beq_eq_false_iff_ne.mpr q]
      exact nIdx_none (by simpa using h)
theorem nIdx_put {f : Str} {v : V} : ∀ {ns : List Str} {vs : List V} {i : Nat}, nIdx f ns = some i → ns.length = vs.length → putF f v (ns.zip vs) = ns.zip (vs.set i v)
  | [], vs, i, h, _ => by cases h
  | n :: ns, [], i, h, l => by cases l
  | n :: ns, u :: vs, i, h, l => by
    unfold nIdx at h
    show (if n = f then (n, v) :: ns.zip vs else (n, u) :: putF f v (ns.zip vs)) = _
    by_cases q : f = n
    · rw [if_pos q] at h; cases h; rw [if_pos q.symm]; rfl
    · rw [if_neg q] at h
      rw [if_neg (fun z => q z.symm)]
      cases e : nIdx f ns with
      | none => rw [e] at h; cases h
      | some j => rw [e] at h; cases h; rw [nIdx_put e (by simpa using l)]; rfl
theorem nIdx_putN {f : Str} {v : V} : ∀ {ns : List Str} {vs : List V}, nIdx f ns = none → ns.length = vs.length → putF f v (ns.zip vs) = (ns ++ [f]).zip (vs ++ [v])
  | [], [], h, _ => rfl
  | [], v :: vs, h, l => by cases l
  | n :: ns, [], h, l => by cases l
  | n :: ns, u :: vs, h, l => by
    unfold nIdx at h
    show (if n = f then (n, v) :: ns.zip vs else (n, u) :: putF f v (ns.zip vs)) = _
    by_cases q : f = n
    · rw [if_pos q] at h; cases h
    · rw [if_neg q] at h
      rw [if_neg (fun z => q z.symm), nIdx_putN (by simpa using h) (by simpa using l)]; rfl
end

section
variable {cm : Nat → Addr} {K : PySem.W.Frag} {n : Nat} {W : WX} {c c' c₀ : Col} {H H' H₀ G G' : Hp} {σ : St} {ρ ρ' : List S} {P P' : Addr → Prop}
theorem getRc_ok {i : Nat} (r : Rep cm K n c H ρ σ) : (getRc i ρ = .bad) ∨ ∃ p d u, getRc i ρ = .ok d ρ ∧ i < n ∧ ρ[i]? = some (.rc p d) ∧ σ[i]? = some (some u) ∧ RecC cm K (Gz c H) H (fun b => c b = i + 1) u d := by
  unfold getRc
  cases q : at_ ρ i with
  | rc p d =>
    have hs := at_some q (fun z => nomatch z)
    obtain ⟨v, h1, u, e1, e2⟩ := r.at_ i _ hs
    subst e1
    exact .inr ⟨p, d, u, rfl, by rw [← r.len]; exact (List.getElem?_eq_some_iff.mp hs).1, hs, h1, e2⟩
  | _ => exact .inl rfl
theorem rcSet_of {i : Nat} {p : Bool} {d d' : D} (h : ρ[i]? = some (.rc p d)) : rcSet i d' ρ = ρ.set i (.rc p d') := by
  unfold rcSet at_; rw [h]; rfl
theorem tgO_rcSet {i k : Nat} {d : D} : tgO (rcSet i d ρ) k = tgO ρ k := by
  unfold rcSet
  cases q : at_ ρ i with
  | rc p d0 =>
    have hs := at_some q (fun z => nomatch z)
    show tgO (ρ.set i (.rc p d)) k = _
    rw [tgO_set]
    by_cases e : i = k ∧ k < ρ.length
    · rw [if_pos e, ← e.1]; unfold tgO; rw [hs]; cases p <;> rfl
    · rw [if_neg e]
  | _ => rfl
theorem Kq.rcSet {ρ₀ : List S} {i : Nat} {d : D} (k : Kq ρ₀ ρ) : Kq ρ₀ (rcSet i d ρ) := fun j t h => k j t (by rw [tgO_rcSet] at h; exact h)

/-! what changes no more than some colours -/
def ExtS (Sc : Nat → Prop) (c c' : Col) (H H' : Hp) : Prop := ∀ a o, H a = some o → (∃ o', H' a = some o') ∧ (¬ Sc (c a) → c' a = c a ∧ H' a = some o)
theorem ExtS.gz {Sc : Nat → Prop} (e : ExtS Sc c c' H H') (h0 : ¬ Sc 0) : ∀ a o, Gz c H a = some o → Gz c' H' a = some o := fun a o h => by
  obtain ⟨z1, z2⟩ := Gz.to h
  obtain ⟨q1, q2⟩ := (e a o z2).2 (by rw [z1]; exact h0)
  exact Gz.of (q1.trans z1) q2
theorem ExtS.gb {Sc : Nat → Prop} (e : ExtS Sc c c' H H') (h0 : ∀ p, Sc p → 1 ≤ p ∧ p ≤ n) : ∀ a o, Gb n c H a = some o → Gb n c' H' a = some o := fun a o h => by
  obtain ⟨z1, z2⟩ := Gb.to h
  obtain ⟨q1, q2⟩ := (e a o z2).2 (fun z => by have := h0 _ z; omega)
  exact Gb.of (by rw [q1]; exact z1) q2
theorem ExtS.stp {Sc : Nat → Prop} (e : ExtS Sc c c' H H') (h0 : ∀ p, Sc p → 1 ≤ p ∧ p ≤ n) : Stp n c c' H H' := fun a o h => by
  obtain ⟨q1, q2⟩ := e a o h
  exact ⟨q1, fun z => by obtain ⟨w1, w2⟩ := q2 (fun y => by have := h0 _ y; omega); exact ⟨w1.trans z, w2⟩, fun z => q2 (fun y => by have := h0 _ y; omega)⟩
/-- the record at slot i is another one now -/
theorem Rep.mutR {i : Nat} {p : Bool} {d d' : D} {u : V} (r : Rep cm K n c H ρ σ) (hs : ρ[i]? = some (.rc p d)) (hv : σ[i]? = some (some u)) (h : RecC cm K (Gz c' H') H' (fun b => c' b = i + 1) u d') (e : ExtS (fun q => q = i + 1) c c' H H') :
    Rep cm K n c' H' (rcSet i d' ρ) σ := by
  have hi : i < n := by rw [← r.len]; exact (List.getElem?_eq_some_iff.mp hs).1
  rw [rcSet_of hs]
  refine ⟨by rw [List.length_set]; exact r.len, r.lenσ, fun j s q => ?_⟩
  by_cases hj : i = j
  · subst hj
    rw [List.getElem?_set_self (by rw [r.len]; exact hi)] at q
    cases q
    exact ⟨_, hv, u, rfl, h⟩
  · rw [List.getElem?_set_ne hj] at q
    obtain ⟨v, h1, h2⟩ := r.at_ j s q
    exact ⟨v, h1, h2.keep (e.gz (by omega)) (e.gb (n := n) (fun p hp => by omega)) fun a o hc ha => (e a o ha).2 (by omega)⟩
theorem Stq.mutR {ρ₀ : List S} {i : Nat} {d' : D} (s : Stq n ρ₀ ρ c₀ c H₀ H) (hi : i < n) (e : ExtS (fun q => q = i + 1) c c' H H') : Stq n ρ₀ (rcSet i d' ρ) c₀ c' H₀ H' :=
  ⟨s.st.trans (e.stp fun p hp => by omega), s.kq.rcSet⟩
theorem ExtS.upd {i : Nat} {a : Addr} {o u : HO} (ha : H a = some u) (hc : c a = i) : ExtS (fun q => q = i) c c H (upd H a o) := fun b v h => by
  by_cases e : b = a
  · subst e; exact ⟨⟨o, upd_same⟩, fun z => absurd hc z⟩
  · rw [upd_ne e]; exact ⟨⟨v, h⟩, fun _ => ⟨rfl, h⟩⟩

/-! fields by places -/
theorem Flds.get {xs : List D} {vs : List V} {i : Nat} {d : D} (f : Flds cm K G H P xs vs) (h : xs[i]? = some d) : ∃ v, vs[i]? = some v ∧ FOk cm K G H P d v := by
  have hl : i < vs.length := by rw [← f.len]; exact (List.getElem?_eq_some_iff.mp h).1
  exact ⟨vs[i], List.getElem?_eq_getElem hl, f.ok i d _ h (List.getElem?_eq_getElem hl)⟩
theorem FOk.still {d : D} {v : V} (h : notL d = true) (x : Den cm K G d v) : FOk cm K G H P d v := by
  cases d with
  | lst ys => cases h
  | _ => exact x
theorem FOk.den {d : D} {v : V} (h : notL d = true) (x : FOk cm K G H P d v) : Den cm K G d v := by
  cases d with
  | lst ys => cases h
  | _ => exact x
theorem get_set {α : Type} {xs : List α} {i j : Nat} {x y : α} (h : (xs.set i x)[j]? = some y) : (i = j ∧ y = x) ∨ (i ≠ j ∧ xs[j]? = some y) := by
  by_cases e : i = j
  · subst e
    by_cases hl : i < xs.length
    · rw [List.getElem?_set_self hl] at h; cases h; exact .inl ⟨rfl, rfl⟩
    · rw [List.getElem?_eq_none (by rw [List.length_set]; omega)] at h; cases h
  · rw [List.getElem?_set_ne e] at h; exact .inr ⟨e, h⟩
/-- a field gets another value: what stands still, or a new list -/
theorem Flds.put {xs : List D} {vs : List V} {i : Nat} {d : D} {v : V} (f : Flds cm K G H P xs vs) (h : FOk cm K G H P d v) (hn : ∀ b (j : Nat) ys zs, xs[j]? = some (D.lst zs) → d ≠ .lst ys ∨ v ≠ .ref b ∨ vs[j]? ≠ some (V.ref b)) : Flds cm K G H P (xs.set i d) (vs.set i v) := by
  refine ⟨by rw [List.length_set, List.length_set]; exact f.len, fun j e u h1 h2 => ?_, fun j k ys zs b h1 h2 h3 h4 => ?_⟩
  · rcases get_set h1 with ⟨e1, e2⟩ | ⟨e1, e2⟩
    · rcases get_set h2 with ⟨e3, e4⟩ | ⟨e3, e4⟩
      · rw [e2, e4]; exact h
      · exact absurd e1 e3
    · rcases get_set h2 with ⟨e3, e4⟩ | ⟨e3, e4⟩
      · exact absurd e3 e1
      · exact f.ok j e u e2 e4
  · rcases get_set h1 with ⟨e1, e2⟩ | ⟨e1, e2⟩ <;> rcases get_set h2 with ⟨e3, e4⟩ | ⟨e3, e4⟩
    · omega
    · rcases get_set h3 with ⟨e5, e6⟩ | ⟨e5, e6⟩
      · rcases get_set h4 with ⟨e7, e8⟩ | ⟨e7, e8⟩
        · exact absurd e7 e3
        · rcases hn b k ys zs e4 with z | z | z
          · exact absurd e2.symm z
          · exact absurd e6.symm z
          · exact absurd e8 z
      · exact absurd e1 e5
    · rcases get_set h4 with ⟨e5, e6⟩ | ⟨e5, e6⟩
      · rcases get_set h3 with ⟨e7, e8⟩ | ⟨e7, e8⟩
        · exact absurd e7 e1
        · rcases hn b j zs ys e2 with z | z | z
          · exact absurd e4.symm z
          · exact absurd e6.symm z
          · exact absurd e8 z
      · exact absurd e3 e5
    · rcases get_set h3 with ⟨e5, e6⟩ | ⟨e5, e6⟩
      · exact absurd e5 e1
      · rcases get_set h4 with ⟨e7, e8⟩ | ⟨e7, e8⟩
        · exact absurd e7 e3
        · exact f.apart j k ys zs b e2 e4 e6 e8
theorem get_snoc {α : Type} {xs : List α} {j : Nat} {x y : α} (h : (xs ++ [x])[j]? = some y) : (j = xs.length ∧ y = x) ∨ (j < xs.length ∧ xs[j]? = some y) := by
  by_cases e : j < xs.length
  · rw [List.getElem?_append_left e] at h; exact .inr ⟨e, h⟩
  · rw [List.getElem?_append_right (by omega)] at h
    have hl := (List.getElem?_eq_some_iff.mp h).1
    have : j - xs.length = 0 := by simp at hl; omega
    rw [this] at h
    exact .inl ⟨by omega, by simpa using h.symm⟩
theorem Flds.snoc {xs : List D} {vs : List V} {d : D} {v : V} (f : Flds cm K G H P xs vs) (h : FOk cm K G H P d v) (hn : ∀ b (j : Nat) ys zs, xs[j]? = some (D.lst zs) → d ≠ .lst ys ∨ v ≠ .ref b ∨ vs[j]? ≠ some (V.ref b)) : Flds cm K G H P (xs ++ [d]) (vs ++ [v]) := by
  have hl := f.len
  refine ⟨by rw [List.length_append, List.length_append, hl]; rfl, fun j e u h1 h2 => ?_, fun j k ys zs b h1 h2 h3 h4 => ?_⟩
  · rcases get_snoc h1 with ⟨e1, e2⟩ | ⟨e1, e2⟩ <;> rcases get_snoc h2 with ⟨e3, e4⟩ | ⟨e3, e4⟩
    · rw [e2, e4]; exact h
    · omega
    · omega
    · exact f.ok j e u e2 e4
  · rcases get_snoc h1 with ⟨e1, e2⟩ | ⟨e1, e2⟩ <;> rcases get_snoc h2 with ⟨e3, e4⟩ | ⟨e3, e4⟩
    · omega
    · rcases get_snoc h3 with ⟨e5, e6⟩ | ⟨e5, e6⟩
      · rcases get_snoc h4 with ⟨e7, e8⟩ | ⟨e7, e8⟩
        · omega
        · rcases hn b k ys zs e4 with z | z | z
          · exact absurd e2.symm z
          · exact absurd e6.symm z
          · exact absurd e8 z
      · omega
    · rcases get_snoc h4 with ⟨e5, e6⟩ | ⟨e5, e6⟩
      · rcases get_snoc h3 with ⟨e7, e8⟩ | ⟨e7, e8⟩
        · omega
        · rcases hn b j zs ys e2 with z | z | z
          · exact absurd e4.symm z
          · exact absurd e6.symm z
          · exact absurd e8 z
      · omega
    · rcases get_snoc h3 with ⟨e5, e6⟩ | ⟨e5, e6⟩
      · omega
      · rcases get_snoc h4 with ⟨e7, e8⟩ | ⟨e7, e8⟩
        · omega
        · exact f.apart j k ys zs b e2 e4 e6 e8
/-- a field's own list is changed in place -/
theorem Flds.inl {xs : List D} {vs : List V} {i : Nat} {b : Addr} {ys ys' : List D} {us us' : List V} (f : Flds cm K G H P xs vs) (h1 : xs[i]? = some (.lst ys)) (h2 : vs[i]? = some (.ref b)) (p : P b) (hd : DenL cm K G ys' us') :
    Flds cm K G (upd H b (.lst us')) P (xs.set i (.lst ys')) vs := by
  refine ⟨by rw [List.length_set]; exact f.len, fun j e u g1 g2 => ?_, fun j k zs ws b' g1 g2 g3 g4 => ?_⟩
  · rcases get_set g1 with ⟨e1, e2⟩ | ⟨e1, e2⟩
    · subst e1 e2
      rw [h2] at g2; cases g2
      exact ⟨b, us', rfl, p, upd_same, hd⟩
    · have q := f.ok j e u e2 g2
      cases e with
      | lst zs =>
        obtain ⟨b', us2, q1, q2, q3, q4⟩ := q
        have ne : b' ≠ b := fun z => by
          rw [q1, z] at g2
          exact e1 (f.apart i j ys zs b h1 e2 h2 g2)
        exact ⟨b', us2, q1, q2, by rw [upd_ne ne]; exact q3, q4⟩
      | _ => exact q
  · rcases get_set g1 with ⟨e1, e2⟩ | ⟨e1, e2⟩ <;> rcases get_set g2 with ⟨e3, e4⟩ | ⟨e3, e4⟩
    · omega
    · subst e1; exact f.apart i k ys ws b' h1 e4 g3 g4
    · subst e3; exact f.apart j i zs ys b' e2 h1 g3 g4
    · exact f.apart j k zs ws b' e2 e4 g3 g4
end
end Vi

/-! ## ViRec2 -/
set_option Elab.async false
set_option linter.all false
set_option maxRecDepth 100000
set_option maxHeartbeats 800000
namespace Vi
open PySem L2

/-! ### fields of own instances -/
/-- a field; tab: the classes that are known -/
def oAt (tab : List Nat) (f : Str) : D → Option D
  | .obj k ns xs => if tab.contains k = true then (nIdx f ns).bind fun j => xs[j]? else none
  | _ => none
def stillO (o : Option D) : Option D := match o with | some x => if notL x = true then some x else none | none => none
def oStl (tab : List Nat) (f : Str) (d : D) : Option D := stillO (oAt tab f d)
def lstO (o : Option D) : Option (List D) := match o with | some (.lst ys) => some ys | _ => none
def oLst (tab : List Nat) (f : Str) (d : D) : Option (List D) := lstO (oAt tab f d)
def oPut (tab : List Nat) (f : Str) (x : D) : D → Option D
  | .obj k ns xs => if tab.contains k = true ∧ ns.length < 900 then some (match nIdx f ns with | some j => .obj k ns (xs.set j x) | none => .obj k (ns ++ [f]) (xs ++ [x])) else none
  | _ => none
def M.read (g : List S → Option D) : M D := fun ρ => match g ρ with | some x => .ok x ρ | none => .bad
def eRFld (i : Nat) (tab : List Nat) (f : Str) : M Hd := getRc i >>= fun d => M.lift (oStl tab f d) >>= fun x => pure (.val x)
def nlD : Hd → M D
  | .val d => guardM (notL d) (pure d)
  | .new (.lst ys) => pure (.lst ys)
  | .slot j => fz (.slot j) >>= fun d => guardM (notL d) (pure d)
  | _ => M.bad
def sRSet (i : Nat) (tab : List Nat) (f : Str) (fe : M Hd) : M Fl := fe >>= fun h => nlD h >>= fun x => getRc i >>= fun r => M.lift (oPut tab f x r) >>= fun r' => setRc i r' >>= fun _ => pure .nx
def eRApp (i : Nat) (tab : List Nat) (f : Str) (g : List S → Option D) : M Hd := getRc i >>= fun r => M.lift (oLst tab f r) >>= fun ys => M.read g >>= fun x => guardM (decide (ys.length < SLine)) (M.lift (oPut tab f (.lst (ys ++ [x])) r) >>= fun r' => setRc i r' >>= fun _ => pure (.val .non))
def eRExt (i : Nat) (tab : List Nat) (f : Str) (g : List S → Option (List D)) : M Hd := getRc i >>= fun r => M.lift (oLst tab f r) >>= fun ys => (fun ρ => match g ρ with | some x => .ok x ρ | none => .bad : M (List D)) >>= fun zs =>
  guardM (decide (ys.length + zs.length ≤ SLine)) (M.lift (oPut tab f (.lst (ys ++ zs)) r) >>= fun r' => setRc i r' >>= fun _ => pure (.val .non))
def eRPop (i : Nat) (tab : List Nat) (f : Str) : M Hd := getRc i >>= fun r => M.lift (oLst tab f r) >>= fun ys => M.lift ys.getLast? >>= fun x => M.lift (oPut tab f (.lst ys.dropLast) r) >>= fun r' => setRc i r' >>= fun _ => pure (.val x)
def eRNil (i : Nat) (tab : List Nat) (f : Str) (g : D → D → Option Hd) : M Hd := getRc i >>= fun r => M.lift (oLst tab f r) >>= fun ys => M.lift (g (.lst ys) (.lst [])) >>= fun h => pure h

/-! expressions that only read what stands still -/
structure VQ (cm : Nat → Addr) (X : Cx) (e : Expr) (te : TE) (g : List S → Option D) : Prop where
  pe : PE X e te
  sem : ∀ ρ c σ H (Q : VK) d, Rep cm X.K X.N.length c H ρ σ → g ρ = some d → (∀ c' H' v, Ext c c' H H' → Den cm X.K (Gz c' H') d v → Q v H') → te σ H Q
structure VQs (cm : Nat → Addr) (X : Cx) (es : List Expr) (t : TA) (g : List S → Option (List D)) : Prop where
  pe : PA X es t
  sem : ∀ ρ c σ H (Q : List V → Hp → Prop) ds, Rep cm X.K X.N.length c H ρ σ → g ρ = some ds → (∀ c' H' vs, Ext c c' H H' → DenL cm X.K (Gz c' H') ds vs → Q vs H') → t σ H Q
def frO : S → Option D | .fr d => some d | _ => none
def qVar (i : Nat) : List S → Option D := fun ρ => frO (at_ ρ i)
def qFld (i : Nat) (tab : List Nat) (f : Str) : List S → Option D := fun ρ => (rcOf (at_ ρ i)).bind (oStl tab f)
def qNil : List S → Option (List D) := fun _ => some []
def qCons (g : List S → Option D) (r : List S → Option (List D)) : List S → Option (List D) := fun ρ => (g ρ).bind fun d => (r ρ).map fun ds => d :: ds
def qTup (r : List S → Option (List D)) : List S → Option D := fun ρ => (r ρ).bind fun ds => if ds.length ≤ SLine then some (.tup ds) else none

section
variable {cm : Nat → Addr} {K : PySem.W.Frag} {n : Nat} {c c' c₀ : Col} {H H' H₀ G : Hp} {σ : St} {ρ ρ' : List S} {P : Addr → Prop}
theorem stillO_some {o : Option D} {x : D} (h : stillO o = some x) : o = some x ∧ notL x = true := by
  cases o with
  | none => cases h
  | some y =>
    have h : (if notL y = true then some y else none) = some x := h
    by_cases q : notL y = true
    · rw [if_pos q] at h; cases h; exact ⟨rfl, q⟩
    · rw [if_neg q] at h; cases h
theorem lstO_some {o : Option D} {ys : List D} (h : lstO o = some ys) : o = some (.lst ys) := by
  cases o with
  | none => cases h
  | some y =>
    cases y with
    | lst zs => cases h; rfl
    | _ => cases h
/-- what is known of an instance's field -/
theorem oAt_ok {tab : List Nat} {f : Str} {d x : D} {u : V} (h : oAt tab f d = some x) (r : RecC cm K G H P u d) :
    ∃ k ns xs j a dx vs v, d = .obj k ns xs ∧ tab.contains k = true ∧ nIdx f ns = some j ∧ xs[j]? = some x ∧ u = .ref a ∧ P a ∧ ns.length = vs.length ∧ H a = some (.ins (cm k) dx (ns.zip vs)) ∧ (ns.zip vs).lookup f = some v ∧ vs[j]? = some v ∧ FOk cm K G H P x v ∧ Flds cm K G H P xs vs := by
  obtain ⟨a, xs, vs, e, p, hd, fl⟩ := r
  cases d with
  | obj k ns ys =>
    obtain ⟨e1, e2, dx, e3⟩ := hd
    subst e1
    have h : (if tab.contains k = true then (nIdx f ns).bind fun j => xs[j]? else none) = some x := h
    by_cases q : tab.contains k = true
    case neg => rw [if_neg q] at h; cases h
    rw [if_pos q] at h
    cases ej : nIdx f ns with
    | none => rw [ej] at h; cases h
    | some j =>
      rw [ej] at h
      have h : xs[j]? = some x := h
      obtain ⟨v, hv, fo⟩ := fl.get h
      exact ⟨k, ns, xs, j, a, dx, vs, v, rfl, q, ej, h, e, p, e2, e3, by rw [nIdx_lookup ej]; exact hv, hv, fo, fl⟩
  | _ => cases h
/-- e.f = v at a record: the instance as it is then -/
theorem oPut_ok {tab : List Nat} {f : Str} {d d' x : D} {u : V} (h : oPut tab f x d = some d') (r : RecC cm K G H P u d) :
    ∃ k ns xs a dx vs, d = .obj k ns xs ∧ tab.contains k = true ∧ u = .ref a ∧ P a ∧ H a = some (.ins (cm k) dx (ns.zip vs)) ∧ (ns.zip vs).length < 1000 ∧
      ∀ v G' (P' : Addr → Prop), (∀ b o, G b = some o → G' b = some o) → (∀ b, P b → P' b) → FOk cm K G' H P' x v → (∀ ys q, x = .lst ys → v = .ref q → ¬ P q) → RecC cm K G' (upd H a (.ins (cm k) dx (putF f v (ns.zip vs)))) P' u d' := by
  obtain ⟨a, xs, vs, e, p, hd, fl0⟩ := r
  cases d with
  | obj k ns ys =>
    obtain ⟨e1, e2, dx, e3⟩ := hd
    subst e1
    have h : (if tab.contains k = true ∧ ns.length < 900 then some (match nIdx f ns with | some j => D.obj k ns (xs.set j x) | none => .obj k (ns ++ [f]) (xs ++ [x])) else none) = some d' := h
    by_cases q : tab.contains k = true ∧ ns.length < 900
    case neg => rw [if_neg q] at h; cases h
    rw [if_pos q] at h
    have h := Option.some.inj h
    refine ⟨k, ns, xs, a, dx, vs, rfl, q.1, e, p, e3, by rw [List.length_zip]; omega, fun v G' P' hG hP fo hv => ?_⟩
    have fl : Flds cm K G' H P' xs vs := fl0.mono hG fun b o p q => ⟨hP b p, q⟩
    -- the other fields stay as they are
    have key : ∀ {xs' : List D} {vs' : List V} {o : HO}, Flds cm K G' H P' xs' vs' → (∀ (i : Nat) ys b, xs'[i]? = some (D.lst ys) → vs'[i]? = some (V.ref b) → b ≠ a) → Flds cm K G' (upd H a o) P' xs' vs' := fun {xs' vs' o} fl hne => ⟨fl.len, fun i d v h1 h2 => by
      have q := fl.ok i d v h1 h2
      cases d with
      | lst ys =>
        obtain ⟨b, us, q1, q2, q3, q4⟩ := q
        subst q1
        exact ⟨b, us, rfl, q2, by rw [upd_ne (hne i ys b h1 h2)]; exact q3, q4⟩
      | _ => exact q, fl.apart⟩
    have lp : ∀ (i : Nat) ys b, xs[i]? = some (D.lst ys) → vs[i]? = some (V.ref b) → P b ∧ b ≠ a := fun i ys b h1 h2 => by
      obtain ⟨b', us, q1, q2, q3, q4⟩ := (show FOk cm K G H P (.lst ys) (V.ref b) from fl0.ok i _ _ h1 h2)
      cases q1
      exact ⟨q2, fun z => by rw [z, e3] at q3; cases q3⟩
    have na : ∀ (i : Nat) ys b, xs[i]? = some (D.lst ys) → vs[i]? = some (V.ref b) → b ≠ a := fun i ys b h1 h2 => (lp i ys b h1 h2).2
    have hn : ∀ b (j : Nat) ys zs, xs[j]? = some (D.lst zs) → x ≠ .lst ys ∨ v ≠ .ref b ∨ vs[j]? ≠ some (V.ref b) := fun b j ys zs hz => by
      by_cases z1 : x = .lst ys
      · by_cases z2 : v = .ref b
        · exact .inr (.inr fun z => hv ys b z1 z2 (lp j zs b hz z).1)
        · exact .inr (.inl z2)
      · exact .inl z1
    cases ej : nIdx f ns with
    | some j =>
      rw [ej] at h
      have h : D.obj k ns (xs.set j x) = d' := h
      subst h
      refine ⟨a, xs.set j x, vs.set j v, e, hP a p, ⟨rfl, by rw [List.length_set]; exact e2, dx, by rw [upd_same, nIdx_put ej e2]⟩, key (fl.put fo hn) fun m ys b h1 h2 => ?_⟩
      rcases get_set h1 with ⟨g1, g2⟩ | ⟨g1, g2⟩
      · rcases get_set h2 with ⟨g3, g4⟩ | ⟨g3, g4⟩
        · exact fun z => hv ys b g2.symm g4.symm (by rw [z]; exact p)
        · exact absurd g1 g3
      · rcases get_set h2 with ⟨g3, g4⟩ | ⟨g3, g4⟩
        · exact absurd g3 g1
        · exact na m ys b g2 g4
    | none =>
      rw [ej] at h
      have h : D.obj k (ns ++ [f]) (xs ++ [x]) = d' := h
      subst h
      refine ⟨a, xs ++ [x], vs ++ [v], e, hP a p, ⟨rfl, by rw [List.length_append, List.length_append, e2]; rfl, dx, by rw [upd_same, nIdx_putN ej e2]⟩, key (fl.snoc fo hn) fun m ys b h1 h2 => ?_⟩
      have hl := fl.len
      rcases get_snoc h1 with ⟨g1, g2⟩ | ⟨g1, g2⟩ <;> rcases get_snoc h2 with ⟨g3, g4⟩ | ⟨g3, g4⟩
      · exact fun z => hv ys b g2.symm g4.symm (by rw [z]; exact p)
      · omega
      · omega
      · exact na m ys b g2 g4
  | _ => cases h
/-- a field's list changed in place -/
theorem oPut_in {tab : List Nat} {f : Str} {d d' : D} {ys ys' : List D} {u : V} (h0 : oLst tab f d = some ys) (h : oPut tab f (.lst ys') d = some d') (r : RecC cm K G H P u d) :
    ∃ b us, (∃ k ns xs a dx vs, d = .obj k ns xs ∧ tab.contains k = true ∧ u = .ref a ∧ H a = some (.ins (cm k) dx (ns.zip vs)) ∧ (ns.zip vs).lookup f = some (.ref b)) ∧ P b ∧ H b = some (.lst us) ∧ DenL cm K G ys us ∧ ∀ us', DenL cm K G ys' us' → RecC cm K G (upd H b (.lst us')) P u d' := by
  obtain ⟨k, ns, xs, j, a, dx, vs, v, e1, e2, e3, e4, e5, e6, e7, e8, e9, e10, fo, fl⟩ := oAt_ok (lstO_some h0) r
  obtain ⟨b, us, q1, q2, q3, q4⟩ := (show FOk cm K G H P (.lst ys) v from fo)
  subst e1 q1
  have h : (if tab.contains k = true ∧ ns.length < 900 then some (match nIdx f ns with | some j => D.obj k ns (xs.set j (.lst ys')) | none => .obj k (ns ++ [f]) (xs ++ [.lst ys'])) else none) = some d' := h
  by_cases q : tab.contains k = true ∧ ns.length < 900
  case neg => rw [if_neg q] at h; cases h
  rw [if_pos q, e3] at h
  have h : D.obj k ns (xs.set j (.lst ys')) = d' := Option.some.inj h
  subst h
  refine ⟨b, us, ⟨k, ns, xs, a, dx, vs, rfl, e2, e5, e8, e9⟩, q2, q3, q4, fun us' dn => ⟨a, xs.set j (.lst ys'), vs, e5, e6, ⟨rfl, e7, dx, ?_⟩, fl.inl (us := us) e4 e10 q2 dn⟩⟩
  rw [upd_ne (fun z => by rw [z, q3] at e8; cases e8)]; exact e8
end

section
variable {cm : Nat → Addr} {X : Cx} {W : WX} {K : PySem.W.Frag} {n : Nat}
/-- reading a field, from the record -/
theorem fld_red {tab : List Nat} {f : Str} {i : Nat} {c : Col} {H : Hp} {σ : St} {P : Addr → Prop} {G : Hp} {d x : D} {u : V} {Q : VK} (hT : ∀ k ∈ tab, KlsP K cm f k) (hv : σ[i]? = some (some u)) (h : oAt tab f d = some x) (r : RecC cm K G H P u d) (q : ∀ v, FOk cm K G H P x v → Q v H) : tFld K (tVar i) f σ H Q := by
  obtain ⟨k, ns, xs, j, a, dx, vs, v, e1, e2, e3, e4, e5, e6, e7, e8, e9, e10, fo, fl⟩ := oAt_ok h r
  obtain ⟨t1, t2⟩ := hT k (List.contains_iff_mem.mp e2)
  exact ⟨u, hv, a, _, dx, _, v, e5, e8, t1, t2, e9, q v fo⟩
theorem ve_rfld (i : Nat) {tab : List Nat} {f x : Str} {p pos : Pos} (hT : ∀ k ∈ tab, KlsP K cm f k) (hN : X.N[i]? = some x := by rfl) (hv : Vis X.env.scope x := by first | exact Or.inl rfl | exact Or.inr (Or.inl rfl) | exact Or.inr (Or.inr rfl)) (hK : X.K = K := by rfl)
    (hb : attributeBase (.Name x p) f X.env (eval (.Name x p) X.env) = eval (.Name x p) X.env := by rfl) (hd : (x == ("__debug__" : Str)) = false := by decide) (hcd : (x == ("__classdict__" : Str)) = false := by decide) :
    VE cm X W (.Attribute (.Name x p) f pos) (tFld K (tVar i) f) (eRFld i tab f) := by
  subst hK
  refine ⟨pe_fld (pe_var hN hv hd hcd) hb, fun ρ c σ H Q r q => ?_⟩
  unfold eRFld at q
  rw [M.bind_run] at q
  rcases getRc_ok r (i := i) with e | ⟨pp, d, u, e, hi, hs, hu, rc⟩
  · rw [e] at q; exact q.elim
  rw [e] at q
  dsimp only at q
  rw [M.bind_run, lift_run] at q
  cases eo : oStl tab f d with
  | none => rw [eo] at q; exact q.elim
  | some z =>
    rw [eo] at q
    obtain ⟨e1, e2⟩ := stillO_some eo
    exact fld_red (c := c) hT hu e1 rc fun v fo => q c H v Stq.refl r (fo.den e2)
theorem vq_var (i : Nat) {x : Str} {pos : Pos} (hN : X.N[i]? = some x := by rfl) (hv : Vis X.env.scope x := by first | exact Or.inl rfl | exact Or.inr (Or.inl rfl) | exact Or.inr (Or.inr rfl)) (hd : (x == ("__debug__" : Str)) = false := by decide)
    (hcd : (x == ("__classdict__" : Str)) = false := by decide) : VQ cm X (.Name x pos) (tVar i) (qVar i) := ⟨pe_var hN hv hd hcd, fun ρ c σ H Q d r e q => by
  unfold qVar at e
  cases es : at_ ρ i with
  | fr d' =>
    rw [es] at e; cases e
    obtain ⟨v, h1, u, e1, e2⟩ := r.at_ i _ (at_some es (fun z => nomatch z))
    subst e1
    exact ⟨u, h1, q c H u Ext.refl e2⟩
  | _ => rw [es] at e; cases e⟩
theorem vq_fld (i : Nat) {tab : List Nat} {f x : Str} {p pos : Pos} (hT : ∀ k ∈ tab, KlsP K cm f k) (hN : X.N[i]? = some x := by rfl) (hv : Vis X.env.scope x := by first | exact Or.inl rfl | exact Or.inr (Or.inl rfl) | exact Or.inr (Or.inr rfl)) (hK : X.K = K := by rfl)
    (hb : attributeBase (.Name x p) f X.env (eval (.Name x p) X.env) = eval (.Name x p) X.env := by rfl) (hd : (x == ("__debug__" : Str)) = false := by decide) (hcd : (x == ("__classdict__" : Str)) = false := by decide) :
    VQ cm X (.Attribute (.Name x p) f pos) (tFld K (tVar i) f) (qFld i tab f) := by
  subst hK
  refine ⟨pe_fld (pe_var hN hv hd hcd) hb, fun ρ c σ H Q d r e q => ?_⟩
  unfold qFld at e
  cases es : at_ ρ i with
  | rc pp d' =>
    rw [es] at e
    have e : oStl tab f d' = some d := e
    obtain ⟨v, h1, u, e1, e2⟩ := r.at_ i _ (at_some es (fun z => nomatch z))
    subst e1
    obtain ⟨g1, g2⟩ := stillO_some e
    exact fld_red (c := c) hT h1 g1 e2 fun v fo => q c H v Ext.refl (fo.den g2)
  | _ => rw [es] at e; cases e
theorem vqs_nil : VQs cm X [] tNil qNil := ⟨pa_nil, fun ρ c σ H Q ds r e q => by cases e; exact q c H [] Ext.refl rfl⟩
theorem vqs_cons {e : Expr} {es : List Expr} {te : TE} {t : TA} {g : List S → Option D} {gs : List S → Option (List D)} (h : VQ cm X e te g) (hr : VQs cm X es t gs) (hs : starEach (e :: es) X.env = (false, eval e X.env) :: starEach es X.env := by rfl) :
    VQs cm X (e :: es) (tCons te t) (qCons g gs) := ⟨pa_cons h.pe hr.pe hs, fun ρ c σ H Q ds r e q => by
  unfold qCons at e
  cases e1 : g ρ with
  | none => rw [e1] at e; cases e
  | some d =>
    rw [e1] at e
    cases e2 : gs ρ with
    | none => rw [e2] at e; cases e
    | some dr =>
      rw [e2] at e; cases e
      refine h.sem ρ c σ H _ d r e1 fun c1 H1 v ex dv => ?_
      exact hr.sem ρ c1 σ H1 _ dr (r.ext ex) e2 fun c2 H2 vs ex2 dvs => q c2 H2 _ (ex.trans ex2) ⟨v, vs, rfl, Den.mono ex2.gz _ _ dv, dvs⟩⟩
theorem vq_tup {es : List Expr} {t : TA} {gs : List S → Option (List D)} {x1} {pos : Pos} (h : VQs cm X es t gs) : VQ cm X (.Tuple es x1 pos) (tTup t) (qTup gs) := ⟨pe_tup h.pe, fun ρ c σ H Q d r e q => by
  unfold qTup at e
  cases e1 : gs ρ with
  | none => rw [e1] at e; cases e
  | some ds =>
    rw [e1] at e
    have e : (if ds.length ≤ SLine then some (D.tup ds) else none) = some d := e
    by_cases hz : ds.length ≤ SLine
    case neg => rw [if_neg hz] at e; cases e
    rw [if_pos hz] at e; cases e
    refine h.sem ρ c σ H _ ds r e1 fun c1 H1 vs ex dl => ⟨Nat.le_trans (by have := dl.length; omega) sline, fun p hp => ?_⟩
    have e : Ext c1 (cset c1 p 0) H1 (upd H1 p (.tup vs)) := Ext.alloc hp
    exact q _ _ _ (ex.trans e) (den_new_tup hp dl)⟩
/-! changes -/
theorem nlD_ok {ρ₀ ρ ρ' : List S} {σ : St} {c₀ c : Col} {H₀ H : Hp} {h : Hd} {v : V} {x : D} (s : Stq n ρ₀ ρ c₀ c H₀ H) (r : Rep cm K n c H ρ σ) (hx : HdOk cm K n H₀ c H σ h v) (e : nlD h ρ = .ok x ρ') :
    ∃ c', Stq n ρ₀ ρ' c₀ c' H₀ H ∧ Rep cm K n c' H ρ' σ ∧ ((notL x = true ∧ Den cm K (Gz c' H) x v) ∨ ∃ b us ys, x = .lst ys ∧ v = .ref b ∧ c' b = n + 1 ∧ H₀ b = none ∧ H b = some (.lst us) ∧ DenL cm K (Gz c' H) ys us) := by
  have gv : ∀ d (ρ1 : List S), guardM (notL d) (pure d : M D) ρ1 = .ok x ρ' → notL d = true ∧ d = x ∧ ρ1 = ρ' := fun d ρ1 e => by
    unfold guardM at e
    by_cases q : notL d = true
    · rw [if_pos q] at e; cases e; exact ⟨q, rfl, rfl⟩
    · rw [if_neg q] at e; cases e
  cases h with
  | val d => obtain ⟨a1, a2, a3⟩ := gv d ρ e; subst a2 a3; exact ⟨c, s, r, .inl ⟨a1, hx⟩⟩
  | rc j d => cases e
  | new d =>
    cases d with
    | lst ys =>
      cases e
      obtain ⟨a, e1, h0, h1, us, h2, h3⟩ := hx
      exact ⟨c, s, r, .inr ⟨a, us, ys, rfl, e1, h1, h0, h2, h3⟩⟩
    | _ => cases e
  | slot j =>
    have e : (fz (.slot j) >>= fun d => guardM (notL d) (pure d)) ρ = .ok x ρ' := e
    rw [M.bind_run] at e
    rcases fz_cases (.slot j) ρ with ⟨d, ρ2, ez⟩ | ez
    · rw [ez] at e
      obtain ⟨a1, a2, a3⟩ := gv d ρ2 e
      subst a2 a3
      obtain ⟨c', s', r', d', g⟩ := fz_ok s r hx ez
      exact ⟨c', s', r', .inl ⟨a1, d'⟩⟩
    · rw [ez] at e; cases e
theorem nlD_cases (h : Hd) (ρ : List S) : (∃ x ρ', nlD h ρ = .ok x ρ') ∨ nlD h ρ = .bad := by
  have gv : ∀ d (ρ1 : List S), (∃ x ρ', guardM (notL d) (pure d : M D) ρ1 = .ok x ρ') ∨ guardM (notL d) (pure d : M D) ρ1 = .bad := fun d ρ1 => by
    unfold guardM
    by_cases q : notL d = true
    · rw [if_pos q]; exact .inl ⟨_, _, rfl⟩
    · rw [if_neg q]; exact .inr rfl
  cases h with
  | val d => exact gv d ρ
  | rc j d => exact .inr rfl
  | new d =>
    cases d with
    | lst ys => exact .inl ⟨_, _, rfl⟩
    | _ => exact .inr rfl
  | slot j =>
    show (∃ x ρ', (fz (.slot j) >>= fun d => guardM (notL d) (pure d)) ρ = .ok x ρ') ∨ (fz (.slot j) >>= fun d => guardM (notL d) (pure d)) ρ = .bad
    rw [M.bind_run]
    rcases fz_cases (.slot j) ρ with ⟨d, ρ2, ez⟩ | ez
    · rw [ez]; exact gv d ρ2
    · rw [ez]; exact .inr rfl
theorem vs_rset (i : Nat) {tab : List Nat} {f x : Str} {e : Expr} {te : TE} {fe : M Hd} {p pos' pos : Pos} (hT : ∀ k ∈ tab, KlsP K cm f k) (he : VE cm X W e te fe) (hN : X.N[i]? = some x := by rfl) (hv : Vis X.env.scope x := by first | exact Or.inl rfl | exact Or.inr (Or.inl rfl) | exact Or.inr (Or.inr rfl)) (hK : X.K = K := by rfl)
    (hs : swapsWith e (some (.Attribute (.Name x p) f pos')) pos.line X.env = pure false := by rfl) (hd : (x == ("__debug__" : Str)) = false := by decide) (hcd : (x == ("__classdict__" : Str)) = false := by decide) :
    VS cm X W (.Assign [.Attribute (.Name x p) f pos'] e pos) (sFld K (tVar i) te f) (sRSet i tab f fe) := by
  subst hK
  refine ⟨ps_fld (pe_var hN hv hd hcd) he.pe hs, fun ρ c σ H Dn r q => ?_⟩
  refine sem_in he.sem r q fun a ρ1 c1 H1 y s1 r1 hy q1 => ?_
  rw [M.bind_run] at q1
  rcases nlD_cases a ρ1 with ⟨z, ρ2, ez⟩ | ez
  case inr => rw [ez] at q1; exact q1.elim
  rw [ez] at q1
  dsimp only at q1
  obtain ⟨c2, s2, r2, hz⟩ := nlD_ok s1 r1 hy ez
  rw [M.bind_run] at q1
  rcases getRc_ok r2 (i := i) with eg | ⟨pp, d, u, eg, hi, hs, hu, rc⟩
  · rw [eg] at q1; exact q1.elim
  rw [eg] at q1
  dsimp only at q1
  rw [M.bind_run, lift_run] at q1
  cases eo : oPut tab f z d with
  | none => rw [eo] at q1; exact q1.elim
  | some d' =>
    rw [eo] at q1
    have q1 : QN cm X.K X.N.length Dn.nx ρ σ c H (rcSet i d' ρ2) := q1
    obtain ⟨k, ns, xs, aa, dx, vs, e1, e2, e3, e4, e5, e6, e7⟩ := oPut_ok eo rc
    obtain ⟨t1, t2⟩ := hT k (List.contains_iff_mem.mp e2)
    refine ⟨u, hu, aa, _, dx, _, e3, e5, t1, t2, e6, ?_⟩
    have e4 : c2 aa = i + 1 := e4
    rcases hz with ⟨hn, dz⟩ | ⟨b, us, ys, ez1, ev, cb, h0, hb, dl⟩
    · have ex : ExtS (fun q => q = i + 1) c2 c2 H1 (upd H1 aa (.ins (cm k) dx (putF f y (ns.zip vs)))) := ExtS.upd e5 e4
      have rn := e7 y (Gz c2 H1) (fun b => c2 b = i + 1) (fun _ _ h => h) (fun _ h => h) (FOk.still hn dz) (fun ys q eb => by rw [eb] at hn; cases hn)
      have sq := s2.mutR (d' := d') hi ex
      exact q1 c2 σ _ sq.st sq.kp (r2.mutR hs hu (rn.mono (gz_write (by rw [e4]; omega)) fun b o p q => ⟨p, q⟩) ex)
    · -- a new list: it takes the record's colour
      subst ez1 ev
      have nb : b ≠ aa := fun z => by rw [z, e5] at hb; cases hb
      have gz : ∀ a o, Gz c2 H1 a = some o → Gz (cset c2 b (i + 1)) H1 a = some o := gz_recol (by omega)
      have r3 := r2.recol (k := i + 1) (p := b) (by omega) (by omega)
      have s3 : Stq X.N.length ρ ρ2 c (cset c2 b (i + 1)) H H1 := ⟨s2.st.recol h0, s2.kq⟩
      have e4' : cset c2 b (i + 1) aa = i + 1 := by rw [cset_ne nb.symm]; exact e4
      have rn := e7 (.ref b) (Gz (cset c2 b (i + 1)) H1) (fun a => cset c2 b (i + 1) a = i + 1) gz (fun a p => by
        by_cases z : a = b
        · rw [z]; exact cset_same
        · rw [cset_ne z]; exact p) ⟨b, us, rfl, cset_same, hb, DenL.mono gz _ _ dl⟩ (fun ys' q _ ev => by cases ev; show ¬ c2 b = i + 1; omega)
      have ex : ExtS (fun q => q = i + 1) (cset c2 b (i + 1)) (cset c2 b (i + 1)) H1 (upd H1 aa (.ins (cm k) dx (putF f (.ref b) (ns.zip vs)))) := ExtS.upd e5 e4'
      have sq := s3.mutR (d' := d') hi ex
      exact q1 _ σ _ sq.st sq.kp (r3.mutR hs hu (rn.mono (gz_write (by rw [e4']; omega)) fun b o p q => ⟨p, q⟩) ex)
end
end Vi

/-! ## ViRec3 -/
set_option Elab.async false
set_option linter.all false
set_option maxRecDepth 100000
set_option maxHeartbeats 800000
namespace Vi
open PySem L2

/-! ### lists that are fields of a record -/
structure VF (cm : Nat → Addr) (X : Cx) (e : Expr) (te : TE) (i : Nat) (gl : List S → Option (List D)) (gp : List S → List D → Option D) : Prop where
  pe : PE X e te
  sem : ∀ ρ c σ H ys, Rep cm X.K X.N.length c H ρ σ → gl ρ = some ys → ∃ p d u b us, i < X.N.length ∧ ρ[i]? = some (.rc p d) ∧ σ[i]? = some (some u) ∧ c b = i + 1 ∧ H b = some (.lst us) ∧ DenL cm X.K (Gz c H) ys us ∧
    (∀ Q : VK, Q (.ref b) H → te σ H Q) ∧ ∀ c1 H1, Ext c c1 H H1 → ∀ ys' us' d', gp ρ ys' = some d' → DenL cm X.K (Gz c1 H1) ys' us' → RecC cm X.K (Gz c1 H1) (upd H1 b (.lst us')) (fun a => c1 a = i + 1) u d'
def oGl (i : Nat) (tab : List Nat) (f : Str) : List S → Option (List D) := fun ρ => (rcOf (at_ ρ i)).bind (oLst tab f)
def oGp (i : Nat) (tab : List Nat) (f : Str) : List S → List D → Option D := fun ρ ys => (rcOf (at_ ρ i)).bind (oPut tab f (.lst ys))
def fApp (i : Nat) (gl : List S → Option (List D)) (gp : List S → List D → Option D) (g : List S → Option D) : M Hd := fun ρ => match gl ρ, g ρ with
  | some ys, some x => if ys.length < SLine then (match gp ρ (ys ++ [x]) with | some d' => .ok (.val .non) (rcSet i d' ρ) | none => .bad) else .bad
  | _, _ => .bad
def fExt (i : Nat) (gl : List S → Option (List D)) (gp : List S → List D → Option D) (g : List S → Option (List D)) : M Hd := fun ρ => match gl ρ, g ρ with
  | some ys, some xs => if ys.length + xs.length ≤ SLine then (match gp ρ (ys ++ xs) with | some d' => .ok (.val .non) (rcSet i d' ρ) | none => .bad) else .bad
  | _, _ => .bad
def fPop (i : Nat) (gl : List S → Option (List D)) (gp : List S → List D → Option D) : M Hd := fun ρ => match gl ρ with
  | some ys => (match ys.getLast?, gp ρ ys.dropLast with | some x, some d' => .ok (.val x) (rcSet i d' ρ) | _, _ => .bad)
  | none => .bad
def fNil (gl : List S → Option (List D)) (g : D → D → Option Hd) : M Hd := fun ρ => match gl ρ with
  | some ys => (match g (.lst ys) (.lst []) with | some h => .ok h ρ | none => .bad)
  | none => .bad
section
variable {cm : Nat → Addr} {X : Cx} {W : WX} {K : PySem.W.Frag} {i : Nat} {gl : List S → Option (List D)} {gp : List S → List D → Option D}
theorem vf_fld (i : Nat) {tab : List Nat} {f x : Str} {p pos : Pos} (hT : ∀ k ∈ tab, KlsP K cm f k) (hN : X.N[i]? = some x := by rfl) (hv : Vis X.env.scope x := by first | exact Or.inl rfl | exact Or.inr (Or.inl rfl) | exact Or.inr (Or.inr rfl)) (hK : X.K = K := by rfl)
    (hb : attributeBase (.Name x p) f X.env (eval (.Name x p) X.env) = eval (.Name x p) X.env := by rfl) (hd : (x == ("__debug__" : Str)) = false := by decide) (hcd : (x == ("__classdict__" : Str)) = false := by decide) :
    VF cm X (.Attribute (.Name x p) f pos) (tFld K (tVar i) f) i (oGl i tab f) (oGp i tab f) := by
  subst hK
  refine ⟨pe_fld (pe_var hN hv hd hcd) hb, fun ρ c σ H ys r e => ?_⟩
  unfold oGl at e
  cases es : at_ ρ i with
  | rc pp d =>
    rw [es] at e
    have e : oLst tab f d = some ys := e
    have hs := at_some es (fun z => nomatch z)
    obtain ⟨v, h1, u, e1, rc⟩ := r.at_ i _ hs
    subst e1
    have hi : i < X.N.length := by rw [← r.len]; exact (List.getElem?_eq_some_iff.mp hs).1
    obtain ⟨k, ns, xs, j, a, dx, vs, v, g1, g2, g3, g4, g5, g6, g7, g8, g9, g10, fo, fl⟩ := oAt_ok (lstO_some e) rc
    obtain ⟨b, us, q1, q2, q3, q4⟩ := (show FOk cm X.K (Gz c H) H _ (.lst ys) v from fo)
    subst g1 q1
    obtain ⟨t1, t2⟩ := hT k (List.contains_iff_mem.mp g2)
    refine ⟨pp, _, u, b, us, hi, hs, h1, q2, q3, q4, fun Q q => ⟨u, h1, a, _, dx, _, _, g5, g8, t1, t2, g9, q⟩, fun c1 H1 ex ys' us' d' ep dl => ?_⟩
    unfold oGp at ep
    rw [es] at ep
    have ep : oPut tab f (.lst ys') (.obj k ns xs) = some d' := ep
    have rc1 : RecC cm X.K (Gz c1 H1) H1 (fun a => c1 a = i + 1) u (.obj k ns xs) := rc.mono ex.gz fun a o p q => ⟨(ex a o q).1.trans p, (ex a o q).2⟩
    obtain ⟨b1, us1, ⟨k1, ns1, xs1, a1, dx1, vs1, z1, z2, z3, z4, z5⟩, p1, p2, p3, p4⟩ := oPut_in e ep rc1
    cases z1
    rw [g5] at z3; cases z3
    rw [(ex a _ g8).2] at z4
    have z4 := Option.some.inj z4
    injection z4 with w1 w2 w3
    rw [← w3, g9] at z5
    cases z5
    exact p4 us' dl
  | _ => rw [es] at e; cases e
/-- the record after a list of its own is written -/
theorem rec_end {ρ₀ ρ : List S} {σ : St} {c₀ c : Col} {H₀ H : Hp} {p : Bool} {d d' : D} {u v : V} {b : Addr} {us us' : List V} {h : Hd} {Q : VK} (s0 : Stq X.N.length ρ₀ ρ c₀ c H₀ H) (r : Rep cm X.K X.N.length c H ρ σ) (hi : i < X.N.length) (hs : ρ[i]? = some (.rc p d)) (hu : σ[i]? = some (some u)) (hc : c b = i + 1) (hb : H b = some (.lst us))
    (rn : RecC cm X.K (Gz c H) (upd H b (.lst us')) (fun a => c a = i + 1) u d') (q : QR cm X.K X.N.length W (HdOk cm X.K X.N.length) Q ρ₀ c₀ H₀ σ (.ok h (rcSet i d' ρ))) (hd : HdOk cm X.K X.N.length H₀ c (upd H b (.lst us')) σ h v) : Q v (upd H b (.lst us')) := by
  have ex : ExtS (fun q => q = i + 1) c c H (upd H b (.lst us')) := ExtS.upd hb hc
  exact q c _ v (s0.mutR hi ex) (r.mutR hs hu (rn.mono (gz_write (by omega)) fun _ _ p q => ⟨p, q⟩) ex) hd
theorem ve_fapp {o e : Expr} {to te : TE} {g : List S → Option D} {apos pos : Pos} (hf : VF cm X o to i gl gp) (h : VQ cm X e te g) (hK : X.K = K := by rfl) (h0 : attributeBase o "append" X.env (eval o X.env) = eval o X.env := by rfl)
    (h1 : ((((backTo pos (starEach [e] X.env)).all (!·.1)) && ((backToKw pos (keywordEach [] X.env)).all (·.1.isSome))) && decide (([e].length + ([] : List Keyword).length + if ([] : List Keyword).isEmpty = true then 0 else 1) < 30)) = true := by rfl)
    (h2 : (apos.endLine == pos.line) = true := by rfl) (h3 : starEach [e] X.env = (false, eval e X.env) :: starEach [] X.env := by rfl) :
    VE cm X W (.Call (.Attribute o "append" apos) [e] [] pos) (tBM K "list" rAppend to (tCons te tNil)) (fApp i gl gp g) := by
  subst hK
  refine ⟨pe_bm PySem.F.plainAttrs_list PySem.F.slot_list_append PySem.F.type_list_append mt_append hf.pe (pa_cons h.pe pa_nil h3) h0 h1 h2 h3 rfl, fun ρ c σ H Q r q => ?_⟩
  unfold fApp at q
  cases e1 : gl ρ with
  | none => rw [e1] at q; exact q.elim
  | some ys =>
    rw [e1] at q
    cases e2 : g ρ with
    | none => rw [e2] at q; exact q.elim
    | some x =>
      rw [e2] at q
      dsimp only at q
      by_cases hz : ys.length < SLine
      case neg => rw [if_neg hz] at q; exact q.elim
      rw [if_pos hz] at q
      obtain ⟨p, d, u, b, us, hi, hs, hu, hc, hb, dl, tq, cl⟩ := hf.sem ρ c σ H ys r e1
      refine tq _ ⟨.inl ⟨rfl, us, SqL.of hb⟩, ?_⟩
      refine h.sem ρ c σ H _ x r e2 fun c1 H1 v ex dv => ?_
      cases e3 : gp ρ (ys ++ [x]) with
      | none => rw [e3] at q; exact q.elim
      | some d' =>
        rw [e3] at q
        have hl := dl.length
        obtain ⟨xc, xh⟩ := ex b _ hb
        refine ⟨b, us, v, rfl, rfl, xh, Nat.lt_of_lt_of_le (by omega) sline, ?_⟩
        have rn := cl c1 H1 ex (ys ++ [x]) (us ++ [v]) d' e3 ((DenL.mono ex.gz _ _ dl).append ⟨v, [], rfl, dv, rfl⟩)
        exact rec_end (h := .val .non) (v := .non) ⟨ex.stp, fun _ _ h => h⟩ (r.ext ex) hi hs hu (xc.trans hc) xh rn q rfl
theorem ve_fext {o : Expr} {es : List Expr} {to : TE} {t : TA} {g : List S → Option (List D)} {apos pos p3 : Pos} (hf : VF cm X o to i gl gp) (h : VQs cm X es t g) (hK : X.K = K := by rfl) (h0 : attributeBase o "extend" X.env (eval o X.env) = eval o X.env := by rfl)
    (h1 : ((((backTo pos (starEach [.List es p3] X.env)).all (!·.1)) && ((backToKw pos (keywordEach [] X.env)).all (·.1.isSome))) && decide (([Expr.List es p3].length + ([] : List Keyword).length + if ([] : List Keyword).isEmpty = true then 0 else 1) < 30)) = true := by rfl)
    (h2 : (apos.endLine == pos.line) = true := by rfl) (h3 : starEach [.List es p3] X.env = (false, eval (.List es p3) X.env) :: starEach [] X.env := by rfl) :
    VE cm X W (.Call (.Attribute o "extend" apos) [.List es p3] [] pos) (tBM K "list" rExtend to (tCons (tLst t) tNil)) (fExt i gl gp g) := by
  subst hK
  refine ⟨pe_bm PySem.F.plainAttrs_list PySem.F.slot_list_extend PySem.F.type_list_extend mt_extend hf.pe (pa_cons (pe_lst h.pe) pa_nil h3) h0 h1 h2 h3 rfl, fun ρ c σ H Q r q => ?_⟩
  unfold fExt at q
  cases e1 : gl ρ with
  | none => rw [e1] at q; exact q.elim
  | some ys =>
    rw [e1] at q
    cases e2 : g ρ with
    | none => rw [e2] at q; exact q.elim
    | some xs =>
      rw [e2] at q
      dsimp only at q
      by_cases hz : ys.length + xs.length ≤ SLine
      case neg => rw [if_neg hz] at q; exact q.elim
      rw [if_pos hz] at q
      obtain ⟨p, d, u, b, us, hi, hs, hu, hc, hb, dl, tq, cl⟩ := hf.sem ρ c σ H ys r e1
      refine tq _ ⟨.inl ⟨rfl, us, SqL.of hb⟩, ?_⟩
      refine h.sem ρ c σ H _ xs r e2 fun c1 H1 vs ex dvs => ⟨sline_str (by have := dvs.length; omega), fun p hp => ?_⟩
      have ex1 : Ext c1 (cset c1 p (X.N.length + 1)) H1 (upd H1 p (.lst vs)) := Ext.alloc hp
      have ex2 := ex.trans ex1
      cases e3 : gp ρ (ys ++ xs) with
      | none => rw [e3] at q; exact q.elim
      | some d' =>
        rw [e3] at q
        have hl := dl.length
        have hl2 := dvs.length
        obtain ⟨xc, xh⟩ := ex2 b _ hb
        refine ⟨b, p, us, vs, rfl, rfl, xh, upd_same, sline_str (by omega), ?_⟩
        have rn := cl _ _ ex2 (ys ++ xs) (us ++ vs) d' e3 ((DenL.mono ex2.gz _ _ dl).append (DenL.mono ex1.gz _ _ dvs))
        exact rec_end (h := .val .non) (v := .non) ⟨ex2.stp, fun _ _ h => h⟩ (r.ext ex2) hi hs hu (xc.trans hc) xh rn q rfl
theorem ve_fpop {o : Expr} {to : TE} {apos pos : Pos} (hf : VF cm X o to i gl gp) (hK : X.K = K := by rfl) (h0 : attributeBase o "pop" X.env (eval o X.env) = eval o X.env := by rfl) (h2 : (apos.endLine == pos.line) = true := by rfl) :
    VE cm X W (.Call (.Attribute o "pop" apos) [] [] pos) (tBM0 K "list" rPop to) (fPop i gl gp) := by
  subst hK
  refine ⟨pe_bm0 PySem.F.plainAttrs_list PySem.F.slot_list_pop PySem.F.type_list_pop mt_pop hf.pe h0 h2, fun ρ c σ H Q r q => ?_⟩
  unfold fPop at q
  cases e1 : gl ρ with
  | none => rw [e1] at q; exact q.elim
  | some ys =>
    rw [e1] at q
    dsimp only at q
    obtain ⟨p, d, u, b, us, hi, hs, hu, hc, hb, dl, tq, cl⟩ := hf.sem ρ c σ H ys r e1
    refine tq _ ⟨.inl ⟨rfl, us, SqL.of hb⟩, ?_⟩
    cases e2 : ys.getLast? with
    | none => rw [e2] at q; exact q.elim
    | some x =>
      rw [e2] at q
      cases e3 : gp ρ ys.dropLast with
      | none => rw [e3] at q; exact q.elim
      | some d' =>
        rw [e3] at q
        have hl := dl.length
        rw [List.getLast?_eq_getElem?] at e2
        obtain ⟨v, hv, dv⟩ := dl.get e2
        refine ⟨b, us, v, rfl, rfl, hb, by rw [← hl]; exact hv, ?_⟩
        have rn := cl c H Ext.refl ys.dropLast us.dropLast d' e3 dl.last
        exact rec_end (h := .val x) (v := v) Stq.refl r hi hs hu hc hb rn q (Den.mono (gz_write (by omega)) _ _ dv)
theorem sem_fnil {o : Expr} {to : TE} {r : R2} {g : D → D → Option Hd} (hf : VF cm X o to i gl gp) (hs : OpS cm X.K X.N.length r g) : Sem cm X.K X.N.length W (HdOk cm X.K X.N.length) (tOp r to (tLst tNil)) (fNil gl g) := fun ρ c σ H Q rp q => by
  unfold fNil at q
  cases e1 : gl ρ with
  | none => rw [e1] at q; exact q.elim
  | some ys =>
    rw [e1] at q
    dsimp only at q
    obtain ⟨p, d, u, b, us, hi, _, hu, hc, hb, dl, tq, cl⟩ := hf.sem ρ c σ H ys rp e1
    refine tq _ ⟨by rw [show ([] : List V).length = 0 from rfl]; omega, fun p hp => ?_⟩
    have ex1 : Ext c (cset c p 0) H (upd H p (.lst [])) := Ext.alloc hp
    cases e3 : g (.lst ys) (.lst []) with
    | none => rw [e3] at q; exact q.elim
    | some h =>
      rw [e3] at q
      refine hs (cset c p 0) (upd H p (.lst [])) (.lst ys) (.lst []) _ _ h Q ⟨b, us, rfl, (ex1 b _ hb).2, DenL.mono ex1.gz _ _ dl⟩ ⟨p, [], rfl, upd_same, rfl⟩ e3 fun c' H' v ex hv => ?_
      exact q c' H' v ⟨(ex1.trans ex).stp, fun _ _ h => h⟩ (rp.ext (ex1.trans ex)) (hv.hd ex1.stp)
theorem vt_fnil {o : Expr} {to : TE} {op : CmpOp} {r : R2} {g : D → D → Option Hd} {p3 pos : Pos} (hs : OpS cm K X.N.length r g) (ho : OpR X (compareOp op) r) (hm : behindInMarks op (.List [] p3) = false) (hf : VF cm X o to i gl gp) (hK : X.K = K := by rfl) :
    VT cm X W (.Compare o [op] [.List [] p3] pos) (tTest (tOp r to (tLst tNil))) (eTest (fNil gl g)) := by
  subst hK
  exact ⟨pt_cmpR ho hf.pe (pe_lst pa_nil) hm, sem_test (sem_fnil hf hs)⟩
theorem ve_fnil {o : Expr} {to : TE} {op : CmpOp} {r : R2} {g : D → D → Option Hd} {p3 pos : Pos} (hs : OpS cm K X.N.length r g) (ho : OpR X (compareOp op) r) (hm : behindInMarks op (.List [] p3) = false) (hf : VF cm X o to i gl gp) (hK : X.K = K := by rfl) :
    VE cm X W (.Compare o [op] [.List [] p3] pos) (tOp r to (tLst tNil)) (fNil gl g) := by
  subst hK
  exact ⟨pe_cmpR ho hf.pe (pe_lst pa_nil) hm, sem_fnil hf hs⟩
end
end Vi

/-! ## ViRec4 -/
set_option Elab.async false
set_option linter.all false
set_option maxRecDepth 100000
set_option maxHeartbeats 800000
namespace Vi
open PySem L2

/-! ### defs and methods that change the records they are handed -/
inductive OutR where
  | ret (d : D) (ds : List D) | exc (k : Nat) (ds : List D) | bad
/-- what may be read of arguments: all but the records' own colours -/
def Gp (pcs : List (Option Nat)) (c : Col) (H : Hp) : Hp := fun a => if some (c a) ∈ pcs then none else H a
theorem Gp.of {pcs : List (Option Nat)} {c : Col} {H : Hp} {a : Addr} {o : HO} (h0 : some (c a) ∉ pcs) (h : H a = some o) : Gp pcs c H a = some o := by
  unfold Gp; rw [if_neg h0]; exact h
theorem Gp.to {pcs : List (Option Nat)} {c : Col} {H : Hp} {a : Addr} {o : HO} (h : Gp pcs c H a = some o) : some (c a) ∉ pcs ∧ H a = some o := by
  unfold Gp at h
  by_cases q : some (c a) ∈ pcs
  · rw [if_pos q] at h; cases h
  · rw [if_neg q] at h; exact ⟨q, h⟩
section
variable (cm : Nat → Addr) (K : PySem.W.Frag)
/-- an argument: pc the record's colour, if it is one -/
def ArgR (pcs : List (Option Nat)) (c : Col) (H : Hp) (pc : Option Nat) (d : D) (v : V) : Prop := match pc with
  | none => DenX cm K (Gp pcs c H) (Gz c H) d v
  | some p => RecC cm K (Gz c H) H (fun b => c b = p) v d
structure AsR (pcs : List (Option Nat)) (c : Col) (H : Hp) (ds : List D) (vs : List V) : Prop where
  ld : ds.length = pcs.length
  lv : vs.length = pcs.length
  ok : ∀ (i : Nat) (pc : Option Nat) (d : D) (v : V), pcs[i]? = some pc → ds[i]? = some d → vs[i]? = some v → ArgR cm K pcs c H pc d v
/-- behind the call: the records -/
def AsQ (pcs : List (Option Nat)) (c : Col) (H : Hp) (ds : List D) (vs : List V) : Prop :=
  ∀ (i : Nat) (p : Nat) (v : V), pcs[i]? = some (some p) → vs[i]? = some v → ∃ d, ds[i]? = some d ∧ RecC cm K (Gz c H) H (fun b => c b = p) v d
structure PcOk (mask : List Bool) (pcs : List (Option Nat)) : Prop where
  msk : pcs.map (·.isSome) = mask
  nz : ∀ (i p : Nat), pcs[i]? = some (some p) → p ≠ 0
  one : ∀ (i j p : Nat), pcs[i]? = some (some p) → pcs[j]? = some (some p) → i = j
def spR (mask : List Bool) (φ : List D → OutR) : Sp := fun vs H Q E => ∃ c ds pcs, PcOk mask pcs ∧ AsR cm K pcs c H ds vs ∧ (match φ ds with
  | .ret d ds' => ∀ c' H' v, ExtS (fun p => some p ∈ pcs) c c' H H' → Den cm K (Gz c' H') d v → AsQ cm K pcs c' H' ds' vs → Q v H'
  | .exc k ds' => ∀ c' H', ExtS (fun p => some p ∈ pcs) c c' H H' → AsQ cm K pcs c' H' ds' vs → E (.ref (cm k)) none H'
  | .bad => False)
end
/-- the place of a colour -/
def pidx (x : Nat) : List (Option Nat) → Option Nat
  | [] => none
  | p :: r => if p = some x then some 0 else (pidx x r).map (· + 1)
theorem pidx_some {x : Nat} : ∀ {pcs : List (Option Nat)} {i : Nat}, pidx x pcs = some i → pcs[i]? = some (some x)
  | [], i, h => by cases h
  | p :: r, i, h => by
    unfold pidx at h
    by_cases q : p = some x
    · rw [if_pos q] at h; cases h; simp [q]
    · rw [if_neg q] at h
      cases e : pidx x r with
      | none => rw [e] at h; cases h
      | some j => rw [e] at h; cases h; simpa using pidx_some e
theorem pidx_none {x : Nat} : ∀ {pcs : List (Option Nat)}, pidx x pcs = none → some x ∉ pcs
  | [], h => by simp
  | p :: r, h => by
    unfold pidx at h
    by_cases q : p = some x
    · rw [if_pos q] at h; cases h
    · rw [if_neg q] at h
      have := pidx_none (pcs := r) (x := x) (by simpa using h)
      simp only [List.mem_cons, not_or]
      exact ⟨fun z => q z.symm, this⟩
/-- the colours at entry -/
def colR (n : Nat) (pcs : List (Option Nat)) (c : Col) : Col := fun a => if c a = 0 then 0 else match pidx (c a) pcs with
  | some i => i + 1
  | none => n + 9
section
variable {cm : Nat → Addr} {K : PySem.W.Frag} {n : Nat} {c : Col} {H : Hp} {mask : List Bool} {pcs : List (Option Nat)}
theorem colR_zero {a : Addr} (h : c a = 0) : colR n pcs c a = 0 := by unfold colR; rw [if_pos h]
theorem colR_at (k : PcOk mask pcs) {a : Addr} {i p : Nat} (h : pcs[i]? = some (some p)) (e : c a = p) : colR n pcs c a = i + 1 := by
  unfold colR
  rw [if_neg (by rw [e]; exact k.nz i p h)]
  cases q : pidx (c a) pcs with
  | none => exact absurd (List.mem_of_getElem? h) (by rw [← e]; exact pidx_none q)
  | some j =>
    have z := pidx_some q
    rw [e] at z
    rw [k.one i j p h z]
theorem colR_out {a : Addr} (h : some (c a) ∉ pcs) (h0 : c a ≠ 0) : colR n pcs c a = n + 9 := by
  unfold colR
  rw [if_neg h0]
  cases q : pidx (c a) pcs with
  | none => rfl
  | some j => exact absurd (List.mem_of_getElem? (pidx_some q)) h
theorem colR_inv (k : PcOk mask pcs) (hl : pcs.length ≤ n) {a : Addr} {i : Nat} (hi : i < n) (h : colR n pcs c a = i + 1) : pcs[i]? = some (some (c a)) := by
  unfold colR at h
  by_cases q : c a = 0
  · rw [if_pos q] at h; omega
  · rw [if_neg q] at h
    cases e : pidx (c a) pcs with
    | none => rw [e] at h; have h : n + 9 = i + 1 := h; omega
    | some j => rw [e] at h; have h : j + 1 = i + 1 := h; rw [show i = j by omega]; exact pidx_some e
theorem gz_colR (hl : pcs.length ≤ n) : Gz (colR n pcs c) H = Gz c H := by
  funext a
  unfold Gz
  by_cases h : c a = 0
  · rw [if_pos h, if_pos (colR_zero h)]
  · rw [if_neg h, if_neg]
    unfold colR
    rw [if_neg h]
    cases pidx (c a) pcs with
    | none => show ¬ n + 9 = 0; omega
    | some j => show ¬ j + 1 = 0; omega
def pstart : List Bool → List D → List S
  | m :: ms, d :: ds => (if m = true then .rc true d else paramS d) :: pstart ms ds
  | _, _ => []
theorem pstart_get : ∀ {ms : List Bool} {ds : List D} {i : Nat} {s : S}, (pstart ms ds)[i]? = some s → ∃ m d, ms[i]? = some m ∧ ds[i]? = some d ∧ s = if m = true then .rc true d else paramS d
  | [], _, i, s, h => by simp [pstart] at h
  | m :: ms, [], i, s, h => by simp [pstart] at h
  | m :: ms, d :: ds, 0, s, h => ⟨m, d, rfl, rfl, by simpa [pstart] using h.symm⟩
  | m :: ms, d :: ds, i + 1, s, h => by
    obtain ⟨m', d', h1, h2, h3⟩ := pstart_get (ms := ms) (ds := ds) (i := i) (by simpa [pstart] using h)
    exact ⟨m', d', by simpa using h1, by simpa using h2, h3⟩
theorem pstart_len : ∀ {ms : List Bool} {ds : List D}, ms.length = ds.length → (pstart ms ds).length = ds.length
  | [], [], _ => rfl
  | [], d :: ds, h => by cases h
  | m :: ms, [], h => by cases h
  | m :: ms, d :: ds, h => by simp [pstart, pstart_len (ms := ms) (ds := ds) (by simpa using h)]
def startR (n : Nat) (mask : List Bool) (ds : List D) : List S := pstart mask ds ++ List.replicate (n - ds.length) .un
theorem rep_startR {N : List Str} {ds : List D} {vs : List V} (k : PcOk mask pcs) (hl : ds.length ≤ N.length) (h : AsR cm K pcs c H ds vs) : Rep cm K N.length (colR N.length pcs c) H (startR N.length mask ds) (L2.start N vs) := by
  have lm : mask.length = ds.length := by rw [← k.msk, List.length_map, h.ld]
  have l2 : ds.length = vs.length := h.ld.trans h.lv.symm
  have hpn : pcs.length ≤ N.length := by rw [← h.ld]; exact hl
  refine ⟨by unfold startR; rw [List.length_append, pstart_len lm, List.length_replicate]; omega, by unfold L2.start; rw [List.length_append, List.length_map, List.length_replicate]; omega, fun i s e => ?_⟩
  unfold startR at e
  unfold L2.start
  by_cases hi : i < ds.length
  · rw [List.getElem?_append_left (by rw [pstart_len lm]; exact hi)] at e
    obtain ⟨m, d, e1, e2, e3⟩ := pstart_get e
    obtain ⟨v, hv⟩ : ∃ v, vs[i]? = some v := ⟨vs[i]'(by omega), List.getElem?_eq_getElem (by omega)⟩
    rw [List.getElem?_append_left (by rw [List.length_map]; omega), List.getElem?_map, hv]
    refine ⟨some v, rfl, ?_⟩
    obtain ⟨pc, hpc⟩ : ∃ pc, pcs[i]? = some pc := ⟨pcs[i]'(by rw [← h.ld]; exact hi), List.getElem?_eq_getElem (by rw [← h.ld]; exact hi)⟩
    have hm : m = pc.isSome := by
      rw [← k.msk, List.getElem?_map, hpc] at e1
      exact (Option.some.inj e1).symm
    have a := h.ok i pc d v hpc e2 hv
    cases pc with
    | some p =>
      rw [hm] at e3
      have e3 : s = .rc true d := e3
      subst e3
      refine ⟨v, rfl, ?_⟩
      rw [gz_colR hpn]
      exact (show RecC cm K (Gz c H) H (fun b => c b = p) v d from a).mono (fun _ _ h => h) fun b o q z => ⟨colR_at k hpc q, z⟩
    | none =>
      rw [hm] at e3
      have e3 : s = paramS d := e3
      subst e3
      have a : DenX cm K (Gp pcs c H) (Gz c H) d v := a
      have gb : ∀ b o, Gp pcs c H b = some o → Gb N.length (colR N.length pcs c) H b = some o := fun b o q => by
        obtain ⟨q1, q2⟩ := Gp.to q
        refine Gb.of ?_ q2
        by_cases z : c b = 0
        · exact .inl (colR_zero z)
        · exact .inr (by rw [colR_out q1 z]; omega)
      have gen : ∀ d, DenX cm K (Gp pcs c H) (Gz c H) d v → (∀ xs, d ≠ .lst xs) → (∀ ks xs, d ≠ .dic ks xs) → RepS cm K N.length (colR N.length pcs c) H i (some v) (.fr d) := fun d h h1 h2 => ⟨v, rfl, by
        rw [gz_colR hpn]
        cases d with
        | lst xs => exact absurd rfl (h1 xs)
        | dic ks xs => exact absurd rfl (h2 ks xs)
        | _ => exact h⟩
      cases d with
      | lst xs => exact ⟨v, rfl, a.mono gb (by rw [gz_colR hpn]; exact fun _ _ h => h)⟩
      | dic ks xs => exact ⟨v, rfl, a.mono gb (by rw [gz_colR hpn]; exact fun _ _ h => h)⟩
      | _ => exact gen _ a (fun _ z => D.noConfusion z) (fun _ _ z => D.noConfusion z)
  · rw [List.getElem?_append_right (by rw [pstart_len lm]; omega), List.getElem?_replicate] at e
    by_cases hj : i - (pstart mask ds).length < N.length - ds.length
    · rw [if_pos hj] at e
      cases e
      rw [pstart_len lm] at hj
      refine ⟨none, ?_, trivial⟩
      rw [List.getElem?_append_right (by rw [List.length_map]; omega), List.getElem?_replicate, List.length_map, if_pos (by omega)]
    · rw [if_neg hj] at e; cases e
/-! back in the caller's colours -/
def mapc (pcs : List (Option Nat)) (q : Nat) : Nat := match q with
  | 0 => 0
  | i + 1 => match pcs[i]? with | some (some p) => p | _ => 0
open Classical in
noncomputable def colS (pcs : List (Option Nat)) (H : Hp) (c c' : Col) : Col := fun a => if (∃ o, H a = some o) ∧ some (c a) ∉ pcs then c a else mapc pcs (c' a)
theorem colS_old {c' : Col} {a : Addr} {o : HO} (h : H a = some o) (h2 : some (c a) ∉ pcs) : colS pcs H c c' a = c a := by unfold colS; rw [if_pos ⟨⟨o, h⟩, h2⟩]
theorem colS_new {c' : Col} {a : Addr} (h : H a = none ∨ some (c a) ∈ pcs) : colS pcs H c c' a = mapc pcs (c' a) := by
  unfold colS
  rw [if_neg]
  rintro ⟨⟨o, h1⟩, h2⟩
  rcases h with h | h
  · rw [h] at h1; cases h1
  · exact h2 h
theorem back_extS {c' : Col} {H' : Hp} (s : Stp n (colR n pcs c) c' H H') : ExtS (fun p => some p ∈ pcs) c (colS pcs H c c') H H' := fun a o h => by
  obtain ⟨q1, q2, q3⟩ := s a o h
  refine ⟨q1, fun z => ⟨colS_old h z, ?_⟩⟩
  by_cases w : c a = 0
  · exact (q2 (colR_zero w)).2
  · exact (q3 (by rw [colR_out z w]; omega)).2
theorem back_gzS {c' : Col} {H' : Hp} (k : PcOk mask pcs) (s : Stp n (colR n pcs c) c' H H') : ∀ a o, Gz c' H' a = some o → Gz (colS pcs H c c') H' a = some o := fun a o h => by
  obtain ⟨h1, h2⟩ := Gz.to h
  refine Gz.of ?_ h2
  by_cases w : H a = none ∨ some (c a) ∈ pcs
  · rw [colS_new w, h1]; rfl
  · simp only [not_or] at w
    obtain ⟨u, hu⟩ := Option.ne_none_iff_exists'.mp w.1
    rw [colS_old hu w.2]
    by_cases z : c a = 0
    · exact z
    · have := ((s a u hu).2.2 (by rw [colR_out w.2 z]; omega)).1
      rw [h1, colR_out w.2 z] at this
      omega
end
end Vi

/-! ## ViRec5 -/
set_option Elab.async false
set_option linter.all false
set_option maxRecDepth 100000
set_option maxHeartbeats 800000
namespace Vi
open PySem L2

def recsAt : List Bool → List S → Option (List D)
  | [], _ => some []
  | false :: m, _ :: ρ => (recsAt m ρ).map (D.non :: ·)
  | true :: m, .rc true d :: ρ => (recsAt m ρ).map (d :: ·)
  | _, _ => none
theorem recsAt_get : ∀ {mask : List Bool} {ρ : List S} {ds : List D} {i : Nat}, recsAt mask ρ = some ds → mask[i]? = some true → ∃ d, ρ[i]? = some (.rc true d) ∧ ds[i]? = some d
  | [], ρ, ds, i, h, e => by simp at e
  | m :: ms, [], ds, i, h, e => by cases m <;> cases h
  | false :: ms, s :: ρ, ds, i, h, e => by
    have h : (recsAt ms ρ).map (D.non :: ·) = some ds := h
    cases q : recsAt ms ρ with
    | none => rw [q] at h; cases h
    | some es =>
      rw [q] at h; cases h
      cases i with
      | zero => simp at e
      | succ i => simpa using recsAt_get (i := i) q (by simpa using e)
  | true :: ms, s :: ρ, ds, i, h, e => by
    cases s with
    | rc p d =>
      cases p with
      | false => cases h
      | true =>
        have h : (recsAt ms ρ).map (d :: ·) = some ds := h
        cases q : recsAt ms ρ with
        | none => rw [q] at h; cases h
        | some es =>
          rw [q] at h; cases h
          cases i with
          | zero => exact ⟨d, rfl, rfl⟩
          | succ i => simpa using recsAt_get (i := i) q (by simpa using e)
    | _ => cases h
def endRs (o : Option (List D)) (g : List D → OutR) : OutR := match o with | some ds => g ds | none => .bad
def endR (mask : List Bool) : R Fl → OutR
  | .ok .nx ρ => endRs (recsAt mask ρ) (OutR.ret .non)
  | .ok (.rr (.fr d)) ρ => endRs (recsAt mask ρ) (OutR.ret d)
  | .exc k ρ => endRs (recsAt mask ρ) (OutR.exc k)
  | _ => .bad
/-- what a def gives that changes records -/
def runR (n : Nat) (mask : List Bool) (F : M Fl) (ds : List D) : OutR := endR mask (F (startR n mask ds))

section
variable {P : Program} {w : World} {K : PySem.W.Frag} {mg : Str → Option Value} {base : Heap} {cm : Nat → Addr}
theorem fn_okR {x qual : Str} {st : Stmt} {f : Addr} {fd : FuncData} {N ps : List Str} {k : Nat} {mask : List Bool} (F' : M Fl) (F : Fun K x qual st f fd) (sc : FnScope N ps (defScope st)) (hps : ps.length ≤ N.length) (hm : mask.length = ps.length)
    (hbody : ∀ (cdv : Value) (A : Around) (outer : List Env) (s : Shared) (H : Hp) (E : XK), Room k (A.deeper (PyProof.Rows.envOfC qual (defScope st) s.heap.objs.size f cdv)) →
      ∃ t, VSs cm (cxOf (L2.CX P w) P w K mg base N qual (defScope st) f cdv A outer s H E) (WD E) (defBody st) t F') : FnOk P w K mg base (L2.CX P w) (k + 1) f fd ps (spR cm K mask (runR N.length mask F')) := by
  refine F.okX sc (fun vs H Q E h => ?_) (fun cdv A outer s H vs Q E hr h => ?_)
  · obtain ⟨c, ds, pcs, pk, as, _⟩ := h
    rw [as.lv, ← hm, ← pk.msk, List.length_map]
  · obtain ⟨c, ds, pcs, pk, as, q⟩ := h
    obtain ⟨t, ht⟩ := hbody cdv A outer s H E hr
    have lp : pcs.length = ps.length := by rw [← hm, ← pk.msk, List.length_map]
    have hlN : ds.length ≤ N.length := by rw [as.ld, lp]; exact hps
    have hpn : pcs.length ≤ N.length := by rw [lp]; exact hps
    refine ⟨t, ht.pe, ht.sem _ _ _ _ _ (rep_startR pk hlN as) ?_⟩
    show QS cm K N.length (WD E) _ (startR N.length mask ds) (L2.start N vs) (colR N.length pcs c) H (F' (startR N.length mask ds))
    -- the records behind the body
    have key : ∀ (ρ' : List S) (c' : Col) (σ' : St) (H' : Hp) (ds' : List D), recsAt mask ρ' = some ds' → Stp N.length (colR N.length pcs c) c' H H' → Kp (startR N.length mask ds) ρ' (L2.start N vs) σ' → Rep cm K N.length c' H' ρ' σ' → AsQ cm K pcs (colS pcs H c c') H' ds' vs := by
      intro ρ' c' σ' H' ds' er st kp r i p v hp hv
      have hmi : mask[i]? = some true := by rw [← pk.msk, List.getElem?_map, hp]; rfl
      obtain ⟨d, e1, e2⟩ := recsAt_get er hmi
      refine ⟨d, e2, ?_⟩
      have hi : i < pcs.length := (List.getElem?_eq_some_iff.mp hp).1
      have eσ := (kp i none (tgO_rc.mpr ⟨d, e1⟩)).2
      have es : (L2.start N vs)[i]? = some (some v) := by
        unfold L2.start
        rw [List.getElem?_append_left (by rw [List.length_map, as.lv]; exact hi), List.getElem?_map, hv]; rfl
      obtain ⟨v', g1, u, g2, g3⟩ := r.at_ i _ e1
      rw [eσ, es] at g1
      cases g1
      cases g2
      refine g3.mono (back_gzS pk st) fun b o q z => ⟨?_, z⟩
      have q : c' b = i + 1 := q
      by_cases w : H b = none ∨ some (c b) ∈ pcs
      · rw [colS_new w, q]
        show (match pcs[i]? with | some (some p) => p | _ => 0) = p
        rw [hp]
      · simp only [not_or] at w
        obtain ⟨o2, ho⟩ := Option.ne_none_iff_exists'.mp w.1
        obtain ⟨_, z2, z3⟩ := st b o2 ho
        by_cases y : c b = 0
        · have := (z2 (colR_zero y)).1; omega
        · have := (z3 (by rw [colR_out w.2 y]; omega)).1
          rw [colR_out w.2 y] at this; omega
    unfold runR at q
    cases e : F' (startR N.length mask ds) with
    | bad => rw [e] at q; exact q.elim
    | exc k ρ' =>
      rw [e] at q
      cases er : recsAt mask ρ' with
      | none => simp only [endR, endRs, er] at q
      | some ds' =>
        simp only [endR, endRs, er] at q
        exact fun c' σ' H' s kp r => q _ H' (back_extS s) (key ρ' c' σ' H' ds' er s kp r)
    | ok y ρ' =>
      rw [e] at q
      cases y with
      | bk => exact q.elim
      | ct => exact q.elim
      | rt z => exact q.elim
      | nx =>
        cases er : recsAt mask ρ' with
        | none => simp only [endR, endRs, er] at q
        | some ds' =>
          simp only [endR, endRs, er] at q
          exact fun c' σ' H' s kp r => q _ H' .non (back_extS s) rfl (key ρ' c' σ' H' ds' er s kp r)
      | rr z =>
        cases z with
        | fr d =>
          cases er : recsAt mask ρ' with
          | none => simp only [endR, endRs, er] at q
          | some ds' =>
            simp only [endR, endRs, er] at q
            exact fun c' σ' H' v s kp r rt => q _ H' v (back_extS s) (Den.mono (back_gzS pk s) _ _ rt) (key ρ' c' σ' H' ds' er s kp r)
        | _ => exact q.elim
structure FnR (P : Program) (w : World) (K : PySem.W.Frag) (mg : Str → Option Value) (base : Heap) (cm : Nat → Addr) (j : Nat) (x : Str) (mask : List Bool) (φ : List D → OutR) : Prop where
  ex : ∃ f fd ps, FnOk P w K mg base (L2.CX P w) j f fd ps (spR cm K mask φ) ∧ mg x = some (.ref f) ∧ PySem.W.keepIn K (.ref f) = true ∧ Binds K fd ps []
structure MthR (P : Program) (w : World) (K : PySem.W.Frag) (mg : Str → Option Value) (base : Heap) (cm : Nat → Addr) (j k : Nat) (m : Str) (mask : List Bool) (φ : List D → OutR) : Prop where
  ex : ∃ f fd ps, Cls K (cm k) ∧ Meth K (cm k) m f ∧ FnOk P w K mg base (L2.CX P w) j f fd ps (spR cm K mask φ) ∧ Binds K fd ps []
structure KlsR (P : Program) (w : World) (K : PySem.W.Frag) (mg : Str → Option Value) (base : Heap) (cm : Nat → Addr) (j k : Nat) (x : Str) (mask : List Bool) (φ : List D → OutR) : Prop where
  ex : ∃ f fd ps, Mk K (cm k) f ∧ FnOk P w K mg base (L2.CX P w) j f fd ps (spR cm K mask φ) ∧ mg x = some (.ref (cm k)) ∧ Binds K fd ps []
end

/-! ### calls -/
def jsOf : List Bool → List Hd → Option (List (Option Nat))
  | [], [] => some []
  | true :: m, .slot j :: hs => (jsOf m hs).map (some j :: ·)
  | false :: m, _ :: hs => (jsOf m hs).map (none :: ·)
  | _, _ => none
def argsD : List (Option Nat) → List Hd → M (List D)
  | [], [] => pure []
  | some j :: js, _ :: hs => getRc j >>= fun d => argsD js hs >>= fun ds => pure (d :: ds)
  | none :: js, h :: hs => rd h >>= fun d => argsD js hs >>= fun ds => pure (d :: ds)
  | _, _ => M.bad
def distJ : List (Option Nat) → Bool
  | [] => true
  | some j :: js => !js.contains (some j) && distJ js
  | none :: js => distJ js
def setJs : List (Option Nat) → List D → List S → List S
  | some j :: js, d :: ds, ρ => setJs js ds (rcSet j d ρ)
  | none :: js, _ :: ds, ρ => setJs js ds ρ
  | _, _, ρ => ρ
def outR (js : List (Option Nat)) (o : OutR) : M Hd := fun ρ => match o with
  | .ret d ds' => .ok (.val d) (setJs js ds' ρ)
  | .exc k ds' => .exc k (setJs js ds' ρ)
  | .bad => .bad
def callR (mask : List Bool) (φ : List D → OutR) (hs : List Hd) : M Hd := M.lift (jsOf mask hs) >>= fun js => guardM (distJ js) (argsD js hs >>= fun ds => outR js (φ ds))
def eCallR (mask : List Bool) (φ : List D → OutR) (f : M (List Hd)) : M Hd := f >>= fun hs => callR mask φ hs
section
variable {cm : Nat → Addr} {K : PySem.W.Frag} {n : Nat} {W : WX} {c c' c₀ : Col} {H H' H₀ : Hp} {σ : St} {ρ ρ' : List S}
theorem distJ_one : ∀ {js : List (Option Nat)} {i j x : Nat}, distJ js = true → js[i]? = some (some x) → js[j]? = some (some x) → i = j
  | [], i, j, x, h, e1, e2 => by simp at e1
  | o :: js, i, j, x, h, e1, e2 => by
    have ht : distJ js = true := by
      cases o with
      | none => exact h
      | some y => exact (Bool.and_eq_true _ _ ▸ h).2
    have hh : ∀ y, o = some y → some y ∉ js := fun y e => by
      subst e
      have := (Bool.and_eq_true _ _ ▸ h).1
      simpa using this
    cases i with
    | zero =>
      have e1 : o = some x := by simpa using e1
      cases j with
      | zero => rfl
      | succ j => exact absurd (List.mem_of_getElem? (by simpa using e2)) (hh x e1)
    | succ i =>
      cases j with
      | zero =>
        have e2 : o = some x := by simpa using e2
        exact absurd (List.mem_of_getElem? (by simpa using e1)) (hh x e2)
      | succ j => rw [distJ_one (i := i) (j := j) ht (by simpa using e1) (by simpa using e2)]
theorem setJs_len : ∀ {js : List (Option Nat)} {ds : List D} {ρ : List S}, (setJs js ds ρ).length = ρ.length
  | [], _, ρ => by simp [setJs]
  | some j :: js, [], ρ => rfl
  | none :: js, [], ρ => rfl
  | some j :: js, d :: ds, ρ => by
    show (setJs js ds (rcSet j d ρ)).length = _
    rw [setJs_len]
    unfold rcSet
    cases at_ ρ j <;> simp
  | none :: js, d :: ds, ρ => setJs_len (js := js) (ds := ds) (ρ := ρ)
theorem setJs_out {k : Nat} : ∀ {js : List (Option Nat)} {ds : List D} {ρ : List S}, some k ∉ js → (setJs js ds ρ)[k]? = ρ[k]?
  | [], _, ρ, _ => by simp [setJs]
  | some j :: js, [], ρ, _ => rfl
  | none :: js, [], ρ, _ => rfl
  | some j :: js, d :: ds, ρ, h => by
    simp only [List.mem_cons, not_or] at h
    show (setJs js ds (rcSet j d ρ))[k]? = _
    rw [setJs_out h.2]
    unfold rcSet
    cases at_ ρ j with
    | rc p d0 => exact List.getElem?_set_ne (fun z => h.1 (by rw [z]))
    | _ => rfl
  | none :: js, d :: ds, ρ, h => setJs_out (js := js) (ds := ds) (ρ := ρ) (by simp only [List.mem_cons, not_or] at h; exact h.2)
theorem setJs_at {k : Nat} {p : Bool} {d : D} : ∀ {js : List (Option Nat)} {ds : List D} {ρ : List S} {i : Nat} {d0 : D}, distJ js = true → js[i]? = some (some k) → ds[i]? = some d → ρ[k]? = some (.rc p d0) → (setJs js ds ρ)[k]? = some (.rc p d)
  | [], _, ρ, i, d0, _, h, _, _ => by simp at h
  | o :: js, [], ρ, i, d0, _, _, h, _ => by simp at h
  | some j :: js, e :: ds, ρ, 0, d0, hd, h1, h2, h3 => by
    have h1 : j = k := by simpa using h1
    have h2 : e = d := by simpa using h2
    subst h1 h2
    have := (Bool.and_eq_true _ _ ▸ (show (!js.contains (some j) && distJ js) = true from hd)).1
    show (setJs js ds (rcSet j e ρ))[j]? = _
    rw [setJs_out (by simpa using this), rcSet_of h3, List.getElem?_set_self (List.getElem?_eq_some_iff.mp h3).1]
  | some j :: js, e :: ds, ρ, i + 1, d0, hd, h1, h2, h3 => by
    have hd := (Bool.and_eq_true _ _ ▸ (show (!js.contains (some j) && distJ js) = true from hd))
    have ne : j ≠ k := fun z => by
      have := hd.1
      rw [z] at this
      exact absurd (List.mem_of_getElem? (show js[i]? = some (some k) by simpa using h1)) (by simpa using this)
    show (setJs js ds (rcSet j e ρ))[k]? = _
    refine setJs_at (i := i) (d0 := d0) hd.2 (by simpa using h1) (by simpa using h2) ?_
    unfold rcSet
    cases at_ ρ j with
    | rc p' d' => show (ρ.set j _)[k]? = _; rw [List.getElem?_set_ne ne]; exact h3
    | _ => exact h3
  | none :: js, e :: ds, ρ, 0, d0, hd, h1, h2, h3 => by simp at h1
  | none :: js, e :: ds, ρ, i + 1, d0, hd, h1, h2, h3 => setJs_at (js := js) (ds := ds) (ρ := ρ) (i := i) (d0 := d0) hd (by simpa using h1) (by simpa using h2) h3
theorem tgO_setJs {k : Nat} : ∀ {js : List (Option Nat)} {ds : List D} {ρ : List S}, tgO (setJs js ds ρ) k = tgO ρ k
  | [], _, ρ => by simp [setJs]
  | some j :: js, [], ρ => rfl
  | none :: js, [], ρ => rfl
  | some j :: js, d :: ds, ρ => by
    show tgO (setJs js ds (rcSet j d ρ)) k = _
    rw [tgO_setJs, tgO_rcSet]
  | none :: js, d :: ds, ρ => tgO_setJs (js := js) (ds := ds) (ρ := ρ)
def pcsOf (js : List (Option Nat)) : List (Option Nat) := js.map (Option.map (· + 1))
theorem pcsOf_get {js : List (Option Nat)} {i p : Nat} (h : (pcsOf js)[i]? = some (some p)) : ∃ j, p = j + 1 ∧ js[i]? = some (some j) := by
  unfold pcsOf at h
  rw [List.getElem?_map] at h
  cases q : js[i]? with
  | none => rw [q] at h; cases h
  | some o =>
    rw [q] at h
    cases o with
    | none => cases h
    | some j => exact ⟨j, by simpa using h.symm, rfl⟩
theorem pcsOf_mem {js : List (Option Nat)} {p : Nat} (h : some p ∈ pcsOf js) : ∃ j, p = j + 1 ∧ some j ∈ js := by
  obtain ⟨i, hi⟩ := List.mem_iff_getElem?.mp h
  obtain ⟨j, e1, e2⟩ := pcsOf_get hi
  exact ⟨j, e1, List.mem_of_getElem? e2⟩
/-- one argument -/
def Arg1 (cm : Nat → Addr) (K : PySem.W.Frag) (n : Nat) (H₀ : Hp) (c : Col) (H : Hp) (σ : St) (ρ : List S) (jo : Option Nat) (d : D) (v : V) : Prop := match jo with
  | some j => (∃ p, ρ[j]? = some (.rc p d)) ∧ σ[j]? = some (some v)
  | none => ∃ h, HdOk cm K n H₀ c H σ h v ∧ rd h ρ = .ok d ρ
theorem argsD_ok (r : Rep cm K n c H ρ σ) : ∀ {mask : List Bool} {hs : List Hd} {vs : List V} {js : List (Option Nat)}, HsOk cm K n H₀ c H σ hs vs → jsOf mask hs = some js →
    js.map (·.isSome) = mask ∧ ((argsD js hs ρ = .bad) ∨ ∃ ds, argsD js hs ρ = .ok ds ρ ∧ ds.length = js.length ∧ vs.length = js.length ∧ ∀ (i : Nat) (jo : Option Nat) (d : D) (v : V), js[i]? = some jo → ds[i]? = some d → vs[i]? = some v → Arg1 cm K n H₀ c H σ ρ jo d v)
  | [], [], vs, js, hx, e => by cases e; cases hx; exact ⟨rfl, .inr ⟨[], rfl, rfl, rfl, fun i jo d v h => by simp at h⟩⟩
  | [], h :: hs, vs, js, hx, e => by cases e
  | m :: ms, [], vs, js, hx, e => by cases m <;> cases e
  | true :: ms, h :: hs, vs, js, ⟨v, t, ev, h1, h2⟩, e => by
    cases h with
    | slot j =>
      have e : (jsOf ms hs).map (some j :: ·) = some js := e
      cases q : jsOf ms hs with
      | none => rw [q] at e; cases e
      | some js' =>
        rw [q] at e; cases e
        subst ev
        obtain ⟨a1, a2⟩ := argsD_ok r h2 q
        refine ⟨by rw [List.map_cons, a1]; rfl, ?_⟩
        show (getRc j >>= fun d => argsD js' hs >>= fun ds => pure (d :: ds)) ρ = .bad ∨ ∃ ds, (getRc j >>= fun d => argsD js' hs >>= fun ds => pure (d :: ds)) ρ = .ok ds ρ ∧ _
        rw [M.bind_run]
        rcases getRc_ok r (i := j) with eg | ⟨p, d, u, eg, hi, hs', hu, rc⟩
        · rw [eg]; exact .inl rfl
        rw [eg]
        dsimp only
        rw [M.bind_run]
        rcases a2 with a2 | ⟨ds, b1, b2, b3, b4⟩
        · rw [a2]; exact .inl rfl
        rw [b1]
        refine .inr ⟨d :: ds, rfl, by rw [List.length_cons, List.length_cons, b2], by rw [List.length_cons, List.length_cons, b3], fun i jo d' v' e1 e2 e3 => ?_⟩
        cases i with
        | zero =>
          have e1 : some j = jo := by simpa using e1
          have e2 : d = d' := by simpa using e2
          have e3 : v = v' := by simpa using e3
          subst e1 e2 e3
          exact ⟨⟨p, hs'⟩, h1⟩
        | succ i => exact b4 i jo d' v' (by simpa using e1) (by simpa using e2) (by simpa using e3)
    | _ => cases e
  | false :: ms, h :: hs, vs, js, ⟨v, t, ev, h1, h2⟩, e => by
    have e : (jsOf ms hs).map (none :: ·) = some js := e
    cases q : jsOf ms hs with
    | none => rw [q] at e; cases e
    | some js' =>
      rw [q] at e; cases e
      subst ev
      obtain ⟨a1, a2⟩ := argsD_ok r h2 q
      refine ⟨by rw [List.map_cons, a1]; rfl, ?_⟩
      show (rd h >>= fun d => argsD js' hs >>= fun ds => pure (d :: ds)) ρ = .bad ∨ ∃ ds, (rd h >>= fun d => argsD js' hs >>= fun ds => pure (d :: ds)) ρ = .ok ds ρ ∧ _
      rw [M.bind_run]
      rcases rd_cases h ρ with ⟨d, eg⟩ | eg
      case inr => rw [eg]; exact .inl rfl
      rw [eg]
      dsimp only
      rw [M.bind_run]
      rcases a2 with a2 | ⟨ds, b1, b2, b3, b4⟩
      · rw [a2]; exact .inl rfl
      rw [b1]
      refine .inr ⟨d :: ds, rfl, by rw [List.length_cons, List.length_cons, b2], by rw [List.length_cons, List.length_cons, b3], fun i jo d' v' e1 e2 e3 => ?_⟩
      cases i with
      | zero =>
        have e1 : none = jo := by simpa using e1
        have e2 : d = d' := by simpa using e2
        have e3 : v = v' := by simpa using e3
        subst e1 e2 e3
        exact ⟨h, h1, eg⟩
      | succ i => exact b4 i jo d' v' (by simpa using e1) (by simpa using e2) (by simpa using e3)
theorem Cont.rP {pcs : List (Option Nat)} {a : Addr} {d : D} (h : Cont cm K c H a d) (q : some (c a) ∉ pcs) : DenX cm K (Gp pcs c H) (Gz c H) d (.ref a) := by
  cases d with
  | lst xs => obtain ⟨vs, h1, h2⟩ := h; exact ⟨a, vs, rfl, Gp.of q h1, h2⟩
  | dic ks xs => obtain ⟨vs, h1, h2, h3⟩ := h; exact ⟨a, vs, rfl, Gp.of q h1, h2, h3⟩
  | _ => exact h.elim
/-- what is read stands apart from the records -/
theorem rd_okP {pcs : List (Option Nat)} {h : Hd} {v : V} {d : D} (r : Rep cm K n c H ρ σ) (x : HdOk cm K n H₀ c H σ h v) (e : rd h ρ = .ok d ρ) (h1 : ∀ p, some p ∈ pcs → (p ≠ 0 ∧ p ≤ n + 8 ∧ p ≠ n + 1)) (h2 : ∀ j, some (j + 1) ∈ pcs → j < n → ∃ p d, ρ[j]? = some (.rc p d)) : DenX cm K (Gp pcs c H) (Gz c H) d v := by
  have gzp : ∀ a o, Gz c H a = some o → Gp pcs c H a = some o := fun a o q => by
    obtain ⟨z1, z2⟩ := Gz.to q
    exact Gp.of (fun z => by rw [z1] at z; exact (h1 0 z).1 rfl) z2
  cases h with
  | rc j d' => cases e
  | val d' => cases e; exact Den.x x gzp
  | new d' =>
    cases e; obtain ⟨a, e, h0, e1, e2⟩ := x; subst e
    exact e2.rP (fun z => by rw [e1] at z; exact (h1 _ z).2.2 rfl)
  | slot i =>
    have e : (at_ ρ i).rd ρ = .ok d ρ := e
    cases q : at_ ρ i with
    | un => rw [q] at e; cases e
    | rc p d' => rw [q] at e; cases e
    | tab ts => rw [q] at e; cases e
    | fr d' =>
      rw [q] at e; cases e
      obtain ⟨_, _, u, e1, e2⟩ := slot_ok r x q (fun z => nomatch z)
      cases e1; exact e2.x gzp
    | own d' =>
      rw [q] at e; cases e
      obtain ⟨hi, hs, a, e1, e2, e3⟩ := slot_ok r x q (fun z => nomatch z)
      have e2 : c a = i + 1 := e2
      cases e1; exact e3.rP (fun z => by
        rw [e2] at z
        obtain ⟨p, d2, w⟩ := h2 i z hi
        rw [hs] at w; cases w)
    | bor d' =>
      rw [q] at e; cases e
      obtain ⟨_, _, u, e1, e2⟩ := slot_ok r x q (fun z => nomatch z)
      cases e1
      exact DenX.mono (fun a o q => by
        obtain ⟨z1, z2⟩ := Gb.to q
        exact Gp.of (fun z => by have := h1 _ z; omega) z2) (fun _ _ h => h) e2
/-- the state behind a call -/
theorem rep_setJs {js : List (Option Nat)} {ds ds' : List D} {vs : List V} (r : Rep cm K n c H ρ σ) (hj : distJ js = true) (hl : vs.length = js.length) (hld : ds.length = js.length) (ar : ∀ (i : Nat) (jo : Option Nat) (d : D) (v : V), js[i]? = some jo → ds[i]? = some d → vs[i]? = some v → Arg1 cm K n H₀ c H σ ρ jo d v)
    (ex : ExtS (fun p => some p ∈ pcsOf js) c c' H H') (aq : AsQ cm K (pcsOf js) c' H' ds' vs) : Rep cm K n c' H' (setJs js ds' ρ) σ ∧ (∀ p, some p ∈ pcsOf js → 1 ≤ p ∧ p ≤ n) := by
  have slot : ∀ (i j : Nat), js[i]? = some (some j) → j < n ∧ (∃ p d, ρ[j]? = some (.rc p d)) ∧ ∃ v, vs[i]? = some v ∧ σ[j]? = some (some v) := fun i j e => by
    have hi : i < js.length := (List.getElem?_eq_some_iff.mp e).1
    have e2 : ds[i]? = some (ds[i]'(by omega)) := List.getElem?_eq_getElem (by omega)
    have e3 : vs[i]? = some (vs[i]'(by omega)) := List.getElem?_eq_getElem (by omega)
    obtain ⟨⟨p, h1⟩, h2⟩ := ar i _ _ _ e e2 e3
    exact ⟨by rw [← r.len]; exact (List.getElem?_eq_some_iff.mp h1).1, ⟨p, _, h1⟩, _, e3, h2⟩
  have cols : ∀ p, some p ∈ pcsOf js → 1 ≤ p ∧ p ≤ n := fun p hp => by
    obtain ⟨j, e1, e2⟩ := pcsOf_mem hp
    obtain ⟨i, e3⟩ := List.mem_iff_getElem?.mp e2
    have := (slot i j e3).1
    omega
  refine ⟨⟨by rw [setJs_len]; exact r.len, r.lenσ, fun k s e => ?_⟩, cols⟩
  by_cases hk : some k ∈ js
  · obtain ⟨i, e3⟩ := List.mem_iff_getElem?.mp hk
    obtain ⟨hkn, ⟨p, d, e4⟩, v, e5, e6⟩ := slot i k e3
    have hp : (pcsOf js)[i]? = some (some (k + 1)) := by unfold pcsOf; rw [List.getElem?_map, e3]; rfl
    obtain ⟨d', e7, e8⟩ := aq i (k + 1) v hp e5
    rw [setJs_at hj e3 e7 e4] at e
    cases e
    exact ⟨_, e6, v, rfl, e8⟩
  · rw [setJs_out hk] at e
    obtain ⟨v, h1, h2⟩ := r.at_ k s e
    refine ⟨v, h1, h2.keep (ex.gz (fun z => by have := cols _ z; omega)) (ex.gb (n := n) cols) fun a o hc ha => (ex a o ha).2 (fun z => ?_)⟩
    rw [hc] at z
    obtain ⟨j, e1, e2⟩ := pcsOf_mem z
    rw [show k = j by omega] at hk
    exact hk e2
theorem pcOk_of {js : List (Option Nat)} {mask : List Bool} (h : distJ js = true) (hm : js.map (·.isSome) = mask) : PcOk mask (pcsOf js) := by
  refine ⟨?_, fun i p hp => ?_, fun i j p h1 h2 => ?_⟩
  · rw [← hm]; unfold pcsOf; rw [List.map_map]; exact List.map_congr_left fun o _ => by cases o <;> rfl
  · obtain ⟨j, e, _⟩ := pcsOf_get hp; omega
  · obtain ⟨x, e1, e2⟩ := pcsOf_get h1
    obtain ⟨y, e3, e4⟩ := pcsOf_get h2
    exact distJ_one h e2 (by rw [show x = y by omega]; exact e4)
/-- the call itself: from the arguments on -/
theorem call_red {mask : List Bool} {φ : List D → OutR} {hs : List Hd} {vs : List V} {ρ₀ : List S} {E : XK} {Q : VK} {W : WX} (s0 : Stq n ρ₀ ρ c₀ c H₀ H) (r : Rep cm K n c H ρ σ) (hx : HsOk cm K n H₀ c H σ hs vs) (hE : ∀ k H, W (.ref (cm k)) none σ H → E (.ref (cm k)) none H)
    (q : QR cm K n W (HdOk cm K n) Q ρ₀ c₀ H₀ σ (callR mask φ hs ρ)) : spR cm K mask φ vs H Q E := by
  unfold callR at q
  rw [M.bind_run, lift_run] at q
  cases ej : jsOf mask hs with
  | none => rw [ej] at q; exact q.elim
  | some js =>
    rw [ej] at q
    dsimp only at q
    by_cases hd : distJ js = true
    case neg => simp only [guardM, if_neg hd] at q; exact q.elim
    simp only [guardM, if_pos hd] at q
    obtain ⟨hm, ha⟩ := argsD_ok r hx ej
    rw [M.bind_run] at q
    rcases ha with ha | ⟨ds, b1, b2, b3, b4⟩
    · rw [ha] at q; exact q.elim
    rw [b1] at q
    dsimp only at q
    have lj : (pcsOf js).length = js.length := by unfold pcsOf; rw [List.length_map]
    have slotRc : ∀ j, some (j + 1) ∈ pcsOf js → j < n ∧ ∃ p d, ρ[j]? = some (.rc p d) := fun j hp => by
      obtain ⟨j', e1, e2⟩ := pcsOf_mem hp
      obtain ⟨i, e3⟩ := List.mem_iff_getElem?.mp e2
      have hi : i < js.length := (List.getElem?_eq_some_iff.mp e3).1
      obtain ⟨⟨p, h1⟩, h2⟩ := b4 i _ _ _ e3 (List.getElem?_eq_getElem (by omega)) (List.getElem?_eq_getElem (by omega))
      rw [show j = j' by omega]
      exact ⟨by rw [← r.len]; exact (List.getElem?_eq_some_iff.mp h1).1, p, _, h1⟩
    refine ⟨c, ds, pcsOf js, pcOk_of hd hm, ⟨by rw [lj]; exact b2, by rw [lj]; exact b3, fun i pc d v e1 e2 e3 => ?_⟩, ?_⟩
    · unfold pcsOf at e1
      rw [List.getElem?_map] at e1
      cases eo : js[i]? with
      | none => rw [eo] at e1; cases e1
      | some jo =>
        rw [eo] at e1
        have a1 := b4 i jo d v eo e2 e3
        cases jo with
        | some j =>
          cases e1
          obtain ⟨⟨p, h1⟩, h2⟩ := a1
          obtain ⟨v', g1, u, g2, g3⟩ := r.at_ j _ h1
          rw [h2] at g1
          cases g1; cases g2
          exact g3
        | none =>
          cases e1
          obtain ⟨h, h1, h2⟩ := a1
          refine rd_okP r h1 h2 (fun p hp => ?_) fun j hp hj => (slotRc j hp).2
          obtain ⟨j, e5, e6⟩ := pcsOf_mem hp
          have := (slotRc j (by rw [← e5]; exact hp)).1
          omega
    · cases eo : φ ds with
      | bad => rw [eo] at q; exact q.elim
      | exc k ds' =>
        rw [eo] at q
        intro c' H' ex aq
        obtain ⟨r', cl⟩ := rep_setJs r hd b3 b2 b4 ex aq
        exact hE k H' (q c' H' ⟨s0.st.trans (ex.stp cl), fun i t h => s0.kq i t (by rw [tgO_setJs] at h; exact h)⟩ r')
      | ret d ds' =>
        rw [eo] at q
        intro c' H' v ex hv aq
        obtain ⟨r', cl⟩ := rep_setJs r hd b3 b2 b4 ex aq
        exact q c' H' v ⟨s0.st.trans (ex.stp cl), fun i t h => s0.kq i t (by rw [tgO_setJs] at h; exact h)⟩ r' hv
end
end Vi

/-! ## ViRec6 -/
set_option Elab.async false
set_option linter.all false
set_option maxRecDepth 100000
set_option maxHeartbeats 800000
namespace Vi
open PySem L2

/-! ### rules of the machine with what is let out told of the very slots -/
def tMethS (C : Addr) (m : Str) (sp : Sp) (E : St → XK) (ta : TE) (t : TA) : TE := fun σ H Q => ta σ H fun x H1 => ∃ a dx fs, x = .ref a ∧ H1 a = some (.ins C dx fs) ∧ fs.lookup m = none ∧ t σ H1 fun vs H2 => sp (x :: vs) H2 Q (E σ)
def tMakeS (C : Addr) (sp : Sp) (E : St → XK) (t : TA) : TE := fun σ H Q => t σ H fun vs H1 => ∀ x dx, H1 x = none → H1 dx = none → dx ≠ x → sp (.ref x :: vs) (upd (upd H1 dx (.own x)) x (.ins C dx [])) (fun v H2 => v = .non ∧ Q (.ref x) H2) (E σ)
section
variable {X : Cx} {CX : CXT} {k : Nat} {f C : Addr} {fd : FuncData} {ps : List Str} {sp : Sp} {E : St → XK} {x m : Str} {p pos apos : Pos} {e o : Expr} {es : List Expr} {ta : TE} {t : TA}
theorem pe_methS {pl : PySem.Sem Bool} (he : PE X o ta) (c : Cls X.K C) (hm : Meth X.K C m f) (F : FnOk X.prog X.w X.K X.mg X.base CX k f fd ps sp) (hr : Room k X.A) (hb : L2.Binds X.K fd ps []) (hx : ∀ σ, PassesAt CX X σ (E σ)) (ha : PA X (e :: es) t)
    (hst : starEach (e :: es) X.env = (false, eval e X.env) :: starEach es X.env := by rfl) (hpl : (backTo pos (starEach es X.env)).any (·.1) = false := by rfl)
    (ht : eval (.Call (.Attribute o m apos) (e :: es) [] pos) X.env = (do
      let ov ← eval o X.env
      standAt apos.atName
      let (f, first) ← holding [ov] (getMethod ov m pl)
      callWith pos f first (backTo pos (starEach (e :: es) X.env)) (backToKw pos (keywordEach [] X.env))) := by rfl) :
    PE X (.Call (.Attribute o m apos) (e :: es) [] pos) (tMethS C m sp E ta t) := by
  refine ⟨fun pins s σ H Q I h => ?_⟩
  refine PySem.W.methodCall_KW (pl := pl) (thn (he.run pins s σ H _ I h) fun u s1 ⟨x, H1, I1, rx, a, dx, fs, ex, ea, l, q⟩ => ?_) ht
  subst ex
  obtain rfl : u = Value.ref a := rx
  refine getmeth_ok I1 ea c hm l ?_
  refine PySem.W.callWith_K (first := [.ref a]) (h₀ := X.base) I.ok.mod.kin hm.kp (thn (ha.run pos pins s1 σ H1 _ I1 q) fun us s2 ⟨vs, H2, I2, r, q2⟩ => ⟨I2.kIn, ?_⟩) hst hpl
  exact run_fnS (us := .ref a :: us) (vs := .ref a :: vs) F hr hb (hx σ) I2 (.cons rfl r) q2
theorem pe_meth0S {pl : PySem.Sem Bool} (he : PE X o ta) (c : Cls X.K C) (hm : Meth X.K C m f) (F : FnOk X.prog X.w X.K X.mg X.base CX k f fd ps sp) (hr : Room k X.A) (hb : L2.Binds X.K fd ps []) (hx : ∀ σ, PassesAt CX X σ (E σ))
    (ht : eval (.Call (.Attribute o m apos) [] [] pos) X.env = (do
      let ov ← eval o X.env
      standAt apos.atName
      let (f, first) ← holding [ov] (getMethod ov m pl)
      callWith pos f first (backTo pos (starEach [] X.env)) (backToKw pos (keywordEach [] X.env))) := by rfl) :
    PE X (.Call (.Attribute o m apos) [] [] pos) (tMethS C m sp E ta tNil) := by
  refine ⟨fun pins s σ H Q I h => ?_⟩
  refine PySem.W.methodCall_KW (pl := pl) (thn (he.run pins s σ H _ I h) fun u s1 ⟨x, H1, I1, rx, a, dx, fs, ex, ea, l, q⟩ => ?_) ht
  subst ex
  obtain rfl : u = Value.ref a := rx
  refine getmeth_ok I1 ea c hm l ?_
  exact PySem.W.callWith_K0 (first := [.ref a]) I1.kIn hm.kp (run_fnS (us := [.ref a]) (vs := [.ref a]) F hr hb (hx σ) I1 (.cons rfl .nil) q)
theorem run_makeS {pins : List (Addr × Obj)} {σ : St} {H : Hp} {s : Shared} {Q : VK} {us : List Value} {vs : List V} (M : Mk X.K C f) (F : FnOk X.prog X.w X.K X.mg X.base CX k f fd ps sp) (hr : Room (k + 1) X.A) (hb : L2.Binds X.K fd ps [])
    (hx : PassesAt CX X σ (E σ)) (I : Inv X pins σ H s) (r : Vals vs us)
    (h : ∀ x dx, H x = none → H dx = none → dx ≠ x → sp (.ref x :: vs) (upd (upd H dx (.own x)) x (.ins C dx [])) (fun v H2 => v = .non ∧ Q (.ref x) H2) (E σ)) :
    wpAny (model X.prog X.w) X.A (call (.ref C) us) (EP X pins σ Q) X.xe s := by
  have hq := h (s.heap.objs.size + 1) s.heap.objs.size (I.hok.fresh (Nat.le_succ _)) (I.hok.fresh (Nat.le_refl _)) (Nat.ne_of_lt (Nat.lt_succ_self _))
  have I2 := Inv.made (C := C) I
  have r2 : Vals (V.ref (s.heap.objs.size + 1) :: vs) (Value.ref (s.heap.objs.size + 1) :: us) := .cons rfl r
  have hl : (Value.ref (s.heap.objs.size + 1) :: us ++ []).length = ps.length := by
    have e := r2.length
    rw [F.len _ _ _ _ hq] at e
    rw [List.append_nil]
    exact e.symm
  have b := hb _ (Value.ref (s.heap.objs.size + 1) :: us) I2.kIn hl
  rw [List.append_nil] at b
  refine wpAny_call (make_map (f := f) I.kIn M.makes M.init (beq_iff_eq.mp M.fn) (codeAny_mono (F.run _ X.stack _ _ ⟨Value.ref (s.heap.objs.size + 1) :: us, []⟩ (Value.ref (s.heap.objs.size + 1) :: us) _ _ (E σ) (hr.make C us [])
    (I2.env0.make C us []) b r2 hq) fun r s' hq' => ?_))
  cases r with
  | error e => exact hx pins _ _ e s' I2 hq'
  | ok fl =>
    cases fl with
    | ret u =>
      obtain ⟨v, H', I3, rv, ev, q3⟩ := I2.after hq'
      subst ev
      exact ⟨rv, ⟨V.ref (s.heap.objs.size + 1), H', I3, rfl, q3⟩⟩
    | next => exact False.elim hq'
    | brk => exact False.elim hq'
    | cont => exact False.elim hq'
theorem pe_makeS (M : Mk X.K C f) (F : FnOk X.prog X.w X.K X.mg X.base CX k f fd ps sp) (hr : Room (k + 1) X.A) (hg : Gl X x) (hm : X.mg x = some (.ref C)) (hb : L2.Binds X.K fd ps []) (hx : ∀ σ, PassesAt CX X σ (E σ))
    (ha : PA X (e :: es) t) (hdb : (x == ("__debug__" : Str)) = false := by decide) (he : starEach (e :: es) X.env = (false, eval e X.env) :: starEach es X.env := by rfl) (hpl : (backTo pos (starEach es X.env)).any (·.1) = false := by rfl) :
    PE X (.Call (.Name x p) (e :: es) [] pos) (tMakeS C sp E t) := by
  refine ⟨fun pins s σ H Q I h => ?_⟩
  refine wpAny_Call_Name_kw (ld_glob I hg hm ?_ hdb)
  refine PySem.W.callWith_K (h₀ := X.base) I.ok.mod.kin M.kp (thn (ha.run pos pins s σ H _ I h) fun us s1 ⟨vs, H1, I1, r, q⟩ => ⟨I1.kIn, ?_⟩) he hpl
  exact run_makeS M F hr hb (hx σ) I1 r q
end

/-! ### evaluators -/
def recO : Hd → List S → Option D
  | .slot j, ρ => rcOf (at_ ρ j)
  | _, _ => none
def clsO (m : Str) (k : Nat) : Option D → Bool
  | some (.obj k' ns _) => k' == k && (nIdx m ns).isNone
  | _ => false
def chkO (m : Str) (k : Nat) (h : Hd) : M Unit := fun ρ => if clsO m k (recO h ρ) = true then .ok () ρ else .bad
def eMthR (m : Str) (k : Nat) (mask : List Bool) (φ : List D → OutR) (fo : M Hd) (fa : M (List Hd)) : M Hd := fo >>= fun h0 => chkO m k h0 >>= fun _ => fa >>= fun hs => callR mask φ (h0 :: hs)
def outMk (j : Nat) (o : OutR) : M Hd := fun ρ => match o with
  | .ret .non (d :: _) => .ok (.rc j d) ρ
  | .exc k _ => .exc k ρ
  | _ => .bad
def eMkR (j k : Nat) (ar : Nat) (φ : List D → OutR) (fa : M (List Hd)) : M Hd := fa >>= fun hs => rds hs >>= fun ds => guardM (decide (j < 6 ∧ ds.length = ar)) (outMk j (φ (.obj k [] [] :: ds)))
/-- a method of an instance that no name holds -/
def tmpO : Hd → Option D | .rc _ d => some d | _ => none
def outT (o : OutR) : M Hd := fun ρ => match o with
  | .ret d _ => .ok (.val d) ρ
  | .exc k _ => .exc k ρ
  | .bad => .bad
def eMthT (m : Str) (k : Nat) (ar : Nat) (φ : List D → OutR) (fo : M Hd) (fa : M (List Hd)) : M Hd := fo >>= fun h0 => M.lift (tmpO h0) >>= fun d => guardM (clsO m k (some d)) (fa >>= fun hs => rds hs >>= fun ds => guardM (decide (ds.length = ar)) (outT (φ (d :: ds))))
section
variable {cm : Nat → Addr} {X : Cx} {W : WX} {K : PySem.W.Frag} {n : Nat}
theorem sem_callR {mask : List Bool} {φ : List D → OutR} {t : TA} {f : M (List Hd)} (h : Sem cm K n W (HsOk cm K n) t f) : Sem cm K n W (HdOk cm K n) (tCallS (spR cm K mask φ) (WE W) t) (eCallR mask φ f) := by
  refine Sem.bind (u := fun vs σ H1 Q => spR cm K mask φ vs H1 Q (WE W σ)) h ?_
  intro ρ₀ c₀ H₀ a x ρ c σ H Q s0 r0 hx q
  exact call_red s0 r0 hx (fun _ _ h => h) q
theorem ve_callR {j : Nat} {x : Str} {mask : List Bool} {φ : List D → OutR} {e : Expr} {es : List Expr} {t : TA} {f : M (List Hd)} {p pos : Pos} (F : FnR X.prog X.w K X.mg X.base cm j x mask φ) (hr : Room j X.A) (hx : ∀ σ, PassesAt (L2.CX X.prog X.w) X σ (WE W σ)) (ha : VA cm X W (e :: es) t f) (hK : X.K = K := by rfl)
    (hg : Gl X x := by rfl) (hdb : (x == ("__debug__" : Str)) = false := by decide) (he : starEach (e :: es) X.env = (false, eval e X.env) :: starEach es X.env := by rfl) (hpl : (backTo pos (starEach es X.env)).any (·.1) = false := by rfl) :
    VE cm X W (.Call (.Name x p) (e :: es) [] pos) (tCallS (spR cm K mask φ) (WE W) t) (eCallR mask φ f) := by
  subst hK
  obtain ⟨fa, fd, ps, Fk, hm, hk, hb⟩ := F.ex
  exact ⟨pe_callS Fk hr hg hm hk hb hx ha.pe hdb he hpl, sem_callR ha.sem⟩
theorem sem_mthR {k : Nat} {m : Str} {mask : List Bool} {φ : List D → OutR} {to : TE} {ta : TA} {fo : M Hd} {fa : M (List Hd)} (ho : Sem cm K n W (HdOk cm K n) to fo) (ha : Sem cm K n W (HsOk cm K n) ta fa) :
    Sem cm K n W (HdOk cm K n) (tMethS (cm k) m (spR cm K mask φ) (WE W) to ta) (eMthR m k mask φ fo fa) := by
  refine Sem.bind (u := fun x σ H1 Q => ∃ a dx fs, x = .ref a ∧ H1 a = some (.ins (cm k) dx fs) ∧ fs.lookup m = none ∧ ta σ H1 fun vs H2 => spR cm K mask φ (x :: vs) H2 Q (WE W σ)) ho ?_
  intro ρ₀ c₀ H₀ h0 x ρ c σ H Q s0 r0 hx q
  dsimp only at q
  rw [M.bind_run] at q
  unfold chkO at q
  cases h0 with
  | slot j =>
    by_cases hc : clsO m k (recO (.slot j) ρ) = true
    case neg => rw [if_neg hc] at q; exact q.elim
    rw [if_pos hc] at q
    have hc : clsO m k (rcOf (at_ ρ j)) = true := hc
    cases es : at_ ρ j with
    | rc p d =>
      rw [es] at hc
      cases d with
      | obj k' ns xs =>
        have hc : (k' == k && (nIdx m ns).isNone) = true := hc
        rw [Bool.and_eq_true] at hc
        obtain ⟨h1, h2⟩ := hc
        have h1 : k' = k := by simpa using h1
        subst h1
        have h2 : nIdx m ns = none := by simpa using h2
        obtain ⟨hi, hs, u, e1, e2⟩ := slot_ok r0 hx es (fun z => nomatch z)
        cases e1
        obtain ⟨a, ys, vs, g1, g2, ⟨g3, g4, dx, g5⟩, g6⟩ := e2
        refine ⟨a, dx, ns.zip vs, g1, g5, nIdx_none h2, ?_⟩
        refine ha ρ c σ H _ r0 ?_
        have q : QR cm K n W (HdOk cm K n) Q ρ₀ c₀ H₀ σ ((fa >>= fun hs => callR mask φ (.slot j :: hs)) ρ) := q
        rw [M.bind_run] at q
        cases ea : fa ρ with
        | bad => rw [ea] at q; exact q
        | exc x2 ρ2 => rw [ea] at q; exact fun c' H' s' r' => q c' H' (s0.trans s') r'
        | ok hs ρ2 =>
          rw [ea] at q
          dsimp only at q
          intro c2 H2 ys s2 r2 hy
          exact call_red (hs := .slot j :: hs) (H₀ := H₀) (s0.trans s2) r2 ⟨x, ys, rfl, hx.stp s2.st, hy.base s0.st⟩ (fun _ _ h => h) q
      | _ => cases hc
    | _ => rw [es] at hc; cases hc
  | _ => exact (show False from q).elim
theorem ve_mthR {pl : PySem.Sem Bool} {j k : Nat} {m : Str} {mask : List Bool} {φ : List D → OutR} {o e : Expr} {es : List Expr} {to : TE} {ta : TA} {fo : M Hd} {fa : M (List Hd)} {apos pos : Pos} (M1 : MthR X.prog X.w K X.mg X.base cm j k m mask φ) (hr1 : Room j X.A)
    (hx : ∀ σ, PassesAt (L2.CX X.prog X.w) X σ (WE W σ)) (ho : VE cm X W o to fo) (ha : VA cm X W (e :: es) ta fa) (hK : X.K = K := by rfl)
    (hst : starEach (e :: es) X.env = (false, eval e X.env) :: starEach es X.env := by rfl) (hpl : (backTo pos (starEach es X.env)).any (·.1) = false := by rfl)
    (ht : eval (.Call (.Attribute o m apos) (e :: es) [] pos) X.env = (do
      let ov ← eval o X.env
      standAt apos.atName
      let (f, first) ← holding [ov] (getMethod ov m pl)
      callWith pos f first (backTo pos (starEach (e :: es) X.env)) (backToKw pos (keywordEach [] X.env))) := by rfl) :
    VE cm X W (.Call (.Attribute o m apos) (e :: es) [] pos) (tMethS (cm k) m (spR cm K mask φ) (WE W) to ta) (eMthR m k mask φ fo fa) := by
  subst hK
  obtain ⟨f1, fd1, ps1, c1, m1, F1', b1⟩ := M1.ex
  exact ⟨pe_methS ho.pe c1 m1 F1' hr1 b1 hx ha.pe hst hpl ht, sem_mthR ho.sem ha.sem⟩
theorem ve_mthR0 {pl : PySem.Sem Bool} {j k : Nat} {m : Str} {mask : List Bool} {φ : List D → OutR} {o : Expr} {to : TE} {fo : M Hd} {apos pos : Pos} (M1 : MthR X.prog X.w K X.mg X.base cm j k m mask φ) (hr1 : Room j X.A)
    (hx : ∀ σ, PassesAt (L2.CX X.prog X.w) X σ (WE W σ)) (ho : VE cm X W o to fo) (hK : X.K = K := by rfl)
    (ht : eval (.Call (.Attribute o m apos) [] [] pos) X.env = (do
      let ov ← eval o X.env
      standAt apos.atName
      let (f, first) ← holding [ov] (getMethod ov m pl)
      callWith pos f first (backTo pos (starEach [] X.env)) (backToKw pos (keywordEach [] X.env))) := by rfl) :
    VE cm X W (.Call (.Attribute o m apos) [] [] pos) (tMethS (cm k) m (spR cm K mask φ) (WE W) to tNil) (eMthR m k mask φ fo eNil) := by
  subst hK
  obtain ⟨f1, fd1, ps1, c1, m1, F1', b1⟩ := M1.ex
  exact ⟨pe_meth0S ho.pe c1 m1 F1' hr1 b1 hx ht, sem_mthR ho.sem va_nil.sem⟩

/-! a new instance -/
theorem rds_okP {pcs : List (Option Nat)} {c : Col} {H H₀ : Hp} {σ : St} {ρ : List S} (r : Rep cm K n c H ρ σ) (h1 : ∀ p, some p ∈ pcs → (p ≠ 0 ∧ p ≤ n + 8 ∧ p ≠ n + 1)) (h2 : ∀ j, some (j + 1) ∈ pcs → j < n → ∃ p d, ρ[j]? = some (.rc p d)) : ∀ {hs : List Hd} {vs : List V}, HsOk cm K n H₀ c H σ hs vs →
    ((rds hs ρ = .bad) ∨ ∃ ds, rds hs ρ = .ok ds ρ ∧ ds.length = vs.length ∧ ∀ (i : Nat) (d : D) (v : V), ds[i]? = some d → vs[i]? = some v → DenX cm K (Gp pcs c H) (Gz c H) d v)
  | [], vs, h => by cases h; exact .inr ⟨[], rfl, rfl, fun i d v e => by simp at e⟩
  | h :: hs, vs, ⟨v, t, e, x1, x2⟩ => by
    subst e
    show (rd h >>= fun d => rds hs >>= fun ds => pure (d :: ds)) ρ = .bad ∨ ∃ ds, (rd h >>= fun d => rds hs >>= fun ds => pure (d :: ds)) ρ = .ok ds ρ ∧ _
    rw [M.bind_run]
    rcases rd_cases h ρ with ⟨d, eg⟩ | eg
    case inr => rw [eg]; exact .inl rfl
    rw [eg]
    dsimp only
    rw [M.bind_run]
    rcases rds_okP r h1 h2 x2 with a2 | ⟨ds, b1, b2, b3⟩
    · rw [a2]; exact .inl rfl
    rw [b1]
    refine .inr ⟨d :: ds, rfl, by rw [List.length_cons, List.length_cons, b2], fun i d' v' e1 e2 => ?_⟩
    cases i with
    | zero =>
      have e1 : d = d' := by simpa using e1
      have e2 : v = v' := by simpa using e2
      subst e1 e2
      exact rd_okP r x1 eg h1 h2
    | succ i => exact b3 i d' v' (by simpa using e1) (by simpa using e2)
def onePc (p ar : Nat) : List (Option Nat) := some p :: List.replicate ar none
theorem onePc_mem {p ar q : Nat} (h : some q ∈ onePc p ar) : q = p := by
  unfold onePc at h
  rw [List.mem_cons] at h
  rcases h with h | h
  · exact Option.some.inj h
  · exact absurd (List.eq_of_mem_replicate h) (by simp)
theorem onePc_get {p ar i : Nat} {o : Option Nat} (h : (onePc p ar)[i]? = some o) : (i = 0 ∧ o = some p) ∨ (0 < i ∧ o = none) := by
  unfold onePc at h
  cases i with
  | zero => exact .inl ⟨rfl, by simpa using h.symm⟩
  | succ i =>
    rw [List.getElem?_cons_succ, List.getElem?_replicate] at h
    by_cases q : i < ar
    · rw [if_pos q] at h; exact .inr ⟨by omega, (Option.some.inj h).symm⟩
    · rw [if_neg q] at h; cases h
def oneMask (ar : Nat) : List Bool := true :: List.replicate ar false
theorem onePc_ok {p ar : Nat} (hp : p ≠ 0) : PcOk (oneMask ar) (onePc p ar) := by
  refine ⟨?_, fun i q h => ?_, fun i j q h1 h2 => ?_⟩
  · unfold onePc oneMask; simp
  · rcases onePc_get h with ⟨_, e⟩ | ⟨_, e⟩
    · cases e; exact hp
    · cases e
  · rcases onePc_get h1 with ⟨e1, _⟩ | ⟨_, e⟩
    · rcases onePc_get h2 with ⟨e2, _⟩ | ⟨_, e⟩
      · omega
      · cases e
    · cases e
theorem sem_mkR {j k ar : Nat} {φ : List D → OutR} {t : TA} {f : M (List Hd)} (h : Sem cm K n W (HsOk cm K n) t f) : Sem cm K n W (HdOk cm K n) (tMakeS (cm k) (spR cm K (oneMask ar) φ) (WE W) t) (eMkR j k ar φ f) := by
  refine Sem.bind (u := fun vs σ H1 Q => ∀ x dx, H1 x = none → H1 dx = none → dx ≠ x → spR cm K (oneMask ar) φ (.ref x :: vs) (upd (upd H1 dx (.own x)) x (.ins (cm k) dx [])) (fun v H2 => v = .non ∧ Q (V.ref x) H2) (WE W σ)) h ?_
  intro ρ₀ c₀ H₀ a vs ρ c σ H Q s0 r0 hx q x dx hxn hdn hne
  dsimp only at q
  rw [M.bind_run] at q
  rcases rds_okP (pcs := onePc (n + 8) ar) r0 (fun p hp => by have := onePc_mem hp; omega) (fun i hp hi => by have := onePc_mem hp; omega) hx with eg | ⟨ds, eg, hl, hd⟩
  · rw [eg] at q; exact q.elim
  rw [eg] at q
  dsimp only at q
  by_cases hj : j < 6 ∧ ds.length = ar
  case neg => simp only [guardM, decide_eq_false hj, Bool.false_eq_true, if_false] at q; exact q.elim
  simp only [guardM, decide_eq_true hj, if_true] at q
  -- the colours handed to __init__
  let ct : Col := fun b => if b = x then n + 8 else if b = dx then 0 else if c b = n + 8 then n + 9 else c b
  have ctx : ct x = n + 8 := if_pos rfl
  have cto : ∀ b o, H b = some o → ct b = if c b = n + 8 then n + 9 else c b := fun b o hb => by
    show (if b = x then n + 8 else if b = dx then 0 else if c b = n + 8 then n + 9 else c b) = _
    rw [if_neg (fun z => by rw [z, hxn] at hb; cases hb), if_neg (fun z => by rw [z, hdn] at hb; cases hb)]
  generalize hH : upd (upd H dx (.own x)) x (.ins (cm k) dx []) = H1
  have Hx : H1 x = some (.ins (cm k) dx []) := by rw [← hH]; exact upd_same
  have Ho : ∀ b o, H b = some o → H1 b = some o := fun b o hb => by
    rw [← hH, upd_ne (fun z => by rw [z, hxn] at hb; cases hb), upd_ne (fun z => by rw [z, hdn] at hb; cases hb)]; exact hb
  have gz1 : ∀ b o, Gz c H b = some o → Gz ct H1 b = some o := fun b o hb => by
    obtain ⟨z1, z2⟩ := Gz.to hb
    exact Gz.of (by rw [cto b o z2, if_neg (by omega)]; exact z1) (Ho b o z2)
  have gp1 : ∀ b o, Gp (onePc (n + 8) ar) c H b = some o → Gp (onePc (n + 8) ar) ct H1 b = some o := fun b o hb => by
    obtain ⟨z1, z2⟩ := Gp.to hb
    refine Gp.of (fun w => ?_) (Ho b o z2)
    have w := onePc_mem w
    rw [cto b o z2] at w
    by_cases y : c b = n + 8
    · rw [if_pos y] at w; omega
    · rw [if_neg y] at w; exact y w
  have lv : vs.length = ar := by rw [← hl]; exact hj.2
  refine ⟨ct, .obj k [] [] :: ds, onePc (n + 8) ar, onePc_ok (by omega), ⟨by unfold onePc; rw [List.length_cons, List.length_cons, List.length_replicate, hj.2], by unfold onePc; rw [List.length_cons, List.length_cons, List.length_replicate, lv], fun i pc d v e1 e2 e3 => ?_⟩, ?_⟩
  · rcases onePc_get e1 with ⟨z1, z2⟩ | ⟨z1, z2⟩
    · subst z1 z2
      have e2 : D.obj k [] [] = d := by simpa using e2
      have e3 : V.ref x = v := by simpa using e3
      subst e2 e3
      exact ⟨x, [], [], rfl, ctx, ⟨rfl, rfl, dx, Hx⟩, ⟨rfl, fun i d v e => by simp at e, fun i j ys zs b e => by simp at e⟩⟩
    · subst z2
      cases i with
      | zero => omega
      | succ i => exact (hd i d v (by simpa using e2) (by simpa using e3)).mono gp1 gz1
  · -- back
    have back : ∀ (c' : Col) (H' : Hp), ExtS (fun p => some p ∈ onePc (n + 8) ar) ct c' H1 H' → ∃ c'' : Col, Ext c c'' H H' ∧ (∀ b o, Gz c' H' b = some o → Gz c'' H' b = some o) ∧ ∀ b, c' b = n + 8 → c'' b = n + 2 + j ∧ H b = none := fun c' H' ex => by
      have old : ∀ b o, H b = some o → c' b = ct b ∧ ct b ≠ n + 8 ∧ H' b = some o := fun b o hb => by
        have h8 : ct b ≠ n + 8 := by
          rw [cto b o hb]
          by_cases y : c b = n + 8
          · rw [if_pos y]; omega
          · rw [if_neg y]; exact y
        obtain ⟨e1, e2⟩ := (ex b o (Ho b o hb)).2 (fun w => h8 (onePc_mem w))
        exact ⟨e1, h8, e2⟩
      refine ⟨fun b => match H b with | some _ => c b | none => if c' b = n + 8 then n + 2 + j else c' b, fun b o hb => ⟨by show (match H b with | some _ => c b | none => if c' b = n + 8 then n + 2 + j else c' b) = c b; rw [hb], (old b o hb).2.2⟩, fun b o hb => ?_, fun b hb => ?_⟩
      · obtain ⟨z1, z2⟩ := Gz.to hb
        refine Gz.of ?_ z2
        show (match H b with | some _ => c b | none => if c' b = n + 8 then n + 2 + j else c' b) = 0
        cases y : H b with
        | none => show (if c' b = n + 8 then n + 2 + j else c' b) = 0; rw [if_neg (by omega)]; exact z1
        | some u =>
          show c b = 0
          obtain ⟨w1, w2, _⟩ := old b u y
          rw [z1, cto b u y] at w1
          by_cases v : c b = n + 8
          · rw [if_pos v] at w1; omega
          · rw [if_neg v] at w1; exact w1.symm
      · cases y : H b with
        | none => exact ⟨by show (match H b with | some _ => c b | none => if c' b = n + 8 then n + 2 + j else c' b) = _; rw [y]; show (if c' b = n + 8 then n + 2 + j else c' b) = _; rw [if_pos hb], rfl⟩
        | some u =>
          obtain ⟨w1, w2, _⟩ := old b u y
          exact absurd (w1.symm.trans hb) w2
    cases eo : φ (.obj k [] [] :: ds) with
    | bad => rw [eo] at q; exact q.elim
    | exc kk ds' =>
      rw [eo] at q
      intro c' H' ex aq
      obtain ⟨c'', b1, b2, b3⟩ := back c' H' ex
      exact q c'' H' (s0.app b1.stp) (r0.ext b1)
    | ret d ds' =>
      rw [eo] at q
      intro c' H' v ex hv aq
      cases d with
      | non =>
        cases ds' with
        | nil => exact q.elim
        | cons d' dr =>
          obtain ⟨c'', b1, b2, b3⟩ := back c' H' ex
          obtain ⟨d2, e1, e2⟩ := aq 0 (n + 8) (.ref x) rfl rfl
          have e1 : d' = d2 := by simpa using e1
          subst e1
          exact ⟨hv, q c'' H' (.ref x) (s0.app b1.stp) (r0.ext b1) ⟨hj.1, e2.mono b2 fun b o p z => ⟨⟨(b3 b p).1, s0.st.free (b3 b p).2⟩, z⟩⟩⟩
      | _ => exact q.elim
theorem ve_mkR {i j k ar : Nat} {x : Str} {φ : List D → OutR} {e : Expr} {es : List Expr} {t : TA} {f : M (List Hd)} {p pos : Pos} (F : KlsR X.prog X.w K X.mg X.base cm i k x (oneMask ar) φ) (hr : Room (i + 1) X.A) (hx : ∀ σ, PassesAt (L2.CX X.prog X.w) X σ (WE W σ)) (ha : VA cm X W (e :: es) t f) (hK : X.K = K := by rfl)
    (hg : Gl X x := by rfl) (hdb : (x == ("__debug__" : Str)) = false := by decide) (he : starEach (e :: es) X.env = (false, eval e X.env) :: starEach es X.env := by rfl) (hpl : (backTo pos (starEach es X.env)).any (·.1) = false := by rfl) :
    VE cm X W (.Call (.Name x p) (e :: es) [] pos) (tMakeS (cm k) (spR cm K (oneMask ar) φ) (WE W) t) (eMkR j k ar φ f) := by
  subst hK
  obtain ⟨fa, fd, ps, M, Fk, hm, hb⟩ := F.ex
  exact ⟨pe_makeS M Fk hr hg hm hb hx ha.pe hdb he hpl, sem_mkR ha.sem⟩
/-- a method of an instance that is handed to no name -/
theorem sem_mthT {k ar : Nat} {m : Str} {φ : List D → OutR} {to : TE} {ta : TA} {fo : M Hd} {fa : M (List Hd)} (ho : Sem cm K n W (HdOk cm K n) to fo) (ha : Sem cm K n W (HsOk cm K n) ta fa) :
    Sem cm K n W (HdOk cm K n) (tMethS (cm k) m (spR cm K (oneMask ar) φ) (WE W) to ta) (eMthT m k ar φ fo fa) := by
  refine Sem.bind (u := fun x σ H1 Q => ∃ a dx fs, x = .ref a ∧ H1 a = some (.ins (cm k) dx fs) ∧ fs.lookup m = none ∧ ta σ H1 fun vs H2 => spR cm K (oneMask ar) φ (x :: vs) H2 Q (WE W σ)) ho ?_
  intro ρ₀ c₀ H₀ h0 x ρ c σ H Q s0 r0 hx q
  dsimp only at q
  rw [M.bind_run, lift_run] at q
  cases h0 with
  | rc j d =>
    have q1 : QR cm K n W (HdOk cm K n) Q ρ₀ c₀ H₀ σ (guardM (clsO m k (some d)) (fa >>= fun hs => rds hs >>= fun ds => guardM (decide (ds.length = ar)) (outT (φ (d :: ds)))) ρ) := q
    by_cases hc : clsO m k (some d) = true
    case neg => simp only [guardM, if_neg hc] at q1; exact q1.elim
    simp only [guardM, if_pos hc] at q1
    clear q
    obtain ⟨hj6, rc⟩ := hx
    cases d with
    | obj k' ns xs =>
      have hc : (k' == k && (nIdx m ns).isNone) = true := hc
      rw [Bool.and_eq_true] at hc
      obtain ⟨h1, h2⟩ := hc
      have h1 : k' = k := by simpa using h1
      subst h1
      have h2 : nIdx m ns = none := by simpa using h2
      obtain ⟨a, ys, vs, g1, g2, ⟨g3, g4, dx, g5⟩, g6⟩ := id rc
      refine ⟨a, dx, ns.zip vs, g1, g5, nIdx_none h2, ?_⟩
      refine ha ρ c σ H _ r0 ?_
      have q := q1
      clear q1
      rw [M.bind_run] at q
      cases ea : fa ρ with
      | bad => rw [ea] at q; exact q
      | exc x2 ρ2 => rw [ea] at q; exact fun c' H' s' r' => q c' H' (s0.trans s') r'
      | ok hs ρ2 =>
        rw [ea] at q
        dsimp only at q
        intro c2 H2 ws s2 r2 hy
        have s02 := s0.trans s2
        have rc2 : RecC cm K (Gz c2 H2) H2 (fun b => c2 b = n + 2 + j ∧ H₀ b = none) x (.obj k' ns xs) := rc.mono s2.st.gz fun b o p z => by
          obtain ⟨w1, w2⟩ := (s2.st b o z).2.2 (by omega)
          exact ⟨⟨w1.trans p.1, p.2⟩, w2⟩
        rw [M.bind_run] at q
        rcases rds_okP (pcs := [some (n + 8), some (n + 2 + j)]) r2 (fun p hp => by simp only [List.mem_cons, Option.some.injEq, List.not_mem_nil, or_false] at hp; omega) (fun i hp hi => by simp only [List.mem_cons, Option.some.injEq, List.not_mem_nil, or_false] at hp; omega) hy with eg | ⟨ds, eg, hl, hd⟩
        · rw [eg] at q; exact q.elim
        rw [eg] at q
        dsimp only at q
        by_cases hj : ds.length = ar
        case neg => simp only [guardM, decide_eq_false hj, Bool.false_eq_true, if_false] at q; exact q.elim
        simp only [guardM, decide_eq_true hj, if_true] at q
        let Pt : Addr → Prop := fun b => c2 b = n + 2 + j ∧ H₀ b = none
        let ct : Col := csetP (fun b => if c2 b = n + 8 then n + 9 else c2 b) Pt (n + 8)
        have cti : ∀ b, Pt b → ct b = n + 8 := fun b h => csetP_in h
        have cto : ∀ b, ¬ Pt b → ct b = if c2 b = n + 8 then n + 9 else c2 b := fun b h => csetP_out h
        have ct8 : ∀ b, ¬ Pt b → ct b ≠ n + 8 := fun b h => by
          rw [cto b h]
          by_cases y : c2 b = n + 8
          · rw [if_pos y]; omega
          · rw [if_neg y]; exact y
        have gz1 : ∀ b o, Gz c2 H2 b = some o → Gz ct H2 b = some o := fun b o hb => by
          obtain ⟨z1, z2⟩ := Gz.to hb
          have np : ¬ Pt b := fun h => by have := h.1; omega
          exact Gz.of (by rw [cto b np, if_neg (by omega)]; exact z1) z2
        have lv : ws.length = ar := by rw [← hl]; exact hj
        refine ⟨ct, .obj k' ns xs :: ds, onePc (n + 8) ar, onePc_ok (by omega), ⟨by unfold onePc; rw [List.length_cons, List.length_cons, List.length_replicate, hj], by unfold onePc; rw [List.length_cons, List.length_cons, List.length_replicate, lv], fun i pc d v e1 e2 e3 => ?_⟩, ?_⟩
        · rcases onePc_get e1 with ⟨z1, z2⟩ | ⟨z1, z2⟩
          · subst z1 z2
            have e2 : D.obj k' ns xs = d := by simpa using e2
            have e3 : x = v := by simpa using e3
            subst e2 e3
            exact rc2.mono gz1 fun b o p z => ⟨cti b p, z⟩
          · subst z2
            cases i with
            | zero => omega
            | succ i =>
              have e2 : ds[i]? = some d := by simpa using e2
              have e3 : ws[i]? = some v := by simpa using e3
              refine (hd i d v e2 e3).mono (fun b o hb => ?_) gz1
              obtain ⟨w1, w2⟩ := Gp.to hb
              simp only [List.mem_cons, Option.some.injEq, List.not_mem_nil, or_false, not_or] at w1
              exact Gp.of (fun w => ct8 b (fun h => w1.2 h.1) (onePc_mem w)) w2
        · have back : ∀ (c' : Col) (H' : Hp), ExtS (fun p => some p ∈ onePc (n + 8) ar) ct c' H2 H' → ∃ c'' : Col, Stp n c₀ c'' H₀ H' ∧ (∀ b o, Gz c' H' b = some o → Gz c'' H' b = some o) ∧ Rep cm K n c'' H' ρ2 σ := fun c' H' ex => by
            have old : ∀ b o, H2 b = some o → ¬ Pt b → c' b = ct b ∧ H' b = some o := fun b o hb np => (ex b o hb).2 (fun w => ct8 b np (onePc_mem w))
            let cc : Col := fun b => match H2 b with | some _ => csetP c2 Pt (c' b) b | none => c' b
            have cco : ∀ b o, H2 b = some o → ¬ Pt b → cc b = c2 b := fun b o hb np => by
              show (match H2 b with | some _ => csetP c2 Pt (c' b) b | none => c' b) = _
              rw [hb]; exact csetP_out np
            have ccn : ∀ b, H2 b = none ∨ Pt b → cc b = c' b := fun b h => by
              show (match H2 b with | some _ => csetP c2 Pt (c' b) b | none => c' b) = _
              cases y : H2 b with
              | none => rfl
              | some u =>
                rcases h with h | h
                · rw [y] at h; cases h
                · exact csetP_in h
            have st : Stp n c₀ cc H₀ H' := fun b o hb => by
              obtain ⟨⟨o2, z1⟩, z2, z3⟩ := s02.st b o hb
              have np : ¬ Pt b := fun h => by rw [h.2] at hb; cases hb
              obtain ⟨w1, w2⟩ := old b o2 z1 np
              refine ⟨⟨o2, w2⟩, fun y => ?_, fun y => ?_⟩
              · obtain ⟨v1, v2⟩ := z2 y
                exact ⟨(cco b o2 z1 np).trans v1, (old b o v2 np).2⟩
              · obtain ⟨v1, v2⟩ := z3 y
                exact ⟨(cco b o2 z1 np).trans v1, (old b o v2 np).2⟩
            refine ⟨cc, st, fun b o hb => ?_, ⟨r2.len, r2.lenσ, fun i s e => ?_⟩⟩
            · obtain ⟨z1, z2⟩ := Gz.to hb
              refine Gz.of ?_ z2
              by_cases y : H2 b = none ∨ Pt b
              · rw [ccn b y]; exact z1
              · simp only [not_or] at y
                obtain ⟨u, hu⟩ := Option.ne_none_iff_exists'.mp y.1
                rw [cco b u hu y.2]
                have w := (old b u hu y.2).1
                rw [z1, cto b y.2] at w
                by_cases v : c2 b = n + 8
                · rw [if_pos v] at w; omega
                · rw [if_neg v] at w; exact w.symm
            · obtain ⟨v, w1, w2⟩ := r2.at_ i s e
              have hi : i < n := by rw [← r2.len]; exact (List.getElem?_eq_some_iff.mp e).1
              refine ⟨v, w1, w2.keep (fun b o hb => ?_) (fun b o hb => ?_) fun b o hc hb => ?_⟩
              · obtain ⟨z1, z2⟩ := Gz.to hb
                have np : ¬ Pt b := fun h => by have := h.1; omega
                exact Gz.of (by rw [cco b o z2 np]; exact z1) (old b o z2 np).2
              · obtain ⟨z1, z2⟩ := Gb.to hb
                have np : ¬ Pt b := fun h => by have := h.1; omega
                exact Gb.of (by rw [cco b o z2 np]; exact z1) (old b o z2 np).2
              · have np : ¬ Pt b := fun h => by have := h.1; omega
                exact ⟨cco b o hb np, (old b o hb np).2⟩
          cases eo : φ (.obj k' ns xs :: ds) with
          | bad => rw [eo] at q; exact q.elim
          | exc kk ds' =>
            rw [eo] at q
            intro c' H' ex aq
            obtain ⟨c'', b1, b2, b3⟩ := back c' H' ex
            exact q c'' H' ⟨b1, s02.kq⟩ b3
          | ret d ds' =>
            rw [eo] at q
            intro c' H' v ex hv aq
            obtain ⟨c'', b1, b2, b3⟩ := back c' H' ex
            exact q c'' H' v ⟨b1, s02.kq⟩ b3 (Den.mono b2 _ _ hv)
    | _ => cases hc
  | _ => exact (show False from q).elim
end
end Vi

/-! ## ViRec7 -/
set_option Elab.async false
set_option linter.all false
set_option maxRecDepth 100000
set_option maxHeartbeats 800000
namespace Vi
open PySem L2
section
variable {cm : Nat → Addr} {X : Cx} {W : WX} {K : PySem.W.Frag} {n : Nat}
theorem ve_mthT {pl : PySem.Sem Bool} {j k ar : Nat} {m : Str} {φ : List D → OutR} {o e : Expr} {es : List Expr} {to : TE} {ta : TA} {fo : M Hd} {fa : M (List Hd)} {apos pos : Pos} (M1 : MthR X.prog X.w K X.mg X.base cm j k m (oneMask ar) φ) (hr1 : Room j X.A)
    (hx : ∀ σ, PassesAt (L2.CX X.prog X.w) X σ (WE W σ)) (ho : VE cm X W o to fo) (ha : VA cm X W (e :: es) ta fa) (hK : X.K = K := by rfl)
    (hst : starEach (e :: es) X.env = (false, eval e X.env) :: starEach es X.env := by rfl) (hpl : (backTo pos (starEach es X.env)).any (·.1) = false := by rfl)
    (ht : eval (.Call (.Attribute o m apos) (e :: es) [] pos) X.env = (do
      let ov ← eval o X.env
      standAt apos.atName
      let (f, first) ← holding [ov] (getMethod ov m pl)
      callWith pos f first (backTo pos (starEach (e :: es) X.env)) (backToKw pos (keywordEach [] X.env))) := by rfl) :
    VE cm X W (.Call (.Attribute o m apos) (e :: es) [] pos) (tMethS (cm k) m (spR cm K (oneMask ar) φ) (WE W) to ta) (eMthT m k ar φ fo fa) := by
  subst hK
  obtain ⟨f1, fd1, ps1, c1, m1, F1', b1⟩ := M1.ex
  exact ⟨pe_methS ho.pe c1 m1 F1' hr1 b1 hx ha.pe hst hpl ht, sem_mthT ho.sem ha.sem⟩
/-- try with a suite of its own, without loops -/
theorem vs_tryG (i c : Nat) {hd : Nat → Option Bool} {x nm : Str} {body suite : List Stmt} {b₀ : Stmt} {np pos pos' : Pos} {tb : WX → TS} {ts : Nat → Addr → TS} {Wout : WX} {fb : M Fl} {fs : Nat → M Fl} (hN : X.N.Nodup) (tk : Takes X Wout) (hx : ∀ k b, hd k = some b → PySem.W.exmOne X.K (.ref (cm k)) (.ref (cm c)) = some b)
    (hc : Names X x (.ref (cm c))) (hb : ∀ (W : WX) (pn : List (Addr × Obj)) (xe : Value → Shared → Prop), Takes (X.tr pn xe) W → VSs cm (X.tr pn xe) W body (tb W) fb)
    (hsu : ∀ k, hd k = some true → ∀ (a : Addr) (oe : Obj) (pn : List (Addr × Obj)), Zc (.ref (cm k)) none oe → (∃ vs, oe.data = .fields vs) → VSs (cmE cm a) (X.suite a ((a, oe) :: pn)) W0 (b₀ :: suite) (ts k a) (fs k))
    (hi : X.N[i]? = some nm := by rfl) (hs : X.stack = X.env :: X.outer := by rfl) (hf : X.env.frame = some X.env.locals := by rfl) (hln : X.env.kindOf nm = some .local := by rfl) :
    VS cm X Wout (.Try body [.ExceptHandler (some (.Name x np)) (some nm) (b₀ :: suite) pos'] [] [] pos) (fun D σ H => tb (wAs X.K (.ref (cm c)) i (tsE cm hd ts) Wout D) D σ H) (sTry i hd fb fs) :=
  vs_try i c (tb := tb) hN tk hx hc (fun W pn xe t _ => (hb W pn xe t).pe) (fun W => (hb W [] (fun _ _ => True) (fun _ _ _ => trivial)).sem) hsu hi hs hf hln
end
end Vi
namespace Vi
open PySem L2
section
variable {cm : Nat → Addr} {X : Cx} {W : WX} {i : Nat} {gl : List S → Option (List D)} {gp : List S → List D → Option D} (K : PySem.W.Frag)
theorem wfnilT {o : Expr} {to : TE} {op : CmpOp} {r : R2} {g : D → D → Option Hd} {p3 pos : Pos} (hs : OpS cm K X.N.length r g) (ho : OpR X (compareOp op) r) (hf : VF cm X o to i gl gp) (hm : behindInMarks op (.List [] p3) = false := by rfl) (hK : X.K = K := by rfl) :
    VT cm X W (.Compare o [op] [.List [] p3] pos) (tTest (tOp r to (tLst tNil))) (eTest (fNil gl g)) := vt_fnil hs ho hm hf hK
theorem wfnil {o : Expr} {to : TE} {op : CmpOp} {r : R2} {g : D → D → Option Hd} {p3 pos : Pos} (hs : OpS cm K X.N.length r g) (ho : OpR X (compareOp op) r) (hf : VF cm X o to i gl gp) (hm : behindInMarks op (.List [] p3) = false := by rfl) (hK : X.K = K := by rfl) :
    VE cm X W (.Compare o [op] [.List [] p3] pos) (tOp r to (tLst tNil)) (fNil gl g) := ve_fnil hs ho hm hf hK
end
end Vi

/-! ## ViStl -/
set_option Elab.async false
set_option linter.all false
set_option maxRecDepth 100000
set_option maxHeartbeats 800000
namespace Vi
open PySem L2
/-! ### defs whose arguments stand still from the call on -/
def startZ (n : Nat) (ds : List D) : List S := ds.map .fr ++ List.replicate (n - ds.length) .un
def runZ (n : Nat) (F : M Fl) (ds : List D) : Out := endF (F (startZ n ds))
def spZ (cm : Nat → Addr) (K : PySem.W.Frag) (m : Nat) (φ : List D → Out) : Sp := fun vs H Q E => ∃ c ds, ds.length = m ∧ DenL cm K (Gz c H) ds vs ∧ (match φ ds with
  | .ret s => ∀ c' H' v, Ext c c' H H' → RetOk cm K H c' H' s v → Q v H'
  | .exc k => ∀ c' H', Ext c c' H H' → E (.ref (cm k)) none H'
  | .bad => False)
section
variable {P : Program} {w : World} {K : PySem.W.Frag} {mg : Str → Option Value} {base : Heap} {cm : Nat → Addr} {c : Col} {H : Hp}
theorem rep_startZ {N : List Str} {ds : List D} {vs : List V} (hl : ds.length ≤ N.length) (h : DenL cm K (Gz c H) ds vs) : Rep cm K N.length (col0 N.length c) H (startZ N.length ds) (L2.start N vs) := by
  have l2 := h.length
  refine ⟨by unfold startZ; rw [List.length_append, List.length_map, List.length_replicate]; omega, by unfold L2.start; rw [List.length_append, List.length_map, List.length_replicate]; omega, fun i s e => ?_⟩
  unfold startZ at e
  unfold L2.start
  by_cases hi : i < ds.length
  · rw [List.getElem?_append_left (by rw [List.length_map]; exact hi), List.getElem?_map] at e
    rw [List.getElem?_append_left (by rw [List.length_map]; omega), List.getElem?_map]
    obtain ⟨d, hd⟩ : ∃ d, ds[i]? = some d := ⟨ds[i], List.getElem?_eq_getElem hi⟩
    rw [hd] at e
    obtain ⟨v, hv, dv⟩ := h.get hd
    have e : S.fr d = s := Option.some.inj e
    subst e
    exact ⟨some v, by rw [hv]; rfl, v, rfl, by rw [gz_col0]; exact dv⟩
  · rw [List.getElem?_append_right (by rw [List.length_map]; omega), List.getElem?_replicate] at e
    by_cases hj : i - (ds.map S.fr).length < N.length - ds.length
    · rw [if_pos hj] at e
      cases e
      rw [List.length_map] at hj
      refine ⟨none, ?_, trivial⟩
      rw [List.getElem?_append_right (by rw [List.length_map]; omega), List.getElem?_replicate, List.length_map, if_pos (by omega)]
    · rw [if_neg hj] at e; cases e
theorem fn_okZ {x qual : Str} {st : Stmt} {f : Addr} {fd : FuncData} {N ps : List Str} {k : Nat} (F' : M Fl) (F : Fun K x qual st f fd) (sc : FnScope N ps (defScope st)) (hps : ps.length ≤ N.length)
    (hbody : ∀ (cdv : Value) (A : Around) (outer : List Env) (s : Shared) (H : Hp) (E : XK), Room k (A.deeper (PyProof.Rows.envOfC qual (defScope st) s.heap.objs.size f cdv)) →
      ∃ t, VSs cm (cxOf (L2.CX P w) P w K mg base N qual (defScope st) f cdv A outer s H E) (WD E) (defBody st) t F') : FnOk P w K mg base (L2.CX P w) (k + 1) f fd ps (spZ cm K ps.length (runZ N.length F')) := by
  refine F.okX sc (fun vs H Q E h => ?_) (fun cdv A outer s H vs Q E hr h => ?_)
  · obtain ⟨c, ds, hl, hd, _⟩ := h
    rw [← hd.length]
    exact hl
  · obtain ⟨c, ds, hl, hd, q⟩ := h
    obtain ⟨t, ht⟩ := hbody cdv A outer s H E hr
    have hlN : ds.length ≤ N.length := by omega
    refine ⟨t, ht.pe, ht.sem _ _ _ _ _ (rep_startZ hlN hd) ?_⟩
    show QS cm K N.length (WD E) _ (startZ N.length ds) (L2.start N vs) (col0 N.length c) H (F' (startZ N.length ds))
    unfold runZ at q
    cases e : F' (startZ N.length ds) with
    | bad => rw [e] at q; exact q.elim
    | exc k ρ' => rw [e] at q; exact fun c' σ' H' s _ _ => q _ H' (back_ext s)
    | ok y ρ' =>
      rw [e] at q
      cases y with
      | bk => exact q.elim
      | rr z => exact q.elim
      | ct => exact q.elim
      | nx => exact fun c' σ' H' s _ _ => q _ H' .non (back_ext s) rfl
      | rt z => exact fun c' H' v s r => q _ H' v (back_ext s) (back_ret s r)
structure FnZ (P : Program) (w : World) (K : PySem.W.Frag) (mg : Str → Option Value) (base : Heap) (cm : Nat → Addr) (j : Nat) (x : Str) (m : Nat) (φ : List D → Out) : Prop where
  ex : ∃ f fd ps, FnOk P w K mg base (L2.CX P w) j f fd ps (spZ cm K m φ) ∧ mg x = some (.ref f) ∧ PySem.W.keepIn K (.ref f) = true ∧ Binds K fd ps []
end
def eCallZ (m : Nat) (φ : List D → Out) (f : M (List D)) : M Hd := f >>= fun ds => callM m φ ds
section
variable {cm : Nat → Addr} {X : Cx} {W : WX} {K : PySem.W.Frag} {n : Nat}
theorem sem_callZ {m : Nat} {φ : List D → Out} {t : TA} {f : M (List D)} (h : Sem cm K n W (DsOk cm K) t f) : Sem cm K n W (HdOk cm K n) (tCallS (spZ cm K m φ) (WE W) t) (eCallZ m φ f) := by
  refine Sem.bind (u := fun vs σ H1 Q => spZ cm K m φ vs H1 Q (WE W σ)) h ?_
  intro ρ₀ c₀ H₀ ds x ρ c σ H Q s0 r0 hx q
  dsimp only [callM] at q
  by_cases hl : ds.length = m
  case neg => rw [if_neg hl] at q; exact q.elim
  rw [if_pos hl] at q
  refine ⟨c, ds, hl, hx, ?_⟩
  cases eo : φ ds with
  | bad => rw [eo] at q; exact q.elim
  | exc k => rw [eo] at q; exact fun c' H' ex => q c' H' (s0.app ex.stp) (r0.ext ex)
  | ret s =>
    rw [eo] at q
    cases s with
    | un => exact q.elim
    | bor d => exact q.elim
    | rc p d => exact q.elim
    | tab ts => exact q.elim
    | fr d => exact fun c' H' v ex hv => q c' H' v (s0.app ex.stp) (r0.ext ex) hv
    | own d =>
      intro c' H' v ex hv
      obtain ⟨p, ev, hp, hc, ct⟩ := hv
      have ex2 : Ext c (cset c' p (n + 1)) H H' := fun b o h => by
        have ne : b ≠ p := ne_of_none h hp
        exact ⟨by rw [cset_ne ne]; exact (ex b o h).1, (ex b o h).2⟩
      exact q _ H' v (s0.app ex2.stp) (r0.ext ex2) ⟨p, ev, s0.st.free hp, cset_same, ct.keep (gz_recol hc) fun o q => q⟩
theorem ve_callZ {j m : Nat} {x : Str} {φ : List D → Out} {e : Expr} {es : List Expr} {t : TA} {f : M (List D)} {p pos : Pos} (F : FnZ X.prog X.w K X.mg X.base cm j x m φ) (hr : Room j X.A) (hx : ∀ σ, PassesAt (L2.CX X.prog X.w) X σ (WE W σ)) (ha : VD cm X W (e :: es) t f) (hK : X.K = K := by rfl)
    (hg : Gl X x := by rfl) (hdb : (x == ("__debug__" : Str)) = false := by decide) (he : starEach (e :: es) X.env = (false, eval e X.env) :: starEach es X.env := by rfl) (hpl : (backTo pos (starEach es X.env)).any (·.1) = false := by rfl) :
    VE cm X W (.Call (.Name x p) (e :: es) [] pos) (tCallS (spZ cm K m φ) (WE W) t) (eCallZ m φ f) := by
  subst hK
  obtain ⟨fa, fd, ps, Fk, hm, hk, hb⟩ := F.ex
  exact ⟨pe_callS Fk hr hg hm hk hb hx ha.pe hdb he hpl, sem_callZ ha.sem⟩
end
end Vi

/-! ## ViLam -/
set_option Elab.async false
set_option linter.all false
set_option maxRecDepth 100000
set_option maxHeartbeats 1600000
namespace Vi
open PySem L2 PySem.Spec PyProof.Rows

/-! ### a lambda is made: what it changes, exactly -/
section
variable {X : Cx} {pins : List (Addr × Obj)} {σ : L2.St} {H : Hp} {s : Shared}
/-- the heap behind the making: as before, or the table is longer and the code object new -/
def LamRel (H H1 : Hp) (P c' : Addr) (q : Str) : Prop := (H1 = H) ∨ (H c' = none ∧ ∃ (ps : Array Value) (pos : Pos), H P = some (.tbl ps) ∧ H1 = upd (upd H P (.tbl (ps ++ #[rawInt pos.line, rawInt pos.col, .ref c']))) c' (LamX.CodeO c' q))
theorem lam_make3 {c P : Addr} {params : Arguments} {body : Expr} {scope : Scope} {pos : Pos} {E : Value → Shared → Prop} {Q : Value → Shared → Prop} {ps : Array Value} (I : Inv X pins σ H s) (TB : LamX.TabB X.base X.mg c P) (hcode : X.env.code = .ref c)
    (hP : H P = some (.tbl ps)) (ht : TriplesOk ps.toList) (ha : ∀ (pos : Pos) (cv : Value), codeAmong pos ps.toList = some cv → ∃ a, cv = .ref a ∧ H a = some (LamX.CodeO a (X.env.qual ++ "<lambda>"))) (hdef : defaultsOf params X.env = ([], [])) (hfree : ∀ y ∈ scope.names, y.2 = .free → ∃ c, X.env.cells.lookup y.1 = some c)
    (h : ∀ (f c' : Addr) (pm ctv : Value) (H1 : Hp) (s' : Shared), Inv X pins σ H1 s' → LamRel H H1 P c' (X.env.qual ++ "<lambda>") →
      s'.heap.get? f = some (PySem.W.kla_obj "<lambda>" (X.env.qual ++ "<lambda>") params body scope (cloFrom X.env.cells scope.names []) pm c' ctv) → H1 f = none → f ∉ frs X.stack → H1 c' = some (LamX.CodeO c' (X.env.qual ++ "<lambda>")) → Q (.ref f) s') :
    wpAny (model X.prog X.w) X.A (eval (.Lambda params body scope pos) X.env) Q E s := by
  refine PySem.W.kla_eval hdef ?_
  have bP : s.heap.BuiltinsAt X.mg P := TB.bm.keeps I.bk
  have hP' : s.heap.get? P = some { cls := .none, data := .fields ps } := I.hok P _ hP
  have nofr : ∀ f, s.heap.objs.size ≤ f → f ∉ frs X.stack := fun f hf z => by
    rcases List.mem_cons.mp (I.stkSub _ z) with e | e
    · have h1 := I.lt
      rw [← e] at h1
      exact Nat.lt_irrefl _ (Nat.lt_of_lt_of_le h1 hf)
    · exact I.nofs hf e
  cases hc : codeAmong pos ps.toList with
  | none =>
    refine PySem.W.kla_makeFunction (mg := X.mg) (c := c) (P := P) (ps := ps) (closure_ok hfree) I.ok.glob (I.mod.glob.keeps I.bk) hcode (TB.code.keeps I.bk) hP' ht hc TB.gP bP fun c' ctv h' tk hx hge hlt hrec htb => ?_
    obtain ⟨c2, oc, vs, t, e2, hoc, hd, hv⟩ := hrec
    cases e2
    have hsz : s.heap.objs.size ≤ h'.objs.size := Nat.le_trans hge (Nat.le_of_lt hlt)
    have nC : H c' = none := I.hok.fresh hge
    have I1 := LamX.inv_table (t' := tk) (more := #[rawInt pos.line, rawInt pos.col, .ref c']) (h' := h'.push (PySem.W.kla_obj "<lambda>" (X.env.qual ++ "<lambda>") params body scope (cloFrom X.env.cells scope.names []) ((X.mg "__name__").getD .none) c' ctv)) I hP
      (fun b o hb e => Heap.get?_push_of_some _ (hx b o hb e)) (Heap.get?_push_of_some _ htb) hge ⟨oc, vs, t, Heap.get?_push_of_some _ hoc, hd, hv⟩
    refine h h'.objs.size c' ((X.mg "__name__").getD .none) ctv _ _ I1 (.inr ⟨nC, ps, pos, hP, rfl⟩) (Heap.get?_push_size _ rfl) ?_ (nofr _ hsz) upd_same
    have n1 : h'.objs.size ≠ c' := Nat.ne_of_gt hlt
    have n2 : h'.objs.size ≠ P := Nat.ne_of_gt (Nat.lt_of_lt_of_le (Heap.lt_size hP') hsz)
    rw [upd_ne n1, upd_ne n2]
    exact I.hok.fresh hsz
  | some cv =>
    obtain ⟨c', e, hco⟩ := ha pos cv hc
    subst e
    refine PySem.W.kla_makeFunctionHit (mg := X.mg) (c := c) (P := P) (ps := ps) (closure_ok hfree) I.ok.glob (I.mod.glob.keeps I.bk) hcode (TB.code.keeps I.bk) hP' ht hc bP fun ctv h' tk hx hsz => ?_
    have I1 : Inv X pins σ H { s with heap := h'.push (PySem.W.kla_obj "<lambda>" (X.env.qual ++ "<lambda>") params body scope (cloFrom X.env.cells scope.names []) ((X.mg "__name__").getD .none) c' ctv), toks := tk } := I.kept fun b o e => Heap.get?_push_of_some _ (hx b o e)
    exact h h'.objs.size c' ((X.mg "__name__").getD .none) ctv H _ I1 (.inl rfl) (Heap.get?_push_size _ rfl) (I.hok.fresh hsz) (nofr _ hsz) hco
/-- x(), in the def that got the lambda, what is let out told of the slots then -/
theorem pe_actS {CXg : CXT} {Eg : XK} {Ng : List Str} {qg : Str} {sg : Scope} {g f c' : Addr} {cdg pm ctv : Value} {params : Arguments} {body : Expr} {scope : Scope} {k i : Nat} {a : Str} {pn : List (Addr × Obj)} {xe : Value → Shared → Prop} {W : WX} {tb : XK → TE} {p1 p2 : Pos}
    (I : Inv X pins σ H s) (L : LamX.LamS X.env.scope scope) (hf : s.heap.get? f = some (PySem.W.kla_obj "<lambda>" (X.env.qual ++ "<lambda>") params body scope (cloFrom X.env.cells scope.names []) pm c' ctv)) (hfn : H f = none) (hfr : f ∉ frs X.stack)
    (hbind : bindArgs (PySem.W.kla_fn "<lambda>" (X.env.qual ++ "<lambda>") params body scope (cloFrom X.env.cells scope.names []) pm (.ref c') ctv) ⟨[], []⟩ = pure [])
    (tk : Takes ((cxOf CXg X.prog X.w X.K X.mg X.base Ng qg sg g cdg X.A X.stack s H Eg).tr pn xe) W) (hr : Room (k + 1) (X.A.deeper (envOfC qg sg s.heap.objs.size g cdg)))
    (hbody : ∀ (A : Around) (outer : List Env) (s : Shared) (H : Hp) (E : XK), Room k (A.deeper (LamX.lamEnv X scope s.heap.objs.size f c')) → PE (LamX.lamCx X A outer s H E scope f c') body (tb E))
    (hN : Ng[i]? = some a) (hv : Vis sg a) (hd : (a == ("__debug__" : Str)) = false := by decide) (hcd : (a == ("__classdict__" : Str)) = false := by decide) :
    PE ((cxOf CXg X.prog X.w X.K X.mg X.base Ng qg sg g cdg X.A X.stack s H Eg).tr pn xe) (.Call (.Name a p1) [] [] p2)
      (fun σZ HZ Q => σZ[i]? = some (some (.ref f)) ∧ HZ c' = some (LamX.CodeO c' (X.env.qual ++ "<lambda>")) ∧ tb (WE W σZ) σ HZ Q) := by
  refine ⟨fun pinsZ sZ σZ HZ Q IZ h => ?_⟩
  obtain ⟨hs, hc, ht⟩ := h
  refine wpAny_Call_Name_kw (thn ((pe_var (pos := p1) (i := i) hN hv hd hcd).run pinsZ sZ σZ HZ (fun v H1 => v = .ref f ∧ H1 = HZ) IZ ⟨.ref f, hs, rfl, rfl⟩) fun u s1 ⟨v, H1, I1, r1, q1⟩ => ?_)
  obtain ⟨ev, eH⟩ := q1
  subst ev
  rw [eH] at I1
  obtain rfl : u = Value.ref f := r1
  have of1 : s1.heap.get? f = some (PySem.W.kla_obj "<lambda>" (X.env.qual ++ "<lambda>") params body scope (cloFrom X.env.cells scope.names []) pm c' ctv) := I1.base.keep f _ hf hfn hfr (fun z => nomatch (show f ∈ ([] : List Addr) from z))
  refine PySem.W.callWith_F0 ⟨_, _, _, _, of1⟩ ?_
  have un : Un (frs X.stack) [] H HZ s.heap s1.heap := I1.base
  obtain ⟨⟨oc, vs, t, hoc, hdc, hvc⟩, _, _⟩ := I1.hok c' _ hc
  have rc : codeAny (model X.prog X.w) (X.A.deeper (envOfC qg sg s.heap.objs.size g cdg)) (.call (.ref f) ⟨[], []⟩) (CR (L2.CX X.prog X.w) (envOfC qg sg s.heap.objs.size g cdg :: X.stack) X.prog X.w HZ s1 Q (WE W σZ)) s1 := by
    refine PySem.W.kla_callFunE hr.depth of1 rfl L.co L.gen rfl ⟨c', oc, vs, t, rfl, hoc, hdc, hvc⟩ ?_
    rw [hbind]
    refine wpAny_pure (wpAny_newFunctionEnv (fun y hy => (L.own y hy).2) (fun y hy => absurd hy (by simp)) (fun h₁ hns hsb => ⟨I1.nolimit.fresh _ hsb, ?_⟩) L.kind)
    show codeAny _ _ (.expr body (LamX.lamEnv X scope s1.heap.objs.size f c')) _ _
    have kp : ∀ b o, s1.heap.get? b = some o → h₁.get? b = some o := fun b o e => hsb.extBut b o (Nat.ne_of_lt (Heap.lt_size e)) (Heap.get?_push_of_some _ e)
    have J : Inv (LamX.lamCx X (X.A.deeper (envOfC qg sg s.heap.objs.size g cdg)) (envOfC qg sg s.heap.objs.size g cdg :: X.stack) s1 HZ (WE W σZ) scope f c') [] σ HZ { s1 with heap := h₁, toks := s1.toks + ([] : List (Str × Value)).length } :=
      LamX.lam_start2 I L I1.env0 hr.hd un hns kp
    refine PySem.W.kla_codeExpr (wpAny_mono ((hbody _ _ s1 HZ (WE W σZ) (hr.deeper _)).run [] _ _ HZ Q J ht) (fun v s' hq => ?_) fun e s' hq => hq)
    obtain ⟨w', H', J', rv, q⟩ := hq
    exact ⟨w', H', J'.os, J'.bare, J'.base, J'.hok, rv, q⟩
  have hx : PassesAt (L2.CX X.prog X.w) ((cxOf CXg X.prog X.w X.K X.mg X.base Ng qg sg g cdg X.A X.stack s H Eg).tr pn xe) σZ (WE W σZ) := passAt tk σZ
  refine wpAny_call (codeAny_mono rc fun r s' hq => ?_)
  cases r with
  | error e => exact hx pinsZ HZ s1 e s' I1 hq
  | ok fl =>
    cases fl with
    | ret u => exact I1.after hq
    | next => exact False.elim hq
    | brk => exact False.elim hq
    | cont => exact False.elim hq
end
end Vi

/-! ## ViLam2 -/
set_option Elab.async false
set_option linter.all false
set_option maxRecDepth 100000
set_option maxHeartbeats 1600000
namespace Vi
open PySem L2 PySem.Spec PyProof.Rows

/-! ### a def that calls what it is handed, and tells of what class the refusal is -/
abbrev kZ (P : Program) (w : World) (K : PySem.W.Frag) (mg : Str → Option Value) (base : Heap) (N : List Str) (x : Str) (sg : Scope) (g : Addr) (cdv : Value) (A : Around) (stack : List Env) (s : Shared) (H : Hp) : Cx := (cxOf C8.CX0 P w K mg base N x sg g cdv A stack s H C8.E0).nox
structure KFn (P : Program) (w : World) (K : PySem.W.Frag) (mg : Str → Option Value) (base : Heap) (cm : Nat → Addr) (x : Str) (c : Nat) (hd : Nat → Option Bool) (fs : Nat → M Fl) : Prop where
  ex : ∃ (g : Addr) (oc : Value) (od : Option Addr) (dV kV doc pm : Value) (an : Option Addr) (cdv ct : Value) (osl : Array (Option Value)) (pg : Arguments) (bg : List Stmt) (sg : Scope) (a nf ne xc : Str) (b₀ : Stmt) (suite : List Stmt) (p1 p2 p3 p5 p6 p7 p8 p9 np pos' pos : Pos),
    mg x = some (.ref g) ∧ PySem.W.keepIn K (.ref g) = true ∧ K.lookup g = some ⟨oc, od, .func (PySem.W.fnOf x x pg bg sg dV kV doc pm an cdv ct), osl⟩ ∧ PySem.W.codeIn K cdv x = true ∧ L2.Binds K (PySem.W.fnOf x x pg bg sg dV kV doc pm an cdv ct) [a] [] ∧ FnScope [a, nf, ne] [a] sg ∧
    bg = [.Assign [.Name nf p7] (.List [] p8) p9, .Try [.Expr (.Call (.Name a p1) [] [] p2) p3] [.ExceptHandler (some (.Name xc np)) (some ne) (b₀ :: suite) pos'] [] [] pos, .Return (some (.Name nf p5)) p6] ∧
    (∀ k b, hd k = some b → PySem.W.exmOne K (.ref (cm k)) (.ref (cm c)) = some b) ∧ Vis sg a ∧ (a == ("__debug__" : Str)) = false ∧ (a == ("__classdict__" : Str)) = false ∧ Vis sg nf ∧ (nf == ("__debug__" : Str)) = false ∧ (nf == ("__classdict__" : Str)) = false ∧
    ∀ (A : Around) (stack : List Env) (s : Shared) (H : Hp), Names (kZ P w K mg base [a, nf, ne] x sg g cdv A stack s H) xc (.ref (cm c)) ∧ (kZ P w K mg base [a, nf, ne] x sg g cdv A stack s H).env.kindOf ne = some .local ∧
      PS (kZ P w K mg base [a, nf, ne] x sg g cdv A stack s H) (.Assign [.Name nf p7] (.List [] p8) p9) (tAsg (tLst tNil) (gName 1)) ∧
      (swapsWith (.Call (.Name a p1) [] [] p2) none p3.line (kZ P w K mg base [a, nf, ne] x sg g cdv A stack s H).env = pure false) ∧
      ∃ ts : Nat → Addr → TS, ∀ k, hd k = some true → ∀ (a' : Addr) (oe : Obj) (pn : List (Addr × Obj)), Zc (.ref (cm k)) none oe → (∃ vs, oe.data = .fields vs) →
        VSs (cmE cm a') ((kZ P w K mg base [a, nf, ne] x sg g cdv A stack s H).suite a' ((a', oe) :: pn)) W0 (b₀ :: suite) (ts k a') (fs k)
def sOutL : R Fl → Option (List D)
  | .ok .nx ρ => (match ownL (at_ ρ 1) with | some xs => if noEs xs = true then some xs else none | none => none)
  | _ => none
def tabHas (kk : Nat) (q : Str) : S → Bool
  | .tab ts => ts.contains (kk, q)
  | _ => false
def kOut (hd : Nat → Option Bool) (fs : Nat → M Fl) : R Hd → R Hd
  | .ok _ ρ => .ok (.new (.lst [])) ρ
  | .exc k ρ => (match hd k with | some true => (match sOutL (fs k [.un, .un, .fr (.cls 0)]) with | some xs => .ok (.new (.lst xs)) ρ | none => .bad) | _ => .bad)
  | .bad => .bad
def eKinds (t kk : Nat) (q : Str) (hd : Nat → Option Bool) (fs : Nat → M Fl) (f : M Hd) : M Hd := fun ρ => if tabHas kk q (at_ ρ t) = true then kOut hd fs (f ρ) else .bad
/-- what an evaluator says, as a trace -/
def tSem (cm : Nat → Addr) (K : PySem.W.Frag) (n : Nat) (W : WX) (f : M Hd) : TE := fun (σ : L2.St) H Q => ∃ ρ c, Rep cm K n c H ρ σ ∧ QR cm K n W (HdOk cm K n) Q ρ c H σ (f ρ)
section
variable {cm : Nat → Addr} {X : Cx} {W : WX} {K : PySem.W.Frag} {n : Nat}
theorem sem_tSem {f : M Hd} : Sem cm K n W (HdOk cm K n) (tSem cm K n W f) f := fun ρ c σ H Q r q => ⟨ρ, c, r, q⟩
theorem tabHas_ok {kk : Nat} {q : Str} {s : S} (h : tabHas kk q s = true) : ∃ ts, s = .tab ts ∧ (kk, q) ∈ ts := by
  cases s with
  | tab ts => exact ⟨ts, rfl, List.contains_iff_mem.mp h⟩
  | _ => cases h
theorem codeO_nt {c : Addr} {q : Str} {ps : Array Value} : some (LamX.CodeO c q) ≠ some (.tbl ps) := fun z => LamX.codeO_ne ps (Option.some.inj z)
/-- the names' things behind the making of a lambda -/
theorem rep_lam {c : Col} {H H1 : Hp} {ρ : List S} {σ : L2.St} {t kk : Nat} {q : Str} {ts : List (Nat × Str)} {c' : Addr} (r : Rep cm K n c H ρ σ) (hs : ρ[t]? = some (.tab ts)) (hm : (kk, q) ∈ ts) (rel : LamRel H H1 (cm kk) c' q) : ∃ c1, Stp n c c1 H H1 ∧ Rep cm K n c1 H1 ρ σ := by
  rcases rel with e | ⟨hc, ps, pos, hP, e⟩
  · subst e; exact ⟨c, Stp.refl, r⟩
  · have ht : t < n := by rw [← r.len]; exact (List.getElem?_eq_some_iff.mp hs).1
    obtain ⟨v, hv, inj, all⟩ := r.at_ t _ hs
    obtain ⟨_, cP, tc⟩ := all _ hm
    have cP : c (cm kk) = t + 1 := cP
    have ne : ∀ b o, H b = some o → b ≠ c' := fun b o h z => by rw [z, hc] at h; cases h
    have old : ∀ b o, H b = some o → b ≠ cm kk → H1 b = some o := fun b o h hb => by rw [e, upd_ne (ne b o h), upd_ne hb]; exact h
    have hP1 : H1 (cm kk) = some (.tbl (ps ++ #[rawInt pos.line, rawInt pos.col, .ref c'])) := by rw [e, upd_ne (ne _ _ hP), upd_same]
    have hc1 : H1 c' = some (LamX.CodeO c' q) := by rw [e, upd_same]
    have gz : ∀ a o, Gz c H a = some o → Gz (cset c c' 0) H1 a = some o := fun a o h => by
      obtain ⟨z1, z2⟩ := Gz.to h
      exact Gz.of (by rw [cset_ne (ne a o z2)]; exact z1) (old a o z2 (fun z => by rw [z] at z1; omega))
    refine ⟨cset c c' 0, fun b o h => ?_, r.len, r.lenσ, fun i s hi => ?_⟩
    · by_cases hb : b = cm kk
      · subst hb
        exact ⟨⟨_, hP1⟩, fun z => by omega, fun z => by omega⟩
      · have h1 := old b o h hb
        exact ⟨⟨o, h1⟩, fun z => ⟨by rw [cset_ne (ne b o h)]; exact z, h1⟩, fun z => ⟨cset_ne (ne b o h), h1⟩⟩
    · obtain ⟨v', h1, h2⟩ := r.at_ i s hi
      by_cases hit : i = t
      · subst hit
        rw [hs] at hi
        cases hi
        refine ⟨v', h1, inj, fun p hp => ?_⟩
        obtain ⟨g1, g2, g3⟩ := all p hp
        refine ⟨g1, ?_, ?_⟩
        · obtain ⟨qs, z, _⟩ := id g3
          rw [cset_ne (ne _ _ z)]; exact g2
        · by_cases hpk : cm p.1 = cm kk
          · have ep := inj p hp (kk, q) hm hpk
            subst ep
            obtain ⟨qs, z1, z2, z3⟩ := g3
            have z1 : H (cm kk) = some (.tbl qs) := z1
            rw [hP] at z1
            cases z1
            refine ⟨_, hP1, by rw [show (ps ++ #[rawInt pos.line, rawInt pos.col, .ref c']).toList = ps.toList ++ [rawInt pos.line, rawInt pos.col, .ref c'] by simp]; exact PySem.TriplesOk_snoc _ _ _ _ z2, fun p' cv hcv => ?_⟩
            rw [show (ps ++ #[rawInt pos.line, rawInt pos.col, .ref c']).toList = ps.toList ++ [rawInt pos.line, rawInt pos.col, .ref c'] by simp] at hcv
            rcases LamX.among_app _ z2 hcv with z | z
            · obtain ⟨a, w1, w2⟩ := z3 p' cv z
              exact ⟨a, w1, gz _ _ w2⟩
            · exact ⟨c', z, Gz.of cset_same hc1⟩
          · exact g3.mono gz fun o h => old _ o h hpk
      · refine ⟨v', h1, h2.keep gz (fun a o h => ?_) fun a o hca h => ?_⟩
        · obtain ⟨z1, z2⟩ := Gb.to h
          exact Gb.of (by rw [cset_ne (ne a o z2)]; exact z1) (old a o z2 (fun z => by rw [z] at z1; omega))
        · have nP : a ≠ cm kk := fun z => by rw [z] at hca; omega
          exact ⟨cset_ne (ne a o h), old a o h nP⟩
theorem ve_kinds (n : Nat) {t kk c k : Nat} {cc : Addr} {x q : Str} {hd : Nat → Option Bool} {fs : Nat → M Fl} {params : Arguments} {body : Expr} {scope : Scope} {tb : XK → TE} {f' : M Hd} {p lpos pos : Pos} (F : KFn X.prog X.w K X.mg X.base cm x c hd fs) (hr : Room (k + 2) X.A)
    (TB : LamX.TabB X.base X.mg cc (cm kk)) (hcode : X.env.code = .ref cc) (hq : q = X.env.qual ++ "<lambda>")
    (hbody : ∀ (A : Around) (outer : List Env) (s : Shared) (H : Hp) (E : XK) (f c' : Addr), Room k (A.deeper (LamX.lamEnv X scope s.heap.objs.size f c')) → VE cm (LamX.lamCx X A outer s H E scope f c') (WD E) body (tb E) f')
    (L : LamX.LamS X.env.scope scope) (hdef : defaultsOf params X.env = ([], []) := by rfl)
    (hbind : ∀ (q : Str) (cl : List (Str × Addr)) (pm cv ctv : Value), bindArgs (PySem.W.kla_fn "<lambda>" q params body scope cl pm cv ctv) ⟨[], []⟩ = pure [] := by intro _ _ _ _ _; rfl)
    (hK : X.K = K := by rfl) (hn : X.N.length = n := by rfl) (hg : Gl X x := by rfl) (hdb : (x == ("__debug__" : Str)) = false := by decide) :
    VE cm X W (.Call (.Name x p) [.Lambda params body scope lpos] [] pos) (tSem cm K n W (eKinds t kk q hd fs f')) (eKinds t kk q hd fs f') := by
  subst hK
  subst hn
  refine ⟨⟨fun pins s σ H Q I ⟨ρ, cl, r, qq⟩ => ?_⟩, sem_tSem⟩
  unfold eKinds at qq
  by_cases hth : tabHas kk q (at_ ρ t) = true
  case neg => rw [if_neg hth] at qq; exact qq.elim
  rw [if_pos hth] at qq
  obtain ⟨tl, ets, hmem⟩ := tabHas_ok hth
  have hs := at_some ets (fun z => nomatch z)
  obtain ⟨v0, hv0, inj, all⟩ := r.at_ t _ hs
  obtain ⟨_, cP, ps, hP, hto, hco⟩ := all _ hmem
  subst hq
  obtain ⟨g, oc, od, dV, kV, doc, pm, an, cdv, ct, osl, pg, bg, sg, a, nf, ne, xc, b₀, suite, p1, p2, p3, p5, p6, p7, p8, p9, np, pos', pos2, hm, hk, lk, hcg, hb, Sg, ebg, hx, va, va1, va2, vf, vf1, vf2, rest⟩ := F.ex
  refine wpAny_Call_Name_kw (ld_glob I hg hm ?_ hdb)
  refine PySem.W.callWith_K (h₀ := X.base) I.ok.mod.kin hk ?_ (by rfl) (by rfl)
  show wpAny _ _ (spliced ((false, eval (.Lambda params body scope lpos) X.env) :: backTo pos (starEach [] X.env))) _ _ s
  refine Calls.spliced_cons (lam_make3 I TB hcode hP hto (fun pos cv h => by
      obtain ⟨a, e1, e2⟩ := hco pos cv h
      exact ⟨a, e1, (Gz.to e2).2⟩) hdef (L.has I.ok) fun f c' pm' ctv H1 s' I1 rel hf hfn hfr hcd => ?_)
  refine Calls.spliced_nil ⟨I1.kIn, ?_⟩
  obtain ⟨c1, st1, r1⟩ := rep_lam r hs hmem rel
  have rc : codeAny (model X.prog X.w) X.A (.call (.ref g) ⟨[.ref f], []⟩) (CR C8.CX0 X.stack X.prog X.w H1 s' Q C8.E0) s' := by
    refine LamX.run_ofS (N := [a, nf, ne]) (ps := [a]) (us := [.ref f]) (vs := [.ref f]) lk hcg Sg hr I1.env0 (hb s' [.ref f] I1.kIn rfl) (.cons rfl .nil) rfl fun hr' => ?_
    obtain ⟨hN, hln, pS1, hsw, ts, hsu⟩ := rest X.A X.stack s' H1
    subst ebg
    -- the call of what was handed in
    have act : ∀ (W : WX) (pn : List (Addr × Obj)) (xe : Value → Shared → Prop), Takes ((cxOf C8.CX0 X.prog X.w X.K X.mg X.base [a, nf, ne] x sg g cdv X.A X.stack s' H1 C8.E0).tr pn xe) W →
        PE ((cxOf C8.CX0 X.prog X.w X.K X.mg X.base [a, nf, ne] x sg g cdv X.A X.stack s' H1 C8.E0).tr pn xe) (.Call (.Name a p1) [] [] p2) (fun σZ HZ Q => σZ[0]? = some (some (.ref f)) ∧ HZ c' = some (LamX.CodeO c' (X.env.qual ++ "<lambda>")) ∧ tb (WE W σZ) σ HZ Q) :=
      fun W pn xe tk => pe_actS (i := 0) I1 L hf hfn hfr (hbind _ _ _ _ _) tk hr' (fun A outer s H E hr2 => (hbody A outer s H E f c' hr2).pe) rfl va va1 va2
    have pTry := ps_try_as (X := kZ X.prog X.w X.K X.mg X.base [a, nf, ne] x sg g cdv X.A X.stack s' H1) (x := xc) (n := ne) (c := .ref (cm c)) (i := 2) (body := [.Expr (.Call (.Name a p1) [] [] p2) p3]) (suite := suite) (b₀ := b₀) (np := np) (pos := pos2) (pos' := pos')
      (tb := fun W => tDrop (fun σZ HZ Q => σZ[0]? = some (some (.ref f)) ∧ HZ c' = some (LamX.CodeO c' (X.env.qual ++ "<lambda>")) ∧ tb (WE W σZ) σ HZ Q)) (ts := tsE cm hd ts) (Wout := fun _ _ _ _ => False) rfl rfl Sg.nd rfl hln hN LamX.takes0
      (fun W pn xe tk _ => pss_one (ps_expr (act W pn xe tk) hsw))
      (fun a' oe cls d pn hz hv => ⟨fun pins s σ H D I ⟨k, e1, e2, e3, h⟩ => by
        subst e1 e2
        exact (hsu k e3 a' oe pn hz hv).pe.run pins s σ H D I h⟩)
    have pRet : PS (kZ X.prog X.w X.K X.mg X.base [a, nf, ne] x sg g cdv X.A X.stack s' H1) (.Return (some (.Name nf p5)) p6) (tRet (tVar 1)) := ps_ret (pe_var rfl vf vf1 vf2)
    refine ⟨_, (pss_cons pS1 (pss_cons pTry (pss_one pRet))).nox, ?_⟩
    -- what it says
    show tAsg (tLst tNil) (gName 1) _ _ H1
    refine ⟨by show 0 ≤ sizeLine; omega, fun pa hpa => ?_⟩
    show _ ∧ _ ∧ _
    refine ⟨rfl, by rw [upd_ne (fun z => by rw [z, hpa] at hcd; cases hcd)]; exact hcd, ?_⟩
    have ex0 : Ext c1 (cset c1 pa (X.N.length + 1)) H1 (upd H1 pa (.lst [])) := Ext.alloc hpa
    have st2 := st1.trans ex0.stp
    refine (hbody _ (envOfC x sg s'.heap.objs.size g cdv :: X.stack) s' H1 _ f c' (hr'.deeper _)).sem ρ (cset c1 pa (X.N.length + 1)) σ _ _ (r1.ext ex0) ?_
    cases ef : f' ρ with
    | bad => rw [ef] at qq; exact qq.elim
    | ok a0 ρ1 =>
      rw [ef] at qq
      intro c3 H3 v s3 r3 hv
      obtain ⟨y1, y2⟩ := (s3.st pa _ upd_same).2.2 (by rw [cset_same]; exact Nat.lt_succ_self _)
      rw [cset_same] at y1
      refine ⟨.ref pa, rfl, ?_⟩
      exact qq c3 H3 (.ref pa) ⟨st2.trans s3.st, s3.kq⟩ r3 ⟨pa, rfl, st1.free hpa, y1, [], y2, rfl⟩
    | exc kx ρ1 =>
      rw [ef] at qq
      intro c3 H3 s3 r3
      have qq : QR cm X.K X.N.length W (HdOk cm X.K X.N.length) Q ρ cl H σ (match hd kx with | some true => (match sOutL (fs kx [.un, .un, .fr (.cls 0)]) with | some xs => .ok (.new (.lst xs)) ρ1 | none => .bad) | _ => .bad) := qq
      cases ek : hd kx with
      | none => rw [ek] at qq; exact qq.elim
      | some bb =>
        cases bb with
        | false => rw [ek] at qq; exact qq.elim
        | true =>
          rw [ek] at qq
          dsimp only at qq
          cases eo : sOutL (fs kx [.un, .un, .fr (.cls 0)]) with
          | none => rw [eo] at qq; exact qq.elim
          | some xs =>
            rw [eo] at qq
            refine ⟨true, hx kx true ek, fun _ a' ha' => ?_, fun z => nomatch z⟩
            refine ⟨kx, rfl, rfl, ek, ?_⟩
            have S := (hsu kx ek a' { cls := .ref (cm kx), dict := none, data := .fields #[], slots := #[] } [] ⟨rfl, rfl⟩ ⟨_, rfl⟩).sem
            have repK : Rep (cmE cm a') X.K 3 (fun _ => 12) H3 [.un, .un, .fr (.cls 0)] [some (V.ref f), some (V.ref pa), some (V.ref a')] := by
              refine ⟨rfl, rfl, fun i s h => ?_⟩
              match i, h with
              | 0, h => cases h; exact ⟨_, rfl, trivial⟩
              | 1, h => cases h; exact ⟨_, rfl, trivial⟩
              | 2, h => cases h; exact ⟨_, rfl, V.ref a', rfl, rfl⟩
              | i + 3, h => simp at h
            refine S [.un, .un, .fr (.cls 0)] (fun _ => 12) [some (V.ref f), some (V.ref pa), some (V.ref a')] H3 _ repK ?_
            cases e3 : fs kx [.un, .un, .fr (.cls 0)] with
            | bad => rw [e3] at eo; cases eo
            | exc k5 ρ5 => rw [e3] at eo; cases eo
            | ok fl ρ3 =>
              rw [e3] at eo
              cases fl with
              | nx =>
                have eo : (match ownL (at_ ρ3 1) with | some xs => if noEs xs = true then some xs else none | none => none) = some xs := eo
                cases ow : ownL (at_ ρ3 1) with
                | none => rw [ow] at eo; cases eo
                | some xs' =>
                  rw [ow] at eo
                  have eo : (if noEs xs' = true then some xs' else none) = some xs := eo
                  by_cases hno : noEs xs' = true
                  case neg => rw [if_neg hno] at eo; cases eo
                  rw [if_pos hno] at eo
                  cases eo
                  have hs3 := at_some (ownL_ok ow) (fun z => nomatch z)
                  intro c4 σ4 H4 s4 k4 r4
                  obtain ⟨v4, e4, qa, ev4, cq, vs, hq4, dl⟩ := r4.at_ 1 _ hs3
                  subst ev4
                  have old : ∀ b o, H3 b = some o → c4 b = 12 ∧ H4 b = some o := fun b o h => (s4 b o h).2.2 (show 3 < 12 by decide)
                  have cq : c4 qa = 2 := cq
                  have hqn : H3 qa = none := by
                    cases z : H3 qa with
                    | none => rfl
                    | some o => have := (old qa o z).1; omega
                  refine ⟨.ref qa, ?_, ?_⟩
                  · show (σ4.set 2 none)[1]? = _
                    rw [List.getElem?_set_ne (by decide)]; exact e4
                  · let c5 : Col := fun b => match H3 b with | some _ => c3 b | none => if b = qa then X.N.length + 1 else 0
                    have c5o : ∀ b o, H3 b = some o → c5 b = c3 b := fun b o h => by
                      show (match H3 b with | some _ => c3 b | none => if b = qa then X.N.length + 1 else 0) = _
                      rw [h]
                    have c5n : ∀ b, H3 b = none → c5 b = if b = qa then X.N.length + 1 else 0 := fun b h => by
                      show (match H3 b with | some _ => c3 b | none => if b = qa then X.N.length + 1 else 0) = _
                      rw [h]
                    have ex5 : Ext c3 c5 H3 H4 := fun b o h => ⟨c5o b o h, (old b o h).2⟩
                    have gz5 : ∀ b o, Gz c4 H4 b = some o → Gz c5 H4 b = some o := fun b o h => by
                      obtain ⟨z1, z2⟩ := Gz.to h
                      refine Gz.of ?_ z2
                      cases z : H3 b with
                      | some u => have := (old b u z).1; omega
                      | none => rw [c5n b z, if_neg (fun w => by rw [w] at z1; omega)]
                    have st5 := (st2.trans s3.st).trans ex5.stp
                    refine qq c5 H4 (.ref qa) ⟨st5, s3.kq⟩ (r3.ext ex5) ⟨qa, rfl, (st2.trans s3.st).free hqn, by rw [c5n qa hqn, if_pos rfl], vs, hq4, ?_⟩
                    exact DenL.mono gz5 _ _ (denl_cm (cm := cmE cm a') (cm' := cm) (fun j => rfl) xs vs hno dl)
              | _ => cases eo
  refine wpAny_call (codeAny_mono rc fun r s2 hq => ?_)
  cases r with
  | error e => exact (show False from hq).elim
  | ok fl =>
    cases fl with
    | ret u => exact I1.after hq
    | next => exact False.elim hq
    | brk => exact False.elim hq
    | cont => exact False.elim hq
end
end Vi

/-! ## ViLam3 -/
set_option Elab.async false
set_option linter.all false
set_option maxRecDepth 100000
set_option maxHeartbeats 1600000
namespace Vi
open PySem L2

/-! ### defs that make lambdas, or call such defs: the tables are handed on as one more record -/
section
variable (cm : Nat → Addr) (K : PySem.W.Frag)
def TsOk (tc : Nat) (c : Col) (H : Hp) (ts : List (Nat × Str)) : Prop := (∀ p ∈ ts, ∀ q ∈ ts, cm p.1 = cm q.1 → p = q) ∧ ∀ p ∈ ts, p.1 ≠ 0 ∧ c (cm p.1) = tc ∧ TabC (Gz c H) H (cm p.1) p.2
structure AsT (pT pcs : List (Option Nat)) (c : Col) (H : Hp) (ds : List D) (vs : List V) : Prop where
  ld : ds.length = pcs.length
  lv : vs.length = pcs.length
  ok : ∀ (i : Nat) (pc : Option Nat) (d : D) (v : V), pcs[i]? = some pc → ds[i]? = some d → vs[i]? = some v → ArgR cm K pT c H pc d v
def spT (ts : List (Nat × Str)) (mask : List Bool) (φ : List D → OutR) : Sp := fun vs H Q E => ∃ c ds pcs tc, pcs.length = mask.length ∧ PcOk (mask ++ [true]) (pcs ++ [some tc]) ∧ AsT cm K (pcs ++ [some tc]) pcs c H ds vs ∧ TsOk cm tc c H ts ∧ (match φ ds with
  | .ret d ds' => ∀ c' H' v, ExtS (fun p => some p ∈ pcs ++ [some tc]) c c' H H' → Den cm K (Gz c' H') d v → AsQ cm K (pcs ++ [some tc]) c' H' ds' vs → TsOk cm tc c' H' ts → Q v H'
  | .exc k ds' => ∀ c' H', ExtS (fun p => some p ∈ pcs ++ [some tc]) c c' H H' → AsQ cm K (pcs ++ [some tc]) c' H' ds' vs → TsOk cm tc c' H' ts → E (.ref (cm k)) none H'
  | .bad => False)
end
def startT (n : Nat) (mask : List Bool) (ts : List (Nat × Str)) (ds : List D) : List S := pstart mask ds ++ (.tab ts :: List.replicate (n - ds.length - 1) .un)
def recsT (mask : List Bool) (ts : List (Nat × Str)) (ρ : List S) : Option (List D) := match at_ ρ mask.length with
  | .tab us => if us = ts then recsAt mask ρ else none
  | _ => none
def endT (mask : List Bool) (ts : List (Nat × Str)) : R Fl → OutR
  | .ok .nx ρ => endRs (recsT mask ts ρ) (OutR.ret .non)
  | .ok (.rr (.fr d)) ρ => endRs (recsT mask ts ρ) (OutR.ret d)
  | .exc k ρ => endRs (recsT mask ts ρ) (OutR.exc k)
  | _ => .bad
def runT (n : Nat) (mask : List Bool) (ts : List (Nat × Str)) (F : M Fl) (ds : List D) : OutR := endT mask ts (F (startT n mask ts ds))
section
variable {cm : Nat → Addr} {K : PySem.W.Frag} {n : Nat} {c : Col} {H : Hp} {mask : List Bool} {pcs : List (Option Nat)} {tc : Nat} {ts : List (Nat × Str)}
theorem recsT_some {ρ : List S} {ds : List D} (h : recsT mask ts ρ = some ds) : ρ[mask.length]? = some (.tab ts) ∧ recsAt mask ρ = some ds := by
  unfold recsT at h
  cases q : at_ ρ mask.length with
  | tab us =>
    rw [q] at h
    have h : (if us = ts then recsAt mask ρ else none) = some ds := h
    by_cases e : us = ts
    · exact ⟨by rw [← e]; exact at_some q (fun z => nomatch z), by rw [if_pos e] at h; exact h⟩
    · rw [if_neg e] at h; cases h
  | _ => rw [q] at h; cases h
theorem rep_startT {N : List Str} {ds : List D} {vs : List V} (lp : pcs.length = mask.length) (k : PcOk (mask ++ [true]) (pcs ++ [some tc])) (hl : ds.length + 1 ≤ N.length) (h : AsT cm K (pcs ++ [some tc]) pcs c H ds vs) (ht : TsOk cm tc c H ts) :
    Rep cm K N.length (colR N.length (pcs ++ [some tc]) c) H (startT N.length mask ts ds) (L2.start N vs) := by
  have lm : mask.length = ds.length := by rw [← lp, h.ld]
  have l2 : ds.length = vs.length := h.ld.trans h.lv.symm
  have hpn : (pcs ++ [some tc]).length ≤ N.length := by rw [List.length_append, ← h.ld]; exact hl
  have hptc : (pcs ++ [some tc])[mask.length]? = some (some tc) := by rw [← lp, List.getElem?_append_right (Nat.le_refl _)]; simp
  refine ⟨by unfold startT; rw [List.length_append, pstart_len lm, List.length_cons, List.length_replicate]; omega, by unfold L2.start; rw [List.length_append, List.length_map, List.length_replicate]; omega, fun i s e => ?_⟩
  unfold startT at e
  unfold L2.start
  by_cases hi : i < ds.length
  · rw [List.getElem?_append_left (by rw [pstart_len lm]; exact hi)] at e
    obtain ⟨m, d, e1, e2, e3⟩ := pstart_get e
    obtain ⟨v, hv⟩ : ∃ v, vs[i]? = some v := ⟨vs[i]'(by omega), List.getElem?_eq_getElem (by omega)⟩
    rw [List.getElem?_append_left (by rw [List.length_map]; omega), List.getElem?_map, hv]
    refine ⟨some v, rfl, ?_⟩
    obtain ⟨pc, hpc⟩ : ∃ pc, pcs[i]? = some pc := ⟨pcs[i]'(by rw [← h.ld]; exact hi), List.getElem?_eq_getElem (by rw [← h.ld]; exact hi)⟩
    have hpc2 : (pcs ++ [some tc])[i]? = some pc := by rw [List.getElem?_append_left (by rw [← h.ld]; exact hi)]; exact hpc
    have hm : m = pc.isSome := by
      have q : (mask ++ [true])[i]? = some m := by rw [List.getElem?_append_left (by omega)]; exact e1
      rw [← k.msk, List.getElem?_map, hpc2] at q
      exact (Option.some.inj q).symm
    have a := h.ok i pc d v hpc e2 hv
    cases pc with
    | some p =>
      rw [hm] at e3
      have e3 : s = .rc true d := e3
      subst e3
      refine ⟨v, rfl, ?_⟩
      rw [gz_colR hpn]
      exact (show RecC cm K (Gz c H) H (fun b => c b = p) v d from a).mono (fun _ _ h => h) fun b o q z => ⟨colR_at k hpc2 q, z⟩
    | none =>
      rw [hm] at e3
      have e3 : s = paramS d := e3
      subst e3
      have a : DenX cm K (Gp (pcs ++ [some tc]) c H) (Gz c H) d v := a
      have gb : ∀ b o, Gp (pcs ++ [some tc]) c H b = some o → Gb N.length (colR N.length (pcs ++ [some tc]) c) H b = some o := fun b o q => by
        obtain ⟨q1, q2⟩ := Gp.to q
        refine Gb.of ?_ q2
        by_cases z : c b = 0
        · exact .inl (colR_zero z)
        · exact .inr (by rw [colR_out q1 z]; omega)
      have gen : ∀ d, DenX cm K (Gp (pcs ++ [some tc]) c H) (Gz c H) d v → (∀ xs, d ≠ .lst xs) → (∀ ks xs, d ≠ .dic ks xs) → RepS cm K N.length (colR N.length (pcs ++ [some tc]) c) H i (some v) (.fr d) := fun d h h1 h2 => ⟨v, rfl, by
        rw [gz_colR hpn]
        cases d with
        | lst xs => exact absurd rfl (h1 xs)
        | dic ks xs => exact absurd rfl (h2 ks xs)
        | _ => exact h⟩
      cases d with
      | lst xs => exact ⟨v, rfl, a.mono gb (by rw [gz_colR hpn]; exact fun _ _ h => h)⟩
      | dic ks xs => exact ⟨v, rfl, a.mono gb (by rw [gz_colR hpn]; exact fun _ _ h => h)⟩
      | _ => exact gen _ a (fun _ z => D.noConfusion z) (fun _ _ z => D.noConfusion z)
  · have hs : (vs.map some ++ List.replicate (N.length - vs.length) (none : Option V))[i]? = some none ∨ N.length ≤ i := by
      by_cases hn : i < N.length
      · rw [List.getElem?_append_right (by rw [List.length_map]; omega), List.getElem?_replicate, List.length_map, if_pos (by omega)]; exact .inl rfl
      · exact .inr (by omega)
    rw [List.getElem?_append_right (by rw [pstart_len lm]; omega), pstart_len lm] at e
    have hin : i < N.length := by
      have := (List.getElem?_eq_some_iff.mp e).1
      rw [List.length_cons, List.length_replicate] at this
      omega
    have hs := hs.resolve_right (by omega)
    by_cases hj : i = ds.length
    · subst hj
      rw [Nat.sub_self] at e
      cases e
      refine ⟨none, hs, ht.1, fun p hp => ?_⟩
      obtain ⟨g1, g2, g3⟩ := ht.2 p hp
      refine ⟨g1, ?_, by rw [gz_colR hpn]; exact g3⟩
      rw [← lm]; exact colR_at k hptc g2
    · obtain ⟨j, ej⟩ : ∃ j, i - ds.length = j + 1 := ⟨i - ds.length - 1, by omega⟩
      rw [ej, List.getElem?_cons_succ, List.getElem?_replicate] at e
      by_cases hj2 : j < N.length - ds.length - 1
      · rw [if_pos hj2] at e; cases e; exact ⟨none, hs, trivial⟩
      · rw [if_neg hj2] at e; cases e
end
section
variable {P : Program} {w : World} {K : PySem.W.Frag} {mg : Str → Option Value} {base : Heap} {cm : Nat → Addr}
theorem fn_okT {x qual : Str} {st : Stmt} {f : Addr} {N ps : List Str} {k : Nat} {mask : List Bool} {ts : List (Nat × Str)} {oc dV kV doc pm cdv ct : Value} {od an : Option Addr} {osl : Array (Option Value)} (F' : M Fl)
    (lk : K.lookup f = some ⟨oc, od, .func (PySem.W.fnOf x qual (defArgs st) (defBody st) (defScope st) dV kV doc pm an cdv ct), osl⟩) (hcd : PySem.W.codeIn K cdv qual = true) (sc : FnScope N ps (defScope st)) (hps : ps.length + 1 ≤ N.length) (hm : mask.length = ps.length)
    (hbody : ∀ (A : Around) (outer : List Env) (s : Shared) (H : Hp) (E : XK), Room k (A.deeper (PyProof.Rows.envOfC qual (defScope st) s.heap.objs.size f cdv)) →
      ∃ t, VSs cm (cxOf (L2.CX P w) P w K mg base N qual (defScope st) f cdv A outer s H E) (WD E) (defBody st) t F') :
    FnOk P w K mg base (L2.CX P w) (k + 1) f (PySem.W.fnOf x qual (defArgs st) (defBody st) (defScope st) dV kV doc pm an cdv ct) ps (spT cm K ts mask (runT N.length mask ts F')) := by
  refine fn_of lk hcd sc (fun vs H Q E h => ?_) (fun A outer s H vs Q E hr h => ?_)
  · obtain ⟨c, ds, pcs, tc, lp, pk, as, _⟩ := h
    rw [as.lv, lp, hm]
  · obtain ⟨c, ds, pcs, tc, lp, pk, as, tk, q⟩ := h
    obtain ⟨t, ht⟩ := hbody A outer s H E hr
    have hlN : ds.length + 1 ≤ N.length := by rw [as.ld, lp, hm]; exact hps
    have hpn : (pcs ++ [some tc]).length ≤ N.length := by rw [List.length_append, lp, hm]; exact hps
    refine ⟨t, ht.pe, ht.sem _ _ _ _ _ (rep_startT lp pk hlN as tk) ?_⟩
    show QS cm K N.length (WD E) _ (startT N.length mask ts ds) (L2.start N vs) (colR N.length (pcs ++ [some tc]) c) H (F' (startT N.length mask ts ds))
    have hmk : mask.length = pcs.length := lp.symm
    have colK : ∀ (c' : Col) (H' : Hp) (i p : Nat) (b : Addr), i < N.length → Stp N.length (colR N.length (pcs ++ [some tc]) c) c' H H' → (pcs ++ [some tc])[i]? = some (some p) → c' b = i + 1 → colS (pcs ++ [some tc]) H c c' b = p := fun c' H' i p b hi st hp q => by
      by_cases w : H b = none ∨ some (c b) ∈ pcs ++ [some tc]
      · rw [colS_new w, q]
        show (match (pcs ++ [some tc])[i]? with | some (some p) => p | _ => 0) = p
        rw [hp]
      · simp only [not_or] at w
        obtain ⟨o2, ho⟩ := Option.ne_none_iff_exists'.mp w.1
        obtain ⟨_, z2, z3⟩ := st b o2 ho
        by_cases y : c b = 0
        · have := (z2 (colR_zero y)).1; omega
        · have := (z3 (by rw [colR_out w.2 y]; omega)).1
          rw [colR_out w.2 y] at this; omega
    -- the records behind the body
    have key : ∀ (ρ' : List S) (c' : Col) (σ' : St) (H' : Hp) (ds' : List D), recsT mask ts ρ' = some ds' → Stp N.length (colR N.length (pcs ++ [some tc]) c) c' H H' → Kp (startT N.length mask ts ds) ρ' (L2.start N vs) σ' → Rep cm K N.length c' H' ρ' σ' →
        AsQ cm K (pcs ++ [some tc]) (colS (pcs ++ [some tc]) H c c') H' ds' vs ∧ TsOk cm tc (colS (pcs ++ [some tc]) H c c') H' ts := by
      intro ρ' c' σ' H' ds' er st kp r
      obtain ⟨et, er⟩ := recsT_some er
      refine ⟨fun i p v hp hv => ?_, ?_⟩
      · have hiv : i < pcs.length := by rw [← as.lv]; exact (List.getElem?_eq_some_iff.mp hv).1
        have hmi : mask[i]? = some true := by
          have q : (mask ++ [true])[i]? = some true := by rw [← pk.msk, List.getElem?_map, hp]; rfl
          rw [List.getElem?_append_left (by omega)] at q; exact q
        obtain ⟨d, e1, e2⟩ := recsAt_get er hmi
        refine ⟨d, e2, ?_⟩
        have eσ := (kp i none (tgO_rc.mpr ⟨d, e1⟩)).2
        have es : (L2.start N vs)[i]? = some (some v) := by
          unfold L2.start
          rw [List.getElem?_append_left (by rw [List.length_map, as.lv]; exact hiv), List.getElem?_map, hv]; rfl
        obtain ⟨v', g1, u, g2, g3⟩ := r.at_ i _ e1
        rw [eσ, es] at g1
        cases g1
        cases g2
        exact g3.mono (back_gzS pk st) fun b o q z => ⟨colK c' H' i p b (by omega) st hp q, z⟩
      · obtain ⟨v', g1, g2, g3⟩ := r.at_ _ _ et
        refine ⟨g2, fun p hp => ?_⟩
        obtain ⟨y1, y2, y3⟩ := g3 p hp
        refine ⟨y1, colK c' H' mask.length tc _ (by rw [hm]; omega) st ?_ y2, y3.mono (back_gzS pk st) fun _ h => h⟩
        rw [hmk, List.getElem?_append_right (Nat.le_refl _)]; simp
    unfold runT at q
    cases e : F' (startT N.length mask ts ds) with
    | bad => rw [e] at q; exact q.elim
    | exc k ρ' =>
      rw [e] at q
      cases er : recsT mask ts ρ' with
      | none => simp only [endT, endRs, er] at q
      | some ds' =>
        simp only [endT, endRs, er] at q
        exact fun c' σ' H' s kp r => q _ H' (back_extS s) (key ρ' c' σ' H' ds' er s kp r).1 (key ρ' c' σ' H' ds' er s kp r).2
    | ok y ρ' =>
      rw [e] at q
      cases y with
      | bk => exact q.elim
      | ct => exact q.elim
      | rt z => exact q.elim
      | nx =>
        cases er : recsT mask ts ρ' with
        | none => simp only [endT, endRs, er] at q
        | some ds' =>
          simp only [endT, endRs, er] at q
          exact fun c' σ' H' s kp r => q _ H' .non (back_extS s) rfl (key ρ' c' σ' H' ds' er s kp r).1 (key ρ' c' σ' H' ds' er s kp r).2
      | rr z =>
        cases z with
        | fr d =>
          cases er : recsT mask ts ρ' with
          | none => simp only [endT, endRs, er] at q
          | some ds' =>
            simp only [endT, endRs, er] at q
            exact fun c' σ' H' v s kp r rt => q _ H' v (back_extS s) (Den.mono (back_gzS pk s) _ _ rt) (key ρ' c' σ' H' ds' er s kp r).1 (key ρ' c' σ' H' ds' er s kp r).2
        | _ => exact q.elim
structure FnT (P : Program) (w : World) (K : PySem.W.Frag) (mg : Str → Option Value) (base : Heap) (cm : Nat → Addr) (j : Nat) (x : Str) (ts : List (Nat × Str)) (mask : List Bool) (φ : List D → OutR) : Prop where
  ex : ∃ f fd ps, FnOk P w K mg base (L2.CX P w) j f fd ps (spT cm K ts mask φ) ∧ mg x = some (.ref f) ∧ PySem.W.keepIn K (.ref f) = true ∧ Binds K fd ps []
end
/-! calls of such defs -/
def isTab (ts : List (Nat × Str)) : S → Bool | .tab us => decide (us = ts) | _ => false
def callT (t : Nat) (ts : List (Nat × Str)) (mask : List Bool) (φ : List D → OutR) (hs : List Hd) : M Hd := fun ρ => if isTab ts (at_ ρ t) = true then callR mask φ hs ρ else .bad
def eCallT (t : Nat) (ts : List (Nat × Str)) (mask : List Bool) (φ : List D → OutR) (f : M (List Hd)) : M Hd := f >>= fun hs => callT t ts mask φ hs
section
variable {cm : Nat → Addr} {K : PySem.W.Frag} {n : Nat} {W : WX} {c c' c₀ : Col} {H H' H₀ : Hp} {σ : St} {ρ ρ' : List S}
theorem isTab_ok {ts : List (Nat × Str)} {s : S} (h : isTab ts s = true) : s = .tab ts := by
  cases s with
  | tab us => rw [of_decide_eq_true (show decide (us = ts) = true from h)]
  | _ => cases h
theorem pcsT_get {js : List (Option Nat)} {tc i p : Nat} (h : (pcsOf js ++ [some tc])[i]? = some (some p)) : (∃ j, p = j + 1 ∧ js[i]? = some (some j)) ∨ (i = js.length ∧ p = tc) := by
  have lj : (pcsOf js).length = js.length := by unfold pcsOf; rw [List.length_map]
  by_cases hi : i < (pcsOf js).length
  · rw [List.getElem?_append_left hi] at h; exact .inl (pcsOf_get h)
  · rw [List.getElem?_append_right (by omega)] at h
    have hl := (List.getElem?_eq_some_iff.mp h).1
    have : i - (pcsOf js).length = 0 := by simp at hl; omega
    rw [this] at h
    exact .inr ⟨by omega, by simpa using h.symm⟩
theorem call_redT {t : Nat} {ts : List (Nat × Str)} {mask : List Bool} {φ : List D → OutR} {hs : List Hd} {vs : List V} {ρ₀ : List S} {E : XK} {Q : VK} {W : WX} (s0 : Stq n ρ₀ ρ c₀ c H₀ H) (r : Rep cm K n c H ρ σ) (hx : HsOk cm K n H₀ c H σ hs vs) (hE : ∀ k H, W (.ref (cm k)) none σ H → E (.ref (cm k)) none H)
    (q : QR cm K n W (HdOk cm K n) Q ρ₀ c₀ H₀ σ (callT t ts mask φ hs ρ)) : spT cm K ts mask φ vs H Q E := by
  unfold callT at q
  by_cases htb : isTab ts (at_ ρ t) = true
  case neg => rw [if_neg htb] at q; exact q.elim
  rw [if_pos htb] at q
  have hst := at_some (isTab_ok htb) (fun z => nomatch z)
  have htn : t < n := by rw [← r.len]; exact (List.getElem?_eq_some_iff.mp hst).1
  unfold callR at q
  rw [M.bind_run, lift_run] at q
  cases ej : jsOf mask hs with
  | none => rw [ej] at q; exact q.elim
  | some js =>
    rw [ej] at q
    dsimp only at q
    by_cases hd : distJ js = true
    case neg => simp only [guardM, if_neg hd] at q; exact q.elim
    simp only [guardM, if_pos hd] at q
    obtain ⟨hm, ha⟩ := argsD_ok r hx ej
    rw [M.bind_run] at q
    rcases ha with ha | ⟨ds, b1, b2, b3, b4⟩
    · rw [ha] at q; exact q.elim
    rw [b1] at q
    dsimp only at q
    have lj : (pcsOf js).length = js.length := by unfold pcsOf; rw [List.length_map]
    have slotRc : ∀ (i j : Nat), js[i]? = some (some j) → j < n ∧ (∃ p d, ρ[j]? = some (.rc p d)) ∧ ∃ v, vs[i]? = some v ∧ σ[j]? = some (some v) := fun i j e3 => by
      have hi : i < js.length := (List.getElem?_eq_some_iff.mp e3).1
      obtain ⟨⟨p, h1⟩, h2⟩ := b4 i _ _ _ e3 (List.getElem?_eq_getElem (by omega)) (List.getElem?_eq_getElem (by omega))
      exact ⟨by rw [← r.len]; exact (List.getElem?_eq_some_iff.mp h1).1, ⟨p, _, h1⟩, _, List.getElem?_eq_getElem (by omega), h2⟩
    have notT : some t ∉ js := fun h => by
      obtain ⟨i, hi⟩ := List.mem_iff_getElem?.mp h
      obtain ⟨_, ⟨p, d, e⟩, _⟩ := slotRc i t hi
      rw [hst] at e; cases e
    have cols : ∀ p, some p ∈ pcsOf js ++ [some (t + 1)] → (1 ≤ p ∧ p ≤ n) := fun p hp => by
      obtain ⟨i, hi⟩ := List.mem_iff_getElem?.mp hp
      rcases pcsT_get hi with ⟨j, e1, e2⟩ | ⟨_, e2⟩
      · have := (slotRc i j e2).1; omega
      · omega
    have memJ : ∀ k, some (k + 1) ∈ pcsOf js ++ [some (t + 1)] → some k ∈ js ∨ k = t := fun k hp => by
      obtain ⟨i, hi⟩ := List.mem_iff_getElem?.mp hp
      rcases pcsT_get hi with ⟨j, e1, e2⟩ | ⟨_, e2⟩
      · rw [show k = j by omega]; exact .inl (List.mem_of_getElem? e2)
      · exact .inr (by omega)
    have pk : PcOk (mask ++ [true]) (pcsOf js ++ [some (t + 1)]) := by
      have p0 := pcOk_of hd hm
      refine ⟨by rw [List.map_append, p0.msk]; rfl, fun i p hp => ?_, fun i j p h1 h2 => ?_⟩
      · have := cols p (List.mem_of_getElem? hp); omega
      · rcases pcsT_get h1 with ⟨x, e1, e2⟩ | ⟨e1, e2⟩ <;> rcases pcsT_get h2 with ⟨y, e3, e4⟩ | ⟨e3, e4⟩
        · exact distJ_one hd e2 (by rw [show x = y by omega]; exact e4)
        · exact absurd (List.mem_of_getElem? e2) (by rw [show x = t by omega]; exact notT)
        · exact absurd (List.mem_of_getElem? e4) (by rw [show y = t by omega]; exact notT)
        · omega
    obtain ⟨vt, hvt, tinj, tall⟩ := r.at_ t _ hst
    refine ⟨c, ds, pcsOf js, t + 1, by rw [lj, ← hm, List.length_map], pk, ⟨by rw [lj]; exact b2, by rw [lj]; exact b3, fun i pc d v e1 e2 e3 => ?_⟩, ⟨tinj, tall⟩, ?_⟩
    · unfold pcsOf at e1
      rw [List.getElem?_map] at e1
      cases eo : js[i]? with
      | none => rw [eo] at e1; cases e1
      | some jo =>
        rw [eo] at e1
        have a1 := b4 i jo d v eo e2 e3
        cases jo with
        | some j =>
          cases e1
          obtain ⟨⟨p, h1⟩, h2⟩ := a1
          obtain ⟨v', g1, u, g2, g3⟩ := r.at_ j _ h1
          rw [h2] at g1
          cases g1; cases g2
          exact g3
        | none =>
          cases e1
          obtain ⟨h, h1, h2⟩ := a1
          -- what is read is no record, no table
          have gzp : ∀ a o, Gz c H a = some o → Gp (pcsOf js ++ [some (t + 1)]) c H a = some o := fun a o q => by
            obtain ⟨z1, z2⟩ := Gz.to q
            exact Gp.of (fun z => by rw [z1] at z; have := cols 0 z; omega) z2
          show DenX cm K (Gp (pcsOf js ++ [some (t + 1)]) c H) (Gz c H) d v
          cases h with
          | rc j d' => cases h2
          | val d' => cases h2; exact Den.x h1 gzp
          | new d' =>
            cases h2; obtain ⟨a, e, h0, w1, w2⟩ := h1; subst e
            exact w2.rP (fun z => by rw [w1] at z; have := cols _ z; omega)
          | slot i =>
            have e : (at_ ρ i).rd ρ = .ok d ρ := h2
            cases q5 : at_ ρ i with
            | un => rw [q5] at e; cases e
            | tab us => rw [q5] at e; cases e
            | rc p d' => rw [q5] at e; cases e
            | fr d' =>
              rw [q5] at e; cases e
              obtain ⟨_, _, u, w1, w2⟩ := slot_ok r h1 q5 (fun z => nomatch z)
              cases w1; exact w2.x gzp
            | own d' =>
              rw [q5] at e; cases e
              obtain ⟨hi, hs5, a, w1, w2, w3⟩ := slot_ok r h1 q5 (fun z => nomatch z)
              have w2 : c a = i + 1 := w2
              cases w1
              refine w3.rP (fun z => ?_)
              rw [w2] at z
              rcases memJ i z with z | z
              · obtain ⟨i', hi'⟩ := List.mem_iff_getElem?.mp z
                obtain ⟨_, ⟨p, d2, w⟩, _⟩ := slotRc i' i hi'
                rw [hs5] at w; cases w
              · rw [z, hst] at hs5; cases hs5
            | bor d' =>
              rw [q5] at e; cases e
              obtain ⟨_, _, u, w1, w2⟩ := slot_ok r h1 q5 (fun z => nomatch z)
              cases w1
              exact DenX.mono (fun a o q => by
                obtain ⟨z1, z2⟩ := Gb.to q
                exact Gp.of (fun z => by have := cols _ z; omega) z2) (fun _ _ h => h) w2
    · -- behind the call
      have after : ∀ (c' : Col) (H' : Hp) (ds' : List D), ExtS (fun p => some p ∈ pcsOf js ++ [some (t + 1)]) c c' H H' → AsQ cm K (pcsOf js ++ [some (t + 1)]) c' H' ds' vs → TsOk cm (t + 1) c' H' ts → Rep cm K n c' H' (setJs js ds' ρ) σ := fun c' H' ds' ex aq tk => by
        refine ⟨by rw [setJs_len]; exact r.len, r.lenσ, fun k s e => ?_⟩
        by_cases hk : some k ∈ js
        · obtain ⟨i, e3⟩ := List.mem_iff_getElem?.mp hk
          obtain ⟨hkn, ⟨p, d, e4⟩, v, e5, e6⟩ := slotRc i k e3
          have hp : (pcsOf js ++ [some (t + 1)])[i]? = some (some (k + 1)) := by
            rw [List.getElem?_append_left (by rw [lj]; exact (List.getElem?_eq_some_iff.mp e3).1)]
            unfold pcsOf; rw [List.getElem?_map, e3]; rfl
          obtain ⟨d', e7, e8⟩ := aq i (k + 1) v hp e5
          rw [setJs_at hd e3 e7 e4] at e
          cases e
          exact ⟨_, e6, v, rfl, e8⟩
        · rw [setJs_out hk] at e
          by_cases hkt : k = t
          · subst hkt
            rw [hst] at e
            cases e
            exact ⟨vt, hvt, tk.1, tk.2⟩
          · obtain ⟨v, h1, h2⟩ := r.at_ k s e
            refine ⟨v, h1, h2.keep (ex.gz (fun z => by have := cols _ z; omega)) (ex.gb (n := n) cols) fun a o hc ha => (ex a o ha).2 (fun z => ?_)⟩
            rw [hc] at z
            rcases memJ k z with z | z
            · exact hk z
            · exact hkt z
      cases eo : φ ds with
      | bad => rw [eo] at q; exact q.elim
      | exc k ds' =>
        rw [eo] at q
        exact fun c' H' ex aq tk => hE k H' (q c' H' ⟨s0.st.trans (ex.stp cols), fun i t h => s0.kq i t (by rw [tgO_setJs] at h; exact h)⟩ (after c' H' ds' ex aq tk))
      | ret d ds' =>
        rw [eo] at q
        exact fun c' H' v ex hv aq tk => q c' H' v ⟨s0.st.trans (ex.stp cols), fun i t h => s0.kq i t (by rw [tgO_setJs] at h; exact h)⟩ (after c' H' ds' ex aq tk) hv
end
section
variable {cm : Nat → Addr} {X : Cx} {W : WX} {K : PySem.W.Frag} {n : Nat}
theorem sem_callT {tt : Nat} {ts : List (Nat × Str)} {mask : List Bool} {φ : List D → OutR} {t : TA} {f : M (List Hd)} (h : Sem cm K n W (HsOk cm K n) t f) : Sem cm K n W (HdOk cm K n) (tCallS (spT cm K ts mask φ) (WE W) t) (eCallT tt ts mask φ f) := by
  refine Sem.bind (u := fun vs σ H1 Q => spT cm K ts mask φ vs H1 Q (WE W σ)) h ?_
  intro ρ₀ c₀ H₀ a x ρ c σ H Q s0 r0 hx q
  exact call_redT s0 r0 hx (fun _ _ h => h) q
theorem ve_callT {tt j : Nat} {x : Str} {ts : List (Nat × Str)} {mask : List Bool} {φ : List D → OutR} {e : Expr} {es : List Expr} {t : TA} {f : M (List Hd)} {p pos : Pos} (F : FnT X.prog X.w K X.mg X.base cm j x ts mask φ) (hr : Room j X.A) (hx : ∀ σ, PassesAt (L2.CX X.prog X.w) X σ (WE W σ)) (ha : VA cm X W (e :: es) t f) (hK : X.K = K := by rfl)
    (hg : Gl X x := by rfl) (hdb : (x == ("__debug__" : Str)) = false := by decide) (he : starEach (e :: es) X.env = (false, eval e X.env) :: starEach es X.env := by rfl) (hpl : (backTo pos (starEach es X.env)).any (·.1) = false := by rfl) :
    VE cm X W (.Call (.Name x p) (e :: es) [] pos) (tCallS (spT cm K ts mask φ) (WE W) t) (eCallT tt ts mask φ f) := by
  subst hK
  obtain ⟨fa, fd, ps, Fk, hm, hk, hb⟩ := F.ex
  exact ⟨pe_callS Fk hr hg hm hk hb hx ha.pe hdb he hpl, sem_callT ha.sem⟩
theorem pe_callS0 {CX : CXT} {k : Nat} {f : Addr} {fd : FuncData} {ps : List Str} {sp : Sp} {E : St → XK} {x : Str} {p pos : Pos} (F : FnOk X.prog X.w X.K X.mg X.base CX k f fd ps sp) (hr : Room k X.A) (hg : Gl X x) (hm : X.mg x = some (.ref f)) (hk : PySem.W.keepIn X.K (.ref f) = true) (hb : L2.Binds X.K fd ps []) (hx : ∀ σ, PassesAt CX X σ (E σ))
    (hdb : (x == ("__debug__" : Str)) = false := by decide) : PE X (.Call (.Name x p) [] [] pos) (tCallS sp E tNil) := by
  refine ⟨fun pins s σ H Q I h => ?_⟩
  refine wpAny_Call_Name_kw (ld_glob I hg hm ?_ hdb)
  exact PySem.W.callWith_K0 I.kIn hk (run_fnS (us := []) F hr hb (hx σ) I .nil h)
theorem ve_callT0 {tt j : Nat} {x : Str} {ts : List (Nat × Str)} {mask : List Bool} {φ : List D → OutR} {p pos : Pos} (F : FnT X.prog X.w K X.mg X.base cm j x ts mask φ) (hr : Room j X.A) (hx : ∀ σ, PassesAt (L2.CX X.prog X.w) X σ (WE W σ)) (hK : X.K = K := by rfl)
    (hg : Gl X x := by rfl) (hdb : (x == ("__debug__" : Str)) = false := by decide) :
    VE cm X W (.Call (.Name x p) [] [] pos) (tCallS (spT cm K ts mask φ) (WE W) tNil) (eCallT tt ts mask φ eNil) := by
  subst hK
  obtain ⟨fa, fd, ps, Fk, hm, hk, hb⟩ := F.ex
  exact ⟨pe_callS0 Fk hr hg hm hk hb hx hdb, sem_callT va_nil.sem⟩

/-! ### a def that a name holds -/
structure FnL (P : Program) (w : World) (K : PySem.W.Frag) (mg : Str → Option Value) (base : Heap) (cm : Nat → Addr) (j k m : Nat) (φ : List D → Out) : Prop where
  ex : ∃ i fd ps, i ≤ j ∧ FnOk P w K mg base (L2.CX P w) i (cm k) fd ps (spV cm K m φ) ∧ PySem.W.keepIn K (.ref (cm k)) = true ∧ Binds K fd ps []
def clsN : S → Option Nat | .fr (.cls k) => some k | _ => none
def callL (m : Nat) (o : Option (List D → Out)) (f : M (List Hd)) : M Hd := match o with | some φ => eCall m φ f | none => M.bad
def eCallL (i m : Nat) (tab : Nat → Option (List D → Out)) (f : M (List Hd)) : M Hd := fun ρ => match clsN (at_ ρ i) with
  | some k => callL m (tab k) f ρ
  | none => .bad
theorem ve_callL (i n : Nat) {j m : Nat} {x : Str} {tab : Nat → Option (List D → Out)} {e : Expr} {es : List Expr} {t : TA} {f : M (List Hd)} {p pos : Pos} (hT : ∀ k φ, tab k = some φ → FnL X.prog X.w K X.mg X.base cm j k m φ) (hr : Room j X.A) (hx : ∀ σ, PassesAt (L2.CX X.prog X.w) X σ (WE W σ)) (ha : VA cm X W (e :: es) t f)
    (hK : X.K = K := by rfl) (hn : X.N.length = n := by rfl) (hN : X.N[i]? = some x := by rfl) (hv : Vis X.env.scope x := by first | exact Or.inl rfl | exact Or.inr (Or.inl rfl) | exact Or.inr (Or.inr rfl)) (hdb : (x == ("__debug__" : Str)) = false := by decide) (hcd : (x == ("__classdict__" : Str)) = false := by decide)
    (he : starEach (e :: es) X.env = (false, eval e X.env) :: starEach es X.env := by rfl) (hpl : (backTo pos (starEach es X.env)).any (·.1) = false := by rfl) :
    VE cm X W (.Call (.Name x p) (e :: es) [] pos) (tSem cm K n W (eCallL i m tab f)) (eCallL i m tab f) := by
  subst hK
  subst hn
  refine ⟨⟨fun pins s σ H Q I ⟨ρ, c, r, q⟩ => ?_⟩, sem_tSem⟩
  unfold eCallL at q
  cases es : clsN (at_ ρ i) with
  | none => rw [es] at q; exact q.elim
  | some k =>
    rw [es] at q
    dsimp only at q
    have ek : at_ ρ i = .fr (.cls k) := by
      cases z : at_ ρ i with
      | fr d =>
        rw [z] at es
        cases d with
        | cls k' => cases es; rfl
        | _ => cases es
      | _ => rw [z] at es; cases es
    cases et : tab k with
    | none => rw [et] at q; exact q.elim
    | some φ =>
      rw [et] at q
      obtain ⟨i', fd, ps, hij, F, hk, hb⟩ := (hT k φ et).ex
      obtain ⟨v, h1, u, e1, e2⟩ := r.at_ i _ (at_some ek (fun z => nomatch z))
      subst e1
      have e2 : u = .ref (cm k) := e2
      subst e2
      have ht := sem_call (m := m) (φ := φ) ha.sem ρ c σ H Q r q
      refine wpAny_Call_Name_kw (thn ((pe_var (pos := p) hN hv hdb hcd).run pins s σ H (fun v H1 => v = .ref (cm k) ∧ H1 = H) I ⟨.ref (cm k), h1, rfl, rfl⟩) fun u s1 ⟨v, H1, I1, r1, q1⟩ => ?_)
      obtain ⟨rfl, rfl⟩ := q1
      cases r1
      refine PySem.W.callWith_K (h₀ := X.base) I.ok.mod.kin hk (thn (ha.pe.run pos pins s1 σ _ _ I1 ht) fun us s2 ⟨vs, H2, I2, r, q⟩ => ⟨I2.kIn, ?_⟩) he hpl
      exact run_fnS F (hr.mono hij) hb (hx σ) I2 r q
def lkL : List (Nat × (List D → Out)) → Nat → Option (List D → Out)
  | [], _ => none
  | p :: r, k => if k = p.1 then some p.2 else lkL r k
theorem lkL_ok {P : Program} {w : World} {mg : Str → Option Value} {base : Heap} {j m : Nat} : ∀ {l : List (Nat × (List D → Out))}, (∀ p ∈ l, FnL P w K mg base cm j p.1 m p.2) → ∀ k φ, lkL l k = some φ → FnL P w K mg base cm j k m φ
  | [], _, k, φ, h => by cases h
  | p :: r, hl, k, φ, h => by
    unfold lkL at h
    by_cases e : k = p.1
    · rw [if_pos e] at h; cases h; rw [e]; exact hl p List.mem_cons_self
    · rw [if_neg e] at h; exact lkL_ok (fun q hq => hl q (List.mem_cons_of_mem _ hq)) k φ h
theorem FnL.up {P : Program} {w : World} {mg : Str → Option Value} {base : Heap} {i j k m : Nat} {φ : List D → Out} (F : FnL P w K mg base cm i k m φ) (h : i ≤ j) : FnL P w K mg base cm j k m φ := by
  obtain ⟨i', fd, ps, h1, r⟩ := F.ex
  exact ⟨i', fd, ps, Nat.le_trans h1 h, r⟩
/-! ### the law's start -/
def spLawT (K : PySem.W.Frag) (cs : List (Addr × Addr)) : Sp := fun vs H Q _ => ∃ (a : Addr) (ns : List Int), vs = [.ref a] ∧ SqL K H a (ns.map V.int) ∧ ns.length ≤ 63 ∧ (∀ z ∈ ns, Builtin.Int.intBits z ≤ 1048576) ∧ (∀ p ∈ cs, H p.2 = some (.tbl #[])) ∧ ∀ H', Q (.bl true) H'
theorem law_impT {ts : List (Nat × Str)} {cs : List (Addr × Addr)} {φ : List D → OutR} (hcs : ∀ p ∈ ts, cm p.1 ∈ cs.map (·.2)) (inj : ∀ p ∈ ts, ∀ q ∈ ts, cm p.1 = cm q.1 → p = q) (nz : ∀ p ∈ ts, p.1 ≠ 0) (hl : ∀ ns : List Int, ns.length ≤ 63 → (∀ z ∈ ns, Builtin.Int.intBits z ≤ 1048576) → φ [.scr ns] = .ret (.bl true) [.non])
    {vs : List V} {H : Hp} {Q : VK} {E : XK} (h : spLawT K cs vs H Q E) : spT cm K ts [false] φ vs H Q E := by
  obtain ⟨a, ns, ev, hs, h1, h2, hT, k⟩ := h
  have isT : ∀ b, b ∈ cs.map (·.2) → H b = some (.tbl #[]) := fun b hb => by
    obtain ⟨p, hp, e⟩ := List.mem_map.mp hb
    rw [← e]; exact hT p hp
  refine ⟨fun b => if b ∈ cs.map (·.2) then 1 else 0, [.scr ns], [none], 1, rfl, ⟨rfl, fun i p h => ?_, fun i j p h1 h2 => ?_⟩, ⟨rfl, by rw [ev]; rfl, fun i pc d v e1 e2 e3 => ?_⟩, ⟨inj, fun p hp => ⟨nz p hp, if_pos (hcs p hp), #[], isT _ (hcs p hp), True.intro, fun pos cv hc => ?_⟩⟩, ?_⟩
  · match i, h with
    | 0, h => cases h
    | 1, h => cases h; decide
    | i + 2, h => simp at h
  · match i, j, h1, h2 with
    | 0, _, h1, _ => cases h1
    | 1, 0, _, h2 => cases h2
    | 1, 1, _, _ => rfl
    | 1, j + 2, _, h2 => simp at h2
    | i + 2, _, h1, _ => simp at h1
  · match i, e1 with
    | 0, e1 =>
      cases e1
      have e2 : D.scr ns = d := by simpa using e2
      subst e2
      rw [ev] at e3
      have e3 : V.ref a = v := by simpa using e3
      subst e3
      refine ⟨a, rfl, ?_⟩
      rcases hs with q | q
      · refine .inl ?_
        rcases q with q | ⟨o, q⟩
        · exact .inl (Gz.of (if_neg (fun z => by rw [isT a z] at q; cases q)) q)
        · exact .inr ⟨o, Gz.of (if_neg (fun z => by rw [isT a z] at q; cases q)) q⟩
      · exact .inr q
    | i + 1, e1 => simp at e1
  · have z : codeAmong pos [] = some cv := hc
    simp [codeAmong] at z
  · rw [hl ns h1 h2]
    exact fun c' H' v _ hv _ _ => by cases (show v = .bl true from hv); exact k H'
theorem inj_nd {ts : List (Nat × Str)} (h : (ts.map fun p => cm p.1).Nodup) : ∀ p ∈ ts, ∀ q ∈ ts, cm p.1 = cm q.1 → p = q := by
  induction ts with
  | nil => exact fun p hp => nomatch hp
  | cons a r ih =>
    rw [List.map_cons, List.nodup_cons] at h
    intro p hp q hq e
    rcases List.mem_cons.mp hp with h1 | h1 <;> rcases List.mem_cons.mp hq with h2 | h2
    · rw [h1, h2]
    · exact absurd (List.mem_map.mpr ⟨q, h2, by rw [← e, h1]⟩) h.1
    · exact absurd (List.mem_map.mpr ⟨p, h1, by rw [e, h2]⟩) h.1
    · exact ih h.2 p h1 q h2 e
end
end Vi

/-! ## ViInt -/
set_option Elab.async false
set_option linter.all false
set_option maxRecDepth 100000
set_option maxHeartbeats 1600000
namespace Vi
open PySem L2 PyProof.Rows
/-! ### int(flag), xs.pop(i) -/
def intD : D → Option Hd
  | .int i => some (.val (.int i))
  | .bl b => some (.val (.int (if b then 1 else 0)))
  | _ => none
section
variable {cm : Nat → Addr} {X : Cx} {K : PySem.W.Frag} {n : Nat} {W : WX}
theorem s_int : CallS cm K n (fun xs H Q => (∃ i, xs = [.int i] ∧ Q (.int i) H) ∨ ∃ k, xs = [.bl k] ∧ Q (.int (if k then 1 else 0)) H) (f1 intD) := calls1 fun c H d v hh Q hd hg k => by
  cases d with
  | int i =>
    cases hg
    have hv : v = .int i := hd
    subst hv
    exact .inl ⟨i, rfl, k c H _ Ext.refl rfl⟩
  | bl b =>
    cases hg
    have hv : v = .bl b := hd
    subst hv
    exact .inr ⟨b, rfl, k c H _ Ext.refl rfl⟩
  | _ => cases (show none = some hh from hg)
theorem DenL.erase {G : Hp} : ∀ {xs : List D} {vs : List V} (k : Nat), DenL cm K G xs vs → DenL cm K G (xs.eraseIdx k) (vs.eraseIdx k)
  | [], vs, k, h => by cases (show vs = [] from h); exact rfl
  | x :: xs, vs, 0, h => by obtain ⟨v, t, rfl, _, h2⟩ := h; exact h2
  | x :: xs, vs, k + 1, h => by obtain ⟨v, t, rfl, h1, h2⟩ := h; exact ⟨v, _, rfl, h1, DenL.erase k h2⟩
def ixP (j : Int) (n : Nat) : Option Nat := if 0 ≤ j ∧ j < n ∧ n ≤ 1000 then some j.toNat else none
theorem ixP_some {j : Int} {n k : Nat} (h : ixP j n = some k) : -(2 ^ 63) ≤ j ∧ j < 2 ^ 63 ∧ seqIndex? j n = some k := by
  unfold ixP at h
  by_cases q : 0 ≤ j ∧ j < n ∧ n ≤ 1000
  case neg => rw [if_neg q] at h; cases h
  rw [if_pos q] at h
  cases h
  refine ⟨by omega, by omega, ?_⟩
  unfold seqIndex?
  have a1 : ¬ j < 0 := by omega
  simp [a1, q.1, q.2.1]
def ePopAt (i : Nat) (f : M Hd) : M Hd := getOwn i >>= fun _ => f >>= fun h => rd h >>= fun d => M.lift (int? d) >>= fun j => getOwn i >>= fun xs =>
  M.lift (ixP j xs.length) >>= fun k => M.lift xs[k]? >>= fun y => setOwn i (xs.eraseIdx k) >>= fun _ => pure (.val y)
theorem ve_popAt (i : Nat) {x : Str} {e : Expr} {te : TE} {f : M Hd} {p apos pos : Pos} (h : VE cm X W e te f) (hpe : PE X (.Call (.Attribute (.Name x p) "pop" apos) [e] [] pos) (tBM X.K "list" rPopAt (tVar i) (tCons te tNil))) :
    VE cm X W (.Call (.Attribute (.Name x p) "pop" apos) [e] [] pos) (tBM X.K "list" rPopAt (tVar i) (tCons te tNil)) (ePopAt i f) := ⟨hpe, by
  intro ρ c σ H Q r q
  unfold ePopAt at q
  rw [M.bind_run] at q
  rcases getOwn_ok (i := i) r with e | ⟨xs, a, vs, e, hi, hs, ha, hc, hH, dl⟩
  · rw [e] at q; exact q.elim
  rw [e] at q
  refine ⟨_, ha, .inl ⟨rfl, vs, SqL.of hH⟩, ?_⟩
  refine h.sem ρ c σ H _ r ?_
  dsimp only at q
  rw [M.bind_run] at q
  cases ef : f ρ with
  | exc k ρ' => rw [ef] at q; exact q
  | bad => rw [ef] at q; exact q
  | ok hh ρ1 =>
    rw [ef] at q
    intro c1 H1 y s1 r1 hy
    dsimp only at q
    obtain ⟨d, ed, q⟩ := rd_bind (P := QR cm X.K X.N.length W (HdOk cm X.K X.N.length) Q ρ c H σ) QR.nobad q
    have dr := (rd_ok r1 hy ed).2
    rw [M.bind_run, lift_run] at q
    cases d with
    | int j =>
      have hv : y = .int j := dr
      have q : QR cm X.K X.N.length W (HdOk cm X.K X.N.length) Q ρ c H σ ((getOwn i >>= fun xs => M.lift (ixP j xs.length) >>= fun k => M.lift xs[k]? >>= fun y => setOwn i (xs.eraseIdx k) >>= fun _ => pure (Hd.val y)) ρ1) := q
      rw [M.bind_run] at q
      rcases getOwn_ok (i := i) r1 with e2 | ⟨xs2, a2, vs2, e2, hi2, hs2, ha2, hc2, hH2, dl2⟩
      · rw [e2] at q; exact q.elim
      rw [e2] at q
      dsimp only at q
      rw [ha] at ha2
      cases ha2
      have hl := dl2.length
      rw [M.bind_run, lift_run] at q
      cases ek : ixP j xs2.length with
      | none => rw [ek] at q; exact q.elim
      | some k =>
        obtain ⟨z1, z2, ek2⟩ := ixP_some ek
        rw [ek] at q
        dsimp only at q
        rw [M.bind_run, lift_run] at q
        cases ez : xs2[k]? with
        | none => rw [ez] at q; exact q.elim
        | some d =>
          rw [ez] at q
          obtain ⟨v, hv2, dv⟩ := dl2.get ez
          refine ⟨a, vs2, j, k, v, rfl, by rw [hv], hH2, z1, z2, by rw [← hl]; exact ek2, hv2, ?_⟩
          exact own_end (h := .val d) (v := v) s1 r1 hs2 ha hc2 hi hH2 (dl2.erase k) (fun _ _ _ => trivial) q (Den.mono (gz_write (by omega)) _ _ dv)
    | _ => exact q.elim⟩
theorem wpopAtK (K : PySem.W.Frag) (i : Nat) {x : Str} {e : Expr} {te : TE} {f : M Hd} {p apos pos : Pos} (h : VE cm X W e te f) (hK : X.K = K := by rfl) (hN : X.N[i]? = some x := by rfl) (hv : Vis X.env.scope x := by first | exact Or.inl rfl | exact Or.inr (Or.inl rfl) | exact Or.inr (Or.inr rfl)) (hd : (x == ("__debug__" : Str)) = false := by decide)
    (hcd : (x == ("__classdict__" : Str)) = false := by decide) (h0 : attributeBase (.Name x p) "pop" X.env (eval (.Name x p) X.env) = eval (.Name x p) X.env := by rfl)
    (h1 : ((((backTo pos (starEach [e] X.env)).all (!·.1)) && ((backToKw pos (keywordEach [] X.env)).all (·.1.isSome))) && decide (([e].length + ([] : List Keyword).length + if ([] : List Keyword).isEmpty = true then 0 else 1) < 30)) = true := by rfl)
    (h2 : (apos.endLine == pos.line) = true := by rfl) (h3 : starEach [e] X.env = (false, eval e X.env) :: starEach [] X.env := by rfl) :
    VE cm X W (.Call (.Attribute (.Name x p) "pop" apos) [e] [] pos) (tBM K "list" rPopAt (tVar i) (tCons te tNil)) (ePopAt i f) := by
  subst hK
  exact ve_popAt i h (pe_bm PySem.F.plainAttrs_list PySem.F.slot_list_pop PySem.F.type_list_pop mt_popAt (pe_var hN hv hd hcd) (pa_cons h.pe pa_nil h3) h0 h1 h2 h3 rfl)
end
end Vi

/-! ## ViEnT -/
set_option Elab.async false
set_option linter.all false
set_option maxRecDepth 100000
set_option maxHeartbeats 1600000
namespace Vi
open PySem L2 PyProof.Rows
/-! ### enumerate(text) -/
def Iteu (x : Str) : It := ⟨fun i _ => i < x.cps.size, fun i H v H' => ∃ T c, x.cps[i]? = some c ∧ v = .ref T ∧ H T = none ∧ H' = upd H T (.tup [.int (i : Nat), .str ⟨#[c]⟩]), fun i _ => x.cps.size ≤ i⟩
theorem turn_enumT {P : Program} {w : World} {K : PySem.W.Frag} {elts : List Expr} {kk : Nat} {tpos : Pos} (e it : Addr) (hne : e ≠ it) (x : Str) (t : Tok) (ty : String) (hty : ty = "str_ascii_iterator" ∨ ty = "str_iterator") :
    Turn P w K (.Tuple elts kk tpos) (Iteu x) [e, it] e (fun i h => (∃ old, IsEnum h e it ((i : Nat) : Int) old) ∧ h.IsStrIter it ty x t i ∧ i ≤ x.cps.size) where
  mem := by simp
  obj := fun i h st b hb => by
    obtain ⟨⟨old, he⟩, ⟨o, ho, hc, hd⟩, _⟩ := st
    have e' : b = e ∨ b = it := by simpa using hb
    rcases e' with z | z
    · rw [z]; exact ⟨_, he, fun v q => nomatch q⟩
    · rw [z]; exact ⟨o, ho, fun v q => by rw [hd] at q; cases q⟩
  keep := fun i h h' st k => let ⟨⟨old, he⟩, ⟨o, ho, r⟩, hi⟩ := st; ⟨⟨old, k e (by simp) _ he⟩, ⟨o, k it (by simp) o ho, r⟩, hi⟩
  item := by
    intro X hP hw hK hc i pins s σ H E I hf st hg
    subst hP hw hK
    obtain ⟨⟨old, he⟩, hit, hi⟩ := st
    have hg : i < x.cps.size := hg
    have D : Draws X.prog X.w X.A.in1 it [it] x.cps.size (fun i v => ∃ c u, x.cps[i]? = some c ∧ v = .str ⟨#[c]⟩ u) (fun i h => h.IsStrIter it ty x t i) := by
      rcases hty with z | z
      · rw [z]; exact Draws.strAscii (A := X.A.in1) (I.ok.hd hc) it x t
      · rw [z]; exact Draws.strWide (A := X.A.in1) (I.ok.hd hc) it x t
    have hel : e < s.heap.objs.size := Heap.lt_size he
    have hil : it < s.heap.objs.size := by obtain ⟨_, q, _⟩ := hit; exact Heap.lt_size q
    refine wpAny_pyNext_enum_itemD D he hit hg hne (by simpa using hne) fun v h' tk hv ho hit' hT hsz hk => ?_
    obtain ⟨c, u, hcx, rfl⟩ := hv
    refine ⟨_, rfl, wpAny_letOwnedTupleGo_enum (s := { s with heap := h', toks := tk + 1 }) ho fun h'' he' sb => ?_⟩
    have hT2 : h''.get? s.heap.objs.size = some { cls := .type "tuple", data := .seq #[.int i tk, .str ⟨#[c]⟩ u] } := (sb.2 _ (Nat.ne_of_gt hel)).trans hT
    have new : ObjOk X.prog X.w (upd H s.heap.objs.size (.tup [.int (i : Nat), .str ⟨#[c]⟩])) h'' s.heap.objs.size (.tup [.int (i : Nat), .str ⟨#[c]⟩]) :=
      ⟨by show 2 ≤ sizeLine; decide, [.int i tk, .str ⟨#[c]⟩ u], .cons ⟨_, rfl⟩ (.cons ⟨_, rfl⟩ .nil), ⟨_, hT2, rfl, _, rfl⟩⟩
    have I1 : Inv X pins σ (upd H s.heap.objs.size (.tup [.int (i : Nat), .str ⟨#[c]⟩])) { s with heap := h'', toks := tk + 1 } :=
      I.turnedNew (ch := [e, it]) (fun b ob hb q => (sb.2 b (fun z => hb (by simp [z]))).trans (hk b ob (fun z => hb (by simp [z])) (fun z => hb (by simp [z])) q)) hf (Nat.le_refl _) new
    refine ⟨.ref s.heap.objs.size, _, I1, rfl, ⟨_, c, hcx, rfl, I.hok.fresh (Nat.le_refl _), rfl⟩, ⟨⟨.str ⟨#[c]⟩ u, ?_⟩, D.frame _ _ _ hit' fun b hb o q => (sb.2 b (fun z => hne (z ▸ (by simpa using hb)))).trans q, hg⟩, fun b hb => ?_⟩
    · have e1 : ((i + 1 : Nat) : Int) = (i : Int) + 1 := by omega
      rw [e1]; exact he'
    · have hb' : b < s.heap.objs.size := by
        have e' : b = e ∨ b = it := by simpa using hb
        rcases e' with z | z
        · rw [z]; exact hel
        · rw [z]; exact hil
      rw [upd_ne (Nat.ne_of_lt hb')]
      exact (hf b hb).1
  done := by
    intro X hP hw hK hc i pins s σ H E I hf st hg
    subst hP hw hK
    obtain ⟨⟨old, he⟩, hit, hi⟩ := st
    have hg : x.cps.size ≤ i := hg
    have ei : i = x.cps.size := by omega
    subst ei
    obtain ⟨f0, f1, f2, f3, f4, f5⟩ := hf it (by simp)
    have D : Draws X.prog X.w X.A.in1 it [it] x.cps.size (fun i v => ∃ c u, x.cps[i]? = some c ∧ v = .str ⟨#[c]⟩ u) (fun i h => h.IsStrIter it ty x t i) := by
      rcases hty with z | z
      · rw [z]; exact Draws.strAscii (A := X.A.in1) (I.ok.hd hc) it x t
      · rw [z]; exact Draws.strWide (A := X.A.in1) (I.ok.hd hc) it x t
    exact wpAny_pyNext_enum_endD D he hit fun h' eb => ⟨rfl, I.turned (t' := s.toks) (fun b o hb q => eb b o hb q) f0 f1 f3 f4 f5⟩
  self := fun A i s Q E st h => let ⟨⟨_, he⟩, _⟩ := st; wpAny_pyIter_enum he h
def iEnumT (ta : TA) : TI := fun σ H R => ta σ H fun vs H1 => ∃ x, vs = [.str x] ∧ R (Iteu x) H1
theorem pi_enumT {X : Cx} {e : Expr} {ta : TA} {p pos tpos : Pos} {elts : List Expr} {kk : Nat} (hg : Gl X "enumerate") (hm : X.mg "enumerate" = none) (ha : PA X [e] ta) (hs : starEach [e] X.env = [(false, eval e X.env)] := by rfl) :
    PI X (.Tuple elts kk tpos) (.Call (.Name "enumerate" p) [e] [] pos) (iEnumT ta) := by
  refine ⟨fun pins s σ H R I h => ?_⟩
  refine Call_ (ld_blt I hg hm boot_enumerate (PyProof.Rows.callWith_type1 (thn (ha.run pos pins s σ H _ I h) fun us s1 ⟨vs, H1, I1, r1, q1⟩ => ?_) hs rfl))
  obtain ⟨x, ex, q⟩ := q1
  subst ex
  cases r1 with
  | cons r rr =>
    cases rr
    obtain ⟨t, rfl⟩ := r
    refine call_enumerate_str fun h' he hit hsz hk => wpAny_pyIter_enum he ?_
    have I2 : Inv X pins σ H1 { s1 with heap := h' } := I1.kept (t' := s1.toks) hk
    have hty : strIterType x = "str_ascii_iterator" ∨ strIterType x = "str_iterator" := by
      unfold strIterType
      split
      · exact .inl rfl
      · exact .inr rfl
    refine ⟨s1.heap.objs.size + 1, [s1.heap.objs.size + 1, s1.heap.objs.size], _, _, H1, rfl, I2, turn_enumT (s1.heap.objs.size + 1) s1.heap.objs.size (Nat.succ_ne_self _) x t _ hty, ⟨⟨.none, he⟩, hit, Nat.zero_le _⟩, fun b hb => ?_, q⟩
    have e' : b = s1.heap.objs.size + 1 ∨ b = s1.heap.objs.size := by simpa using hb
    have hle : s1.heap.objs.size ≤ b := by
      rcases e' with z | z
      · rw [z]; exact Nat.le_add_right _ _
      · rw [z]; exact Nat.le_refl _
    exact I1.fpOk hle (I1.hok.fresh hle)
def txtOf : D → Option (List Nat) | .str s => some s | _ => none
def enT (o : Option (List Nat)) : M (List D × Option Nat) := fun ρ => match o with
  | some s => .ok (enumD 0 (s.map fun c => .str [c]), none) ρ
  | none => .bad
def itEnumT (f : M Hd) : M (List D × Option Nat) := f >>= fun h => rd h >>= fun d => enT (txtOf d)
section
variable {cm : Nat → Addr} {X : Cx} {W : WX} {K : PySem.W.Frag} {n : Nat} {c c' : Col} {H H' : Hp}
theorem wlk_enumT {s : List Nat} : Wlk cm K n (Iteu ⟨s.toArray⟩) (enumD 0 (s.map fun c => .str [c])) c H := by
  intro c1 H1 st i
  refine ⟨fun e => ?_, fun d e => ?_⟩
  · show s.toArray.size ≤ i
    rw [enum_len, List.length_map] at e
    rw [List.size_toArray]; omega
  · obtain ⟨x, hx, ed⟩ := enum_get e
    rw [List.getElem?_map] at hx
    cases q : s[i]? with
    | none => rw [q] at hx; cases hx
    | some z =>
      rw [q] at hx
      have hx : D.str [z] = x := Option.some.inj hx
      subst hx ed
      refine ⟨?_, fun v H2 hy => ?_⟩
      · show i < s.toArray.size
        simpa using (List.getElem?_eq_some_iff.mp q).1
      · obtain ⟨T, y, e2, e1, e3, e4⟩ := hy
        have e2 : s.toArray[i]? = some y := e2
        rw [List.getElem?_toArray, q] at e2
        cases e2
        subst e1 e4
        refine ⟨cset c1 T 0, Ext.alloc e3, den_new_tup e3 ⟨.int ((0 + i : Nat) : Int), [.str ⟨#[z]⟩], ?_, rfl, .str ⟨#[z]⟩, [], rfl, rfl, rfl⟩⟩
        rw [Nat.zero_add]
theorem sem_itEnumT {te : TE} {f : M Hd} (h : Sem cm K n W (HdOk cm K n) te f) : SemI cm K n W (iEnumT (tCons te tNil)) (itEnumT f) := by
  intro ρ c σ H Rw r q
  refine h ρ c σ H _ r ?_
  unfold itEnumT at q
  rw [M.bind_run] at q
  cases e : f ρ with
  | bad => rw [e] at q; exact q.elim
  | exc k ρ1 => rw [e] at q; exact q
  | ok hd ρ1 =>
    rw [e] at q
    intro c1 H1 x s1 r1 hx
    obtain ⟨d, e1, q⟩ := rd_bind (P := QI cm K n W Rw ρ c H σ) (fun h => h) q
    have dr := (rd_ok r1 hx e1).2
    cases d with
    | str s =>
      have dr : x = .str ⟨s.toArray⟩ := dr
      have q : QI cm K n W Rw ρ c H σ (.ok (enumD 0 (s.map fun c => .str [c]), none) ρ1) := q
      exact ⟨_, by rw [dr], q c1 H1 _ s1 r1 wlk_enumT⟩
    | _ => exact q.elim
theorem vi_enumT {e : Expr} {te : TE} {f : M Hd} {p pos tpos : Pos} {elts : List Expr} {kk : Nat} (hm : X.mg "enumerate" = none) (h : VE cm X W e te f) (hg : Gl X "enumerate" := by rfl) (hs : starEach [e] X.env = [(false, eval e X.env)] := by rfl) :
    VI cm X W (.Tuple elts kk tpos) (.Call (.Name "enumerate" p) [e] [] pos) (iEnumT (tCons te tNil)) (itEnumT f) :=
  ⟨pi_enumT hg hm (pa_cons h.pe pa_nil hs) hs, sem_itEnumT h.sem⟩
end
@[simp] theorem itEnumT_str {f : M Hd} {s : List Nat} {ρ : List S} (h : f ρ = .ok (.val (.str s)) ρ) : itEnumT f ρ = .ok (enumD 0 (s.map fun c => .str [c]), none) ρ := by
  unfold itEnumT
  rw [M.bind_run, h]; rfl
end Vi

/-! ## ViKey -/
set_option Elab.async false
set_option linter.all false
set_option maxRecDepth 100000
set_option maxHeartbeats 1600000
namespace Vi
open PySem L2
theorem u1 {u : Nat} (h : u + 64 < cLine) : u + 1 < cLine := by omega
/-! ### dicts of a name's own whose entries are changed: the keys are there from the start -/
def kAt (f : List Nat) : D → Option D
  | .dic ks xs => (nIdx f ks).bind fun j => xs[j]?
  | _ => none
def kStl (f : List Nat) (d : D) : Option D := stillO (kAt f d)
def kLst (f : List Nat) (d : D) : Option (List D) := lstO (kAt f d)
def kPut (f : List Nat) (x : D) : D → Option D
  | .dic ks xs => if ks.length < 900 ∧ ks.Nodup then (nIdx f ks).map fun j => .dic ks (xs.set j x) else none
  | _ => none
theorem kys_get {f : List Nat} : ∀ {ks : List (List Nat)} {vs : List V} {j : Nat}, nIdx f ks = some j → ks.length = vs.length → valV (kys ks vs) (Sum.inr ⟨f.toArray⟩) = vs[j]?
  | [], vs, j, h, _ => by cases h
  | k :: ks, [], j, h, l => by cases l
  | k :: ks, v :: vs, j, h, l => by
    have l : ks.length = vs.length := by simpa using l
    have e : kys (k :: ks) (v :: vs) = ((Sum.inr ⟨k.toArray⟩ : Key), v) :: kys ks vs := rfl
    rw [e]
    unfold nIdx at h
    by_cases q : f = k
    · rw [if_pos q] at h
      cases h
      subst q
      exact valV_pos rfl
    · rw [if_neg q] at h
      cases g : nIdx f ks with
      | none => rw [g] at h; cases h
      | some i =>
        rw [g] at h
        cases h
        rw [valV_neg (fun z => q (str_mk.mp (Sum.inr.inj z)).symm), kys_get g l]
        rfl
section
variable {cm : Nat → Addr} {K : PySem.W.Frag} {n : Nat} {c c' c₀ : Col} {H H' H₀ G : Hp} {σ : L2.St} {ρ ρ' : List S} {P : Addr → Prop}
theorem kAt_ok {f : List Nat} {d x : D} {u : V} (h : kAt f d = some x) (r : RecC cm K G H P u d) :
    ∃ ks xs j a vs v, d = .dic ks xs ∧ nIdx f ks = some j ∧ xs[j]? = some x ∧ u = .ref a ∧ P a ∧ ks.length = vs.length ∧ H a = some (.dK (kys ks vs)) ∧ valV (kys ks vs) (Sum.inr ⟨f.toArray⟩) = some v ∧ vs[j]? = some v ∧ FOk cm K G H P x v ∧ Flds cm K G H P xs vs := by
  obtain ⟨a, xs, vs, e, p, hd, fl⟩ := r
  cases d with
  | dic ks ys =>
    obtain ⟨e1, e2, e3⟩ := hd
    subst e1
    have h : (nIdx f ks).bind (fun j => xs[j]?) = some x := h
    cases ej : nIdx f ks with
    | none => rw [ej] at h; cases h
    | some j =>
      rw [ej] at h
      have h : xs[j]? = some x := h
      obtain ⟨v, hv, fo⟩ := fl.get h
      exact ⟨ks, xs, j, a, vs, v, rfl, ej, h, e, p, e2, e3, by rw [kys_get ej e2]; exact hv, hv, fo, fl⟩
  | _ => cases h
theorem kPut_in {f : List Nat} {d d' : D} {ys ys' : List D} {u : V} (h0 : kLst f d = some ys) (h : kPut f (.lst ys') d = some d') (r : RecC cm K G H P u d) :
    ∃ b us a kvs, u = .ref a ∧ H a = some (.dK kvs) ∧ valV kvs (Sum.inr ⟨f.toArray⟩) = some (.ref b) ∧ P b ∧ H b = some (.lst us) ∧ DenL cm K G ys us ∧ ∀ us', DenL cm K G ys' us' → RecC cm K G (upd H b (.lst us')) P u d' := by
  obtain ⟨ks, xs, j, a, vs, v, e1, e3, e4, e5, e6, e7, e8, e9, e10, fo, fl⟩ := kAt_ok (lstO_some h0) r
  obtain ⟨b, us, q1, q2, q3, q4⟩ := (show FOk cm K G H P (.lst ys) v from fo)
  subst e1 q1
  have h : (if ks.length < 900 ∧ ks.Nodup then (nIdx f ks).map (fun j => D.dic ks (xs.set j (.lst ys'))) else none) = some d' := h
  by_cases q : ks.length < 900 ∧ ks.Nodup
  case neg => rw [if_neg q] at h; cases h
  rw [if_pos q, e3] at h
  have h : D.dic ks (xs.set j (.lst ys')) = d' := Option.some.inj h
  subst h
  refine ⟨b, us, a, _, e5, e8, e9, q2, q3, q4, fun us' dn => ⟨a, xs.set j (.lst ys'), vs, e5, e6, ⟨rfl, e7, ?_⟩, fl.inl (us := us) e4 e10 q2 dn⟩⟩
  rw [upd_ne (fun z => by rw [z, q3] at e8; cases e8)]; exact e8
end
/-- a key: a text that stands still -/
structure VKy (cm : Nat → Addr) (X : Cx) (e : Expr) (te : TE) (g : List S → Option (List Nat)) : Prop where
  pe : PE X e te
  ns : NoSl e
  sem : ∀ ρ c σ H (Q : VK) s, Rep cm X.K X.N.length c H ρ σ → g ρ = some s → Q (V.str ⟨s.toArray⟩) H → te σ H Q
def strO : D → Option (List Nat) | .str s => some s | _ => none
def yC (s : List Nat) : List S → Option (List Nat) := fun _ => some s
def yVar (i : Nat) : List S → Option (List Nat) := fun ρ => (frO (at_ ρ i)).bind strO
def oKs (i : Nat) (y : List S → Option (List Nat)) : List S → Option D := fun ρ => (y ρ).bind fun f => (rcOf (at_ ρ i)).bind (kStl f)
def oKl (i : Nat) (y : List S → Option (List Nat)) : List S → Option (List D) := fun ρ => (y ρ).bind fun f => (rcOf (at_ ρ i)).bind (kLst f)
def oKp (i : Nat) (y : List S → Option (List Nat)) : List S → List D → Option D := fun ρ ys => (y ρ).bind fun f => (rcOf (at_ ρ i)).bind (kPut f (.lst ys))
def eKy (i : Nat) (y : List S → Option (List Nat)) : M Hd := fun ρ => match oKs i y ρ with | some x => .ok (.val x) ρ | none => .bad
section
variable {cm : Nat → Addr} {X : Cx} {W : WX} {K : PySem.W.Frag} {n : Nat}
theorem vky_c (s : List Nat) {x : Str} {j pos} (h : x = ⟨s.toArray⟩ := by rfl) (hs : NoSl (.Constant (.str x) j pos) := by exact fun _ _ => rfl) : VKy cm X (.Constant (.str x) j pos) (tC (.str x)) (yC s) :=
  ⟨pe_str, hs, fun ρ c σ H Q s' r e q => by cases e; subst h; exact q⟩
theorem vky_var (i : Nat) {x : Str} {pos : Pos} (hN : X.N[i]? = some x := by rfl) (hv : Vis X.env.scope x := by first | exact Or.inl rfl | exact Or.inr (Or.inl rfl) | exact Or.inr (Or.inr rfl)) (hd : (x == ("__debug__" : Str)) = false := by decide)
    (hcd : (x == ("__classdict__" : Str)) = false := by decide) (hs : NoSl (.Name x pos) := by exact fun _ _ => rfl) : VKy cm X (.Name x pos) (tVar i) (yVar i) := ⟨pe_var hN hv hd hcd, hs, fun ρ c σ H Q s r e q => by
  unfold yVar at e
  cases es : at_ ρ i with
  | fr d' =>
    rw [es] at e
    obtain ⟨v, h1, u, e1, e2⟩ := r.at_ i _ (at_some es (fun z => nomatch z))
    subst e1
    cases d' with
    | str s' =>
      have e : some s' = some s := e
      have e : s' = s := Option.some.inj e
      subst e
      have e2 : u = .str ⟨s'.toArray⟩ := e2
      subst e2
      exact ⟨_, h1, q⟩
    | _ => cases (show (none : Option (List Nat)) = some s from e)
  | _ => rw [es] at e; cases e⟩
theorem key_red {y : List S → Option (List Nat)} {ek : Expr} {tk : TE} {i : Nat} {c : Col} {H : Hp} {ρ : List S} {σ : L2.St} {P : Addr → Prop} {G : Hp} {f : List Nat} {d x : D} {u : V} {Q : VK} (hk : VKy cm X ek tk y) (rp : Rep cm X.K X.N.length c H ρ σ) (hy : y ρ = some f) (hv : σ[i]? = some (some u)) (h : kAt f d = some x) (r : RecC cm K G H P u d) (q : ∀ v, FOk cm K G H P x v → Q v H) : tDGet (tVar i) tk σ H Q := by
  obtain ⟨ks, xs, j, a, vs, v, e1, e3, e4, e5, e6, e7, e8, e9, e10, fo, fl⟩ := kAt_ok h r
  refine ⟨u, hv, hk.sem ρ c σ H _ f rp hy ?_⟩
  exact ⟨a, v, e5, by rw [← e9]; exact DGet.k (k := Sum.inr ⟨f.toArray⟩) e8, q v fo⟩
theorem oks_some {i : Nat} {y : List S → Option (List Nat)} {ρ : List S} {x : D} (h : oKs i y ρ = some x) : ∃ f p d, y ρ = some f ∧ at_ ρ i = .rc p d ∧ kAt f d = some x ∧ notL x = true := by
  unfold oKs at h
  cases e : y ρ with
  | none => rw [e] at h; cases h
  | some f =>
    rw [e] at h
    cases es : at_ ρ i with
    | rc p d =>
      rw [es] at h
      have h : kStl f d = some x := h
      obtain ⟨g1, g2⟩ := stillO_some h
      exact ⟨f, p, d, rfl, rfl, g1, g2⟩
    | _ => rw [es] at h; cases h
theorem ve_ky (i : Nat) {y : List S → Option (List Nat)} {ek : Expr} {tk : TE} {x : Str} {p pos : Pos} (hk : VKy cm X ek tk y) (hu : X.A.units + 1 < cLine) (hN : X.N[i]? = some x := by rfl) (hv : Vis X.env.scope x := by first | exact Or.inl rfl | exact Or.inr (Or.inl rfl) | exact Or.inr (Or.inr rfl))
    (hd : (x == ("__debug__" : Str)) = false := by decide) (hcd : (x == ("__classdict__" : Str)) = false := by decide) : VE cm X W (.Subscript (.Name x p) ek pos) (tDGet (tVar i) tk) (eKy i y) := by
  refine ⟨pe_dget hu (pe_var hN hv hd hcd) hk.pe hk.ns, fun ρ c σ H Q r q => ?_⟩
  unfold eKy at q
  cases e : oKs i y ρ with
  | none => rw [e] at q; exact q.elim
  | some z =>
    rw [e] at q
    obtain ⟨f, pp, d, e1, es, e2, e3⟩ := oks_some e
    obtain ⟨v, h1, u, e4, rc⟩ := r.at_ i _ (at_some es (fun z => nomatch z))
    subst e4
    exact key_red hk r e1 h1 e2 rc fun v fo => q c H v Stq.refl r (fo.den e3)
theorem vq_ky (i : Nat) {y : List S → Option (List Nat)} {ek : Expr} {tk : TE} {x : Str} {p pos : Pos} (hk : VKy cm X ek tk y) (hu : X.A.units + 1 < cLine) (hN : X.N[i]? = some x := by rfl) (hv : Vis X.env.scope x := by first | exact Or.inl rfl | exact Or.inr (Or.inl rfl) | exact Or.inr (Or.inr rfl))
    (hd : (x == ("__debug__" : Str)) = false := by decide) (hcd : (x == ("__classdict__" : Str)) = false := by decide) : VQ cm X (.Subscript (.Name x p) ek pos) (tDGet (tVar i) tk) (oKs i y) := by
  refine ⟨pe_dget hu (pe_var hN hv hd hcd) hk.pe hk.ns, fun ρ c σ H Q z r e q => ?_⟩
  obtain ⟨f, pp, d, e1, es, e2, e3⟩ := oks_some e
  obtain ⟨v, h1, u, e4, rc⟩ := r.at_ i _ (at_some es (fun z => nomatch z))
  subst e4
  exact key_red hk r e1 h1 e2 rc fun v fo => q c H v Ext.refl (fo.den e3)
theorem vf_ky (i : Nat) {y : List S → Option (List Nat)} {ek : Expr} {tk : TE} {x : Str} {p pos : Pos} (hk : VKy cm X ek tk y) (hu : X.A.units + 1 < cLine) (hN : X.N[i]? = some x := by rfl) (hv : Vis X.env.scope x := by first | exact Or.inl rfl | exact Or.inr (Or.inl rfl) | exact Or.inr (Or.inr rfl))
    (hd : (x == ("__debug__" : Str)) = false := by decide) (hcd : (x == ("__classdict__" : Str)) = false := by decide) : VF cm X (.Subscript (.Name x p) ek pos) (tDGet (tVar i) tk) i (oKl i y) (oKp i y) := by
  refine ⟨pe_dget hu (pe_var hN hv hd hcd) hk.pe hk.ns, fun ρ c σ H ys r e => ?_⟩
  unfold oKl at e
  cases ey : y ρ with
  | none => rw [ey] at e; cases e
  | some f =>
    rw [ey] at e
    cases es : at_ ρ i with
    | rc pp d =>
      rw [es] at e
      have e : kLst f d = some ys := e
      have hs := at_some es (fun z => nomatch z)
      obtain ⟨v, h1, u, e1, rc⟩ := r.at_ i _ hs
      subst e1
      have hi : i < X.N.length := by rw [← r.len]; exact (List.getElem?_eq_some_iff.mp hs).1
      obtain ⟨ks, xs, j, a, vs, v, g1, g3, g4, g5, g6, g7, g8, g9, g10, fo, fl⟩ := kAt_ok (lstO_some e) rc
      obtain ⟨b, us, q1, q2, q3, q4⟩ := (show FOk cm X.K (Gz c H) H _ (.lst ys) v from fo)
      subst q1
      refine ⟨pp, _, u, b, us, hi, hs, h1, q2, q3, q4, fun Q q => ⟨u, h1, hk.sem ρ c σ H _ f r ey ⟨a, _, g5, by rw [← g9]; exact DGet.k (k := Sum.inr ⟨f.toArray⟩) g8, q⟩⟩, fun c1 H1 ex ys' us' d' ep dl => ?_⟩
      unfold oKp at ep
      rw [ey, es] at ep
      have ep : kPut f (.lst ys') d = some d' := ep
      have rc1 : RecC cm X.K (Gz c1 H1) H1 (fun a => c1 a = i + 1) u d := rc.mono ex.gz fun a o p q => ⟨(ex a o q).1.trans p, (ex a o q).2⟩
      obtain ⟨b1, us1, a1, kvs1, z1, z2, z3, p1, p2, p3, p4⟩ := kPut_in e ep rc1
      rw [g5] at z1; cases z1
      rw [(ex a _ g8).2] at z2
      cases z2
      rw [g9] at z3
      cases z3
      exact p4 us' dl
    | _ => rw [es] at e; cases e
end
theorem zw_none (f : List Nat) (v : V) : ∀ (ks : List (List Nat)) (vs : List V), ks.length = vs.length → f ∉ ks → List.zipWith (fun k' x => if k' = f then v else x) ks vs = vs
  | [], [], _, _ => rfl
  | [], _ :: _, l, _ => by cases l
  | _ :: _, [], l, _ => by cases l
  | k :: ks, w :: vs, l, nf => by
    have n1 : ¬ k = f := fun z => nf (by rw [z]; exact List.mem_cons_self)
    show (if k = f then v else w) :: List.zipWith _ ks vs = w :: vs
    rw [if_neg n1, zw_none f v ks vs (by simpa using l) (fun z => nf (List.mem_cons_of_mem _ z))]
theorem kys_putJ {f : List Nat} {v : V} : ∀ {ks : List (List Nat)} {vs : List V} {j : Nat}, nIdx f ks = some j → ks.length = vs.length → ks.Nodup → putK (kys ks vs) (Sum.inr ⟨f.toArray⟩) v = kys ks (vs.set j v) := fun {ks vs j} h l nd => by
  have hc : ks.contains f = true := by
    have := nIdx_get h
    exact List.contains_iff_mem.mpr (List.mem_of_getElem? this)
  have e := kys_any f l
  rw [hc] at e
  unfold putK
  rw [if_pos e, kys_map f v]
  congr 1
  clear e hc
  induction ks generalizing vs j with
  | nil => cases h
  | cons k ks ih =>
    cases vs with
    | nil => cases l
    | cons w vs =>
      have l : ks.length = vs.length := by simpa using l
      have nd := List.nodup_cons.mp nd
      unfold nIdx at h
      by_cases q : f = k
      · rw [if_pos q] at h
        cases h
        subst q
        show (if f = f then v else w) :: List.zipWith _ ks vs = v :: vs
        rw [if_pos rfl]
        rw [zw_none f v ks vs (by simpa using l) nd.1]
      · rw [if_neg q] at h
        cases g : nIdx f ks with
        | none => rw [g] at h; cases h
        | some i =>
          rw [g] at h
          cases h
          show (if k = f then v else w) :: List.zipWith _ ks vs = w :: vs.set i v
          rw [if_neg (fun z => q z.symm), ih g l nd.2]
section
variable {cm : Nat → Addr} {K : PySem.W.Frag} {n : Nat} {c c' c₀ : Col} {H H' H₀ G : Hp} {σ : L2.St} {ρ ρ' : List S} {P : Addr → Prop}
/-- d[f] = v at a record: the dict as it is then -/
theorem kPut_ok {f : List Nat} {d d' x : D} {u : V} (h : kPut f x d = some d') (r : RecC cm K G H P u d) :
    ∃ ks xs a vs, d = .dic ks xs ∧ u = .ref a ∧ P a ∧ H a = some (.dK (kys ks vs)) ∧ (kys ks vs).length < 1000 ∧
      ∀ v G' (P' : Addr → Prop), (∀ b o, G b = some o → G' b = some o) → (∀ b, P b → P' b) → FOk cm K G' H P' x v → (∀ ys q, x = .lst ys → v = .ref q → ¬ P q) → RecC cm K G' (upd H a (.dK (putK (kys ks vs) (Sum.inr ⟨f.toArray⟩) v))) P' u d' := by
  obtain ⟨a, xs, vs, e, p, hd, fl0⟩ := r
  cases d with
  | dic ks ys =>
    obtain ⟨e1, e2, e3⟩ := hd
    subst e1
    have h : (if ks.length < 900 ∧ ks.Nodup then (nIdx f ks).map (fun j => D.dic ks (xs.set j x)) else none) = some d' := h
    by_cases q : ks.length < 900 ∧ ks.Nodup
    case neg => rw [if_neg q] at h; cases h
    rw [if_pos q] at h
    cases ej : nIdx f ks with
    | none => rw [ej] at h; cases h
    | some j =>
      rw [ej] at h
      have h : D.dic ks (xs.set j x) = d' := Option.some.inj h
      subst h
      refine ⟨ks, xs, a, vs, rfl, e, p, e3, by unfold kys; rw [List.length_zip, List.length_map]; omega, fun v G' P' hG hP fo hv => ?_⟩
      have fl : Flds cm K G' H P' xs vs := fl0.mono hG fun b o p q => ⟨hP b p, q⟩
      have key : ∀ {xs' : List D} {vs' : List V} {o : HO}, Flds cm K G' H P' xs' vs' → (∀ (i : Nat) ys b, xs'[i]? = some (D.lst ys) → vs'[i]? = some (V.ref b) → b ≠ a) → Flds cm K G' (upd H a o) P' xs' vs' := fun {xs' vs' o} fl hne => ⟨fl.len, fun i d v h1 h2 => by
        have q := fl.ok i d v h1 h2
        cases d with
        | lst ys =>
          obtain ⟨b, us, q1, q2, q3, q4⟩ := q
          subst q1
          exact ⟨b, us, rfl, q2, by rw [upd_ne (hne i ys b h1 h2)]; exact q3, q4⟩
        | _ => exact q, fl.apart⟩
      have lp : ∀ (i : Nat) ys b, xs[i]? = some (D.lst ys) → vs[i]? = some (V.ref b) → P b ∧ b ≠ a := fun i ys b h1 h2 => by
        obtain ⟨b', us, q1, q2, q3, q4⟩ := (show FOk cm K G H P (.lst ys) (V.ref b) from fl0.ok i _ _ h1 h2)
        cases q1
        exact ⟨q2, fun z => by rw [z, e3] at q3; cases q3⟩
      have na : ∀ (i : Nat) ys b, xs[i]? = some (D.lst ys) → vs[i]? = some (V.ref b) → b ≠ a := fun i ys b h1 h2 => (lp i ys b h1 h2).2
      have hn : ∀ b (j : Nat) ys zs, xs[j]? = some (D.lst zs) → x ≠ .lst ys ∨ v ≠ .ref b ∨ vs[j]? ≠ some (V.ref b) := fun b j ys zs hz => by
        by_cases z1 : x = .lst ys
        · by_cases z2 : v = .ref b
          · exact .inr (.inr fun z => hv ys b z1 z2 (lp j zs b hz z).1)
          · exact .inr (.inl z2)
        · exact .inl z1
      refine ⟨a, xs.set j x, vs.set j v, e, hP a p, ⟨rfl, by rw [List.length_set]; exact e2, by rw [upd_same, kys_putJ ej e2 q.2]⟩, key (fl.put fo hn) fun m ys b h1 h2 => ?_⟩
      rcases get_set h1 with ⟨g1, g2⟩ | ⟨g1, g2⟩
      · rcases get_set h2 with ⟨g3, g4⟩ | ⟨g3, g4⟩
        · exact fun z => hv ys b g2.symm g4.symm (by rw [z]; exact p)
        · exact absurd g1 g3
      · rcases get_set h2 with ⟨g3, g4⟩ | ⟨g3, g4⟩
        · exact absurd g3 g1
        · exact na m ys b g2 g4
  | _ => cases h
end
def kPutY (y : List S → Option (List Nat)) (x r : D) : List S → Option D := fun ρ => (y ρ).bind fun f => kPut f x r
def kFin (i : Nat) (o : List S → Option D) : M Fl := fun ρ => match o ρ with | some r' => .ok .nx (rcSet i r' ρ) | none => .bad
/-- d[k] = e at a record -/
def sKSet (i : Nat) (y : List S → Option (List Nat)) (fe : M Hd) : M Fl := fe >>= fun h => nlD h >>= fun x => getRc i >>= fun r => kFin i (kPutY y x r)
section
variable {cm : Nat → Addr} {X : Cx} {W : WX} {K : PySem.W.Frag} {n : Nat}
theorem vs_kset (i : Nat) {y : List S → Option (List Nat)} {ek e : Expr} {tk te : TE} {fe : M Hd} {x : Str} {p pos' pos : Pos} (hk : VKy cm X ek tk y) (he : VE cm X W e te fe) (hu : X.A.units + 1 < cLine) (hN : X.N[i]? = some x := by rfl) (hv : Vis X.env.scope x := by first | exact Or.inl rfl | exact Or.inr (Or.inl rfl) | exact Or.inr (Or.inr rfl))
    (hs : swapsWith e (some (.Subscript (.Name x p) ek pos')) pos.line X.env = pure false := by rfl) (hd : (x == ("__debug__" : Str)) = false := by decide) (hcd : (x == ("__classdict__" : Str)) = false := by decide) :
    VS cm X W (.Assign [.Subscript (.Name x p) ek pos'] e pos) (sDPut (tVar i) tk te) (sKSet i y fe) := by
  refine ⟨ps_dput hu (pe_var hN hv hd hcd) hk.pe he.pe hs, fun ρ c σ H Dn r q => ?_⟩
  refine sem_in he.sem r q fun a ρ1 c1 H1 v s1 r1 hy q1 => ?_
  rw [M.bind_run] at q1
  rcases nlD_cases a ρ1 with ⟨z, ρ2, ez⟩ | ez
  case inr => rw [ez] at q1; exact q1.elim
  rw [ez] at q1
  dsimp only at q1
  obtain ⟨c2, s2, r2, hz⟩ := nlD_ok s1 r1 hy ez
  rw [M.bind_run] at q1
  rcases getRc_ok r2 (i := i) with eg | ⟨pp, d, u, eg, hi, hs, hu2, rc⟩
  · rw [eg] at q1; exact q1.elim
  rw [eg] at q1
  dsimp only at q1
  unfold kFin kPutY at q1
  cases ey : y ρ2 with
  | none => rw [ey] at q1; exact q1.elim
  | some f =>
    rw [ey] at q1
    cases eo : kPut f z d with
    | none =>
      have q1 : QS cm X.K X.N.length W Dn ρ σ c H (match kPut f z d with | some r' => .ok .nx (rcSet i r' ρ2) | none => .bad) := q1
      rw [eo] at q1; exact q1.elim
    | some d' =>
      have q1 : QS cm X.K X.N.length W Dn ρ σ c H (match kPut f z d with | some r' => .ok .nx (rcSet i r' ρ2) | none => .bad) := q1
      rw [eo] at q1
      have q9 : QN cm X.K X.N.length Dn.nx ρ σ c H (rcSet i d' ρ2) := q1
      clear q1
      obtain ⟨ks, xs, aa, vs, e1, e3, e4, e5, e6, e7⟩ := kPut_ok eo rc
      have e4 : c2 aa = i + 1 := e4
      refine ⟨u, hu2, hk.sem ρ2 c2 σ H1 _ f r2 ey ⟨aa, _, e3, DPut.k (k := Sum.inr ⟨f.toArray⟩) e5 (Nat.lt_of_lt_of_le e6 (by show 1000 ≤ sizeLine; decide)), ?_⟩⟩
      rcases hz with ⟨hn, dz⟩ | ⟨b, us, ys, ez1, ev, cb, h0, hb, dl⟩
      · have ex : ExtS (fun q => q = i + 1) c2 c2 H1 (upd H1 aa (.dK (putK (kys ks vs) (Sum.inr ⟨f.toArray⟩) v))) := ExtS.upd e5 e4
        have rn := e7 v (Gz c2 H1) (fun b => c2 b = i + 1) (fun _ _ h => h) (fun _ h => h) (FOk.still hn dz) (fun ys q eb => by rw [eb] at hn; cases hn)
        have sq := s2.mutR (d' := d') hi ex
        exact q9 c2 σ _ sq.st sq.kp (r2.mutR hs hu2 (rn.mono (gz_write (by rw [e4]; omega)) fun b o p q => ⟨p, q⟩) ex)
      · subst ez1 ev
        have nb : b ≠ aa := fun z => by rw [z, e5] at hb; cases hb
        have gz : ∀ a o, Gz c2 H1 a = some o → Gz (cset c2 b (i + 1)) H1 a = some o := gz_recol (by omega)
        have r3 := r2.recol (k := i + 1) (p := b) (by omega) (by omega)
        have s3 : Stq X.N.length ρ ρ2 c (cset c2 b (i + 1)) H H1 := ⟨s2.st.recol h0, s2.kq⟩
        have e4' : cset c2 b (i + 1) aa = i + 1 := by rw [cset_ne nb.symm]; exact e4
        have rn := e7 (.ref b) (Gz (cset c2 b (i + 1)) H1) (fun a => cset c2 b (i + 1) a = i + 1) gz (fun a p => by
          by_cases z : a = b
          · rw [z]; exact cset_same
          · rw [cset_ne z]; exact p) ⟨b, us, rfl, cset_same, hb, DenL.mono gz _ _ dl⟩ (fun ys' q _ ev => by cases ev; show ¬ c2 b = i + 1; omega)
        have ex : ExtS (fun q => q = i + 1) (cset c2 b (i + 1)) (cset c2 b (i + 1)) H1 (upd H1 aa (.dK (putK (kys ks vs) (Sum.inr ⟨f.toArray⟩) (.ref b)))) := ExtS.upd e5 e4'
        have sq := s3.mutR (d' := d') hi ex
        exact q9 _ σ _ sq.st sq.kp (r3.mutR hs hu2 (rn.mono (gz_write (by rw [e4']; omega)) fun b o p q => ⟨p, q⟩) ex)
end
end Vi

/-! ## ViKey2 -/
set_option Elab.async false
set_option linter.all false
set_option maxRecDepth 100000
set_option maxHeartbeats 1600000
namespace Vi
open PySem L2
section
variable {cm : Nat → Addr} {X : Cx} {W : WX} {K : PySem.W.Frag} {n : Nat}
theorem kput_step {i : Nat} {ρ₀ ρ2 : List S} {c₀ c2 : Col} {H₀ H1 : Hp} {σ : L2.St} {pp : Bool} {d d' z : D} {u v : V} {f : List Nat} (s2 : Stq n ρ₀ ρ2 c₀ c2 H₀ H1) (r2 : Rep cm K n c2 H1 ρ2 σ) (hi : i < n) (hs : ρ2[i]? = some (.rc pp d)) (hu2 : σ[i]? = some (some u))
    (rc : RecC cm K (Gz c2 H1) H1 (fun b => c2 b = i + 1) u d) (eo : kPut f z d = some d') (hz : (notL z = true ∧ Den cm K (Gz c2 H1) z v) ∨ ∃ b us ys, z = .lst ys ∧ v = .ref b ∧ c2 b = n + 1 ∧ H₀ b = none ∧ H1 b = some (.lst us) ∧ DenL cm K (Gz c2 H1) ys us) :
    ∃ a kvs c', u = .ref a ∧ H1 a = some (.dK kvs) ∧ kvs.length < 1000 ∧ Stq n ρ₀ (rcSet i d' ρ2) c₀ c' H₀ (upd H1 a (.dK (putK kvs (Sum.inr ⟨f.toArray⟩) v))) ∧ Rep cm K n c' (upd H1 a (.dK (putK kvs (Sum.inr ⟨f.toArray⟩) v))) (rcSet i d' ρ2) σ ∧
      RecC cm K (Gz c' (upd H1 a (.dK (putK kvs (Sum.inr ⟨f.toArray⟩) v)))) (upd H1 a (.dK (putK kvs (Sum.inr ⟨f.toArray⟩) v))) (fun b => c' b = i + 1) u d' ∧ ∀ b o, Gz c2 H1 b = some o → Gz c' (upd H1 a (.dK (putK kvs (Sum.inr ⟨f.toArray⟩) v))) b = some o := by
  obtain ⟨ks, xs, aa, vs, e1, e3, e4, e5, e6, e7⟩ := kPut_ok eo rc
  have e4 : c2 aa = i + 1 := e4
  rcases hz with ⟨hn, dz⟩ | ⟨b, us, ys, ez1, ev, cb, h0, hb, dl⟩
  · have ex : ExtS (fun q => q = i + 1) c2 c2 H1 (upd H1 aa (.dK (putK (kys ks vs) (Sum.inr ⟨f.toArray⟩) v))) := ExtS.upd e5 e4
    have rn := e7 v (Gz c2 H1) (fun b => c2 b = i + 1) (fun _ _ h => h) (fun _ h => h) (FOk.still hn dz) (fun ys q eb => by rw [eb] at hn; cases hn)
    have gw : ∀ b o, Gz c2 H1 b = some o → Gz c2 (upd H1 aa (.dK (putK (kys ks vs) (Sum.inr ⟨f.toArray⟩) v))) b = some o := gz_write (by rw [e4]; omega)
    have rm := rn.mono gw fun b o p q => ⟨p, q⟩
    exact ⟨aa, _, c2, e3, e5, e6, s2.mutR (d' := d') hi ex, r2.mutR hs hu2 rm ex, rm, gw⟩
  · subst ez1 ev
    have nb : b ≠ aa := fun z => by rw [z, e5] at hb; cases hb
    have gz : ∀ a o, Gz c2 H1 a = some o → Gz (cset c2 b (i + 1)) H1 a = some o := gz_recol (by omega)
    have r3 := r2.recol (k := i + 1) (p := b) (by omega) (by omega)
    have s3 : Stq n ρ₀ ρ2 c₀ (cset c2 b (i + 1)) H₀ H1 := ⟨s2.st.recol h0, s2.kq⟩
    have e4' : cset c2 b (i + 1) aa = i + 1 := by rw [cset_ne nb.symm]; exact e4
    have rn := e7 (.ref b) (Gz (cset c2 b (i + 1)) H1) (fun a => cset c2 b (i + 1) a = i + 1) gz (fun a p => by
      by_cases z : a = b
      · rw [z]; exact cset_same
      · rw [cset_ne z]; exact p) ⟨b, us, rfl, cset_same, hb, DenL.mono gz _ _ dl⟩ (fun ys' q _ ev => by cases ev; show ¬ c2 b = i + 1; omega)
    have ex : ExtS (fun q => q = i + 1) (cset c2 b (i + 1)) (cset c2 b (i + 1)) H1 (upd H1 aa (.dK (putK (kys ks vs) (Sum.inr ⟨f.toArray⟩) (.ref b)))) := ExtS.upd e5 e4'
    have gw : ∀ b' o, Gz (cset c2 b (i + 1)) H1 b' = some o → Gz (cset c2 b (i + 1)) (upd H1 aa (.dK (putK (kys ks vs) (Sum.inr ⟨f.toArray⟩) (.ref b)))) b' = some o := gz_write (by rw [e4']; omega)
    have rm := rn.mono gw fun b o p q => ⟨p, q⟩
    exact ⟨aa, _, _, e3, e5, e6, s3.mutR (d' := d') hi ex, r3.mutR hs hu2 rm ex, rm, fun b' o q => gw b' o (gz b' o q)⟩
def sK2b (i : Nat) (y2 : List S → Option (List Nat)) (z : D) (d1 : D) : M Fl := fun ρ => match (y2 ρ).bind fun f => kPut f z d1 with | some d2 => .ok .nx (rcSet i d2 ρ) | none => .bad
/-- d[k], d[k2] = [], e at a record -/
def sK2 (i : Nat) (y1 y2 : List S → Option (List Nat)) (g : List S → Option D) : M Fl := fun ρ => match stillO (g ρ), rcOf (at_ ρ i) with
  | some z, some d => (match (y1 ρ).bind fun f => kPut f (.lst []) d with | some d1 => sK2b i y2 z d1 (rcSet i d1 ρ) | none => .bad)
  | _, _ => .bad
theorem vs_kset2 (i : Nat) {y1 y2 : List S → Option (List Nat)} {k1 k2 e2 : Expr} {t1 t2 te : TE} {g : List S → Option D} {x : Str} {p1 p2 q1 q2 lp pt pt2 pos : Pos} {kt kt2} (hk1 : VKy cm X k1 t1 y1) (hk2 : VKy cm X k2 t2 y2) (he : VQ cm X e2 te g) (hc : X.calm = true) (hu : X.A.units + 1 < cLine)
    (hN : X.N[i]? = some x := by rfl) (hv : Vis X.env.scope x := by first | exact Or.inl rfl | exact Or.inr (Or.inl rfl) | exact Or.inr (Or.inr rfl)) (hd : (x == ("__debug__" : Str)) = false := by decide) (hcd : (x == ("__classdict__" : Str)) = false := by decide) (hK : X.K = K := by rfl)
    (hpg : PG X (.Tuple [.Subscript (.Name x p1) k1 q1, .Subscript (.Name x p2) k2 q2] kt pt) (gTup X.K 2 (gCons (gSub (tVar i) t1 rSetD) (gCons (gSub (tVar i) t2 rSetD) gNil))))
    (hs : swapsWithSole [.Tuple [.Subscript (.Name x p1) k1 q1, .Subscript (.Name x p2) k2 q2] kt pt] (.Tuple [.List [] lp, e2] kt2 pt2) pos.line X.env = pure false := by rfl)
    (hw : swappedStores [.Tuple [.Subscript (.Name x p1) k1 q1, .Subscript (.Name x p2) k2 q2] kt pt] (.Tuple [.List [] lp, e2] kt2 pt2) X.env = pure none := by rfl)
    (h1 : (assignEach [.Tuple [.Subscript (.Name x p1) k1 q1, .Subscript (.Name x p2) k2 q2] kt pt] X.env).map (·.2) = [assign (.Tuple [.Subscript (.Name x p1) k1 q1, .Subscript (.Name x p2) k2 q2] kt pt) X.env] := by rfl)
    (hl1 : starEach [.List [] lp, e2] X.env = (false, eval (.List [] lp) X.env) :: starEach [e2] X.env := by rfl) (hl2 : starEach [e2] X.env = (false, eval e2 X.env) :: starEach [] X.env := by rfl) :
    VS cm X W (.Assign [.Tuple [.Subscript (.Name x p1) k1 q1, .Subscript (.Name x p2) k2 q2] kt pt] (.Tuple [.List [] lp, e2] kt2 pt2) pos) (tAsg (tTup (tCons (tLst tNil) (tCons te tNil))) (gTup K 2 (gCons (gSub (tVar i) t1 rSetD) (gCons (gSub (tVar i) t2 rSetD) gNil)))) (sK2 i y1 y2 g) := by
  subst hK
  refine ⟨ps_asg (pe_tup (pa_cons (pe_lst pa_nil) (pa_cons he.pe pa_nil hl2) hl1)) hpg hs hw h1, fun ρ c σ H Dn r q => ?_⟩
  unfold sK2 at q
  cases eg : stillO (g ρ) with
  | none => rw [eg] at q; exact q.elim
  | some z =>
    obtain ⟨eg1, nz⟩ := stillO_some eg
    rw [eg] at q
    cases es : at_ ρ i with
    | rc pp d =>
      rw [es] at q
      have q : QS cm X.K X.N.length W Dn ρ σ c H (match (y1 ρ).bind fun f => kPut f (.lst []) d with | some d1 => sK2b i y2 z d1 (rcSet i d1 ρ) | none => .bad) := q
      cases ey : y1 ρ with
      | none => rw [ey] at q; exact q.elim
      | some f1 =>
        rw [ey] at q
        have q : QS cm X.K X.N.length W Dn ρ σ c H (match kPut f1 (.lst []) d with | some d1 => sK2b i y2 z d1 (rcSet i d1 ρ) | none => .bad) := q
        cases e1 : kPut f1 (.lst []) d with
        | none => rw [e1] at q; exact q.elim
        | some d1 =>
          rw [e1] at q
          have q : QS cm X.K X.N.length W Dn ρ σ c H (sK2b i y2 z d1 (rcSet i d1 ρ)) := q
          have hsi := at_some es (fun z => nomatch z)
          obtain ⟨vv, hvv, u, ev, rc⟩ := r.at_ i _ hsi
          subst ev
          have hi : i < X.N.length := by rw [← r.len]; exact (List.getElem?_eq_some_iff.mp hsi).1
          refine ⟨Nat.zero_le _, fun b hb => ?_⟩
          have x1 : Ext c (cset c b (X.N.length + 1)) H (upd H b (.lst [])) := Ext.alloc hb
          refine he.sem ρ _ σ _ _ z (r.ext x1) eg1 fun c2 H2 v x2 dv => ?_
          refine ⟨by show 2 ≤ sizeLine; decide, fun T hT => ?_⟩
          have x3 : Ext c2 (cset c2 T (X.N.length + 1)) H2 (upd H2 T (.tup [.ref b, v])) := Ext.alloc hT
          have xx := (x1.trans x2).trans x3
          have r3 := r.ext xx
          refine ⟨T, [.ref b, v], rfl, SqT.of upd_same, rfl, .ref b, [v], rfl, u, hvv, ?_⟩
          refine hk1.sem ρ _ σ _ _ f1 r3 ey ?_
          obtain ⟨vv3, hvv3, u3, ev3, rc3⟩ := r3.at_ i _ hsi
          subst ev3
          rw [hvv] at hvv3
          have eu : u = u3 := Option.some.inj (Option.some.inj hvv3)
          subst eu
          have x23 := x2.trans x3
          have hb3 := x23 b _ upd_same
          obtain ⟨a, kvs, c4, eu, hH, hlen, s4, r4, rc4, gw⟩ := kput_step (Stq.refl.app xx.stp) r3 hi hsi hvv rc3 e1 (.inr ⟨b, [], [], rfl, rfl, by rw [hb3.1]; exact cset_same, hb, hb3.2, rfl⟩)
          refine ⟨a, _, eu, DPut.k (k := Sum.inr ⟨f1.toArray⟩) hH (Nat.lt_of_lt_of_le hlen (by show 1000 ≤ sizeLine; decide)), ?_⟩
          refine ⟨v, [], rfl, u, hvv, ?_⟩
          unfold sK2b at q
          cases ey2 : y2 (rcSet i d1 ρ) with
          | none => rw [ey2] at q; exact q.elim
          | some f2 =>
            rw [ey2] at q
            cases eo2 : kPut f2 z d1 with
            | none =>
              have q : QS cm X.K X.N.length W Dn ρ σ c H (match kPut f2 z d1 with | some d2 => .ok .nx (rcSet i d2 (rcSet i d1 ρ)) | none => .bad) := q
              rw [eo2] at q; exact q.elim
            | some d2 =>
              have q : QS cm X.K X.N.length W Dn ρ σ c H (match kPut f2 z d1 with | some d2 => .ok .nx (rcSet i d2 (rcSet i d1 ρ)) | none => .bad) := q
              rw [eo2] at q
              have q9 : QN cm X.K X.N.length Dn.nx ρ σ c H (rcSet i d2 (rcSet i d1 ρ)) := q
              have hs4 : (rcSet i d1 ρ)[i]? = some (.rc pp d1) := by
                unfold rcSet
                rw [es]
                exact List.getElem?_set_self (by rw [r.len]; exact hi)
              obtain ⟨a2, kvs2, c5, eu2, hH2, hlen2, s5, r5, _, _⟩ := kput_step s4 r4 hi hs4 hvv rc4 eo2 (.inl ⟨nz, Den.mono (fun b' o h => gw b' o (x3.gz b' o h)) _ _ dv⟩)
              refine hk2.sem (rcSet i d1 ρ) c4 σ _ _ f2 r4 ey2 ⟨a2, _, eu2, DPut.k (k := Sum.inr ⟨f2.toArray⟩) hH2 (Nat.lt_of_lt_of_le hlen2 (by show 1000 ≤ sizeLine; decide)), rfl, ?_⟩
              exact q9 c5 σ _ s5.st s5.kp r5
    | _ => rw [es] at q; exact q.elim
end
end Vi

/-! ## ViKey3 -/
set_option Elab.async false
set_option linter.all false
set_option maxRecDepth 100000
set_option maxHeartbeats 1600000
namespace Vi
open PySem L2
def qInt (z : Int) : List S → Option D := fun _ => some (.int z)
def eDisp3 (j : Nat) (k1 k2 k3 : List Nat) (g : List S → Option D) : M Hd := fun ρ => match stillO (g ρ) with
  | some z => if j < 6 ∧ ¬ k1 = k2 ∧ ¬ k1 = k3 ∧ ¬ k2 = k3 then .ok (.rc j (.dic [k1, k2, k3] [z, .lst [], .lst []])) ρ else .bad
  | none => .bad
theorem merge3 {k1 k2 k3 : List Nat} {v1 v2 v3 : V} (h1 : ¬ k1 = k2) (h2 : ¬ k1 = k3) (h3 : ¬ k2 = k3) : mergeK [] [((Sum.inr ⟨k1.toArray⟩ : Key), v1), (Sum.inr ⟨k2.toArray⟩, v2), (Sum.inr ⟨k3.toArray⟩, v3)] = kys [k1, k2, k3] [v1, v2, v3] := by
  have e (a b : List Nat) (h : ¬ a = b) : ¬ ((Sum.inr ⟨a.toArray⟩ : Key) = Sum.inr ⟨b.toArray⟩) := fun z => h (str_mk.mp (Sum.inr.inj z))
  show putK (putK (putK [] _ v1) _ v2) _ v3 = _
  unfold putK
  simp [e k1 k2 h1, e k1 k3 h2, e k2 k3 h3, kys]
section
variable {cm : Nat → Addr} {X : Cx} {W : WX} {K : PySem.W.Frag} {n : Nat}
theorem sem_disp3 {j : Nat} {k1 k2 k3 : List Nat} {e : Expr} {te : TE} {g : List S → Option D} (he : VQ cm X e te g) :
    Sem cm X.K X.N.length W (HdOk cm X.K X.N.length) (tDisp [(tC (.str ⟨k1.toArray⟩), te), (tC (.str ⟨k2.toArray⟩), tLst tNil), (tC (.str ⟨k3.toArray⟩), tLst tNil)]) (eDisp3 j k1 k2 k3 g) := by
  intro ρ c σ H Q r q p hp
  unfold eDisp3 at q
  cases eg : stillO (g ρ) with
  | none => rw [eg] at q; exact q.elim
  | some z =>
    obtain ⟨eg1, nz⟩ := stillO_some eg
    rw [eg] at q
    have q : QR cm X.K X.N.length W (HdOk cm X.K X.N.length) Q ρ c H σ (if j < 6 ∧ ¬ k1 = k2 ∧ ¬ k1 = k3 ∧ ¬ k2 = k3 then .ok (.rc j (.dic [k1, k2, k3] [z, .lst [], .lst []])) ρ else .bad) := q
    by_cases hj : j < 6 ∧ ¬ k1 = k2 ∧ ¬ k1 = k3 ∧ ¬ k2 = k3
    case neg => rw [if_neg hj] at q; exact q.elim
    rw [if_pos hj] at q
    have x1 : Ext c (cset c p (X.N.length + 2 + j)) H (upd H p (.dK [])) := Ext.alloc hp
    refine he.sem ρ _ σ _ _ z (r.ext x1) eg1 fun c2 H2 v x2 dv => ?_
    refine ⟨Nat.zero_le _, fun b1 hb1 => ⟨Nat.zero_le _, fun b2 hb2 => ?_⟩⟩
    have x3 : Ext c2 (cset c2 b1 (X.N.length + 2 + j)) H2 (upd H2 b1 (.lst [])) := Ext.alloc hb1
    have x4 : Ext (cset c2 b1 (X.N.length + 2 + j)) (cset (cset c2 b1 (X.N.length + 2 + j)) b2 (X.N.length + 2 + j)) (upd H2 b1 (.lst [])) (upd (upd H2 b1 (.lst [])) b2 (.lst [])) := Ext.alloc hb2
    have hp2 := x2 p _ upd_same
    have hp4 := (x3.trans x4) p _ hp2.2
    have h14 := x4 b1 _ upd_same
    generalize hc4 : cset (cset c2 b1 (X.N.length + 2 + j)) b2 (X.N.length + 2 + j) = c4 at *
    generalize hH4 : upd (upd H2 b1 (.lst [])) b2 (.lst []) = H4 at *
    have cb2 : c4 b2 = X.N.length + 2 + j := by rw [← hc4]; exact cset_same
    have hb24 : H4 b2 = some (.lst []) := by rw [← hH4]; exact upd_same
    refine ⟨hp4.2, [((Sum.inr ⟨k1.toArray⟩ : Key), v), (Sum.inr ⟨k2.toArray⟩, .ref b1), (Sum.inr ⟨k3.toArray⟩, .ref b2)], rfl, by show 3 ≤ 15; decide, ?_⟩
    rw [merge3 hj.2.1 hj.2.2.1 hj.2.2.2]
    have xe : Ext c c4 H H4 := (x1.trans x2).trans (x3.trans x4)
    have x5 : Ext c c4 H (upd H4 p (.dK (kys [k1, k2, k3] [v, .ref b1, .ref b2]))) := fun a o h => ⟨(xe a o h).1, by rw [upd_ne (fun z => by rw [z, hp] at h; cases h)]; exact (xe a o h).2⟩
    have none2 : ∀ b, H2 b = none → H b = none := fun b hb => by
      cases h : H b with
      | none => rfl
      | some o => rw [((x1.trans x2) b o h).2] at hb; cases hb
    have hb2n : H2 b2 = none := by
      cases h : H2 b2 with
      | none => rfl
      | some o => rw [(x3 b2 o h).2] at hb2; cases hb2
    have nb12 : b1 ≠ b2 := fun z => by rw [← z, upd_same] at hb2; cases hb2
    have np1 : b1 ≠ p := fun z => by rw [z, hp2.2] at hb1; cases hb1
    have np2 : b2 ≠ p := fun z => by rw [z, hp2.2] at hb2n; cases hb2n
    have cp : c4 p = X.N.length + 2 + j := by rw [hp4.1, hp2.1]; exact cset_same
    have cb1 : c4 b1 = X.N.length + 2 + j := by rw [h14.1]; exact cset_same
    have gz : ∀ a o, Gz c2 H2 a = some o → Gz c4 (upd H4 p (.dK (kys [k1, k2, k3] [v, .ref b1, .ref b2]))) a = some o := fun a o h => by
      have q := (x3.trans x4).gz a o h
      obtain ⟨z1, z2⟩ := Gz.to q
      refine Gz.of z1 ?_
      rw [upd_ne (fun z => by rw [z, cp] at z1; omega)]
      exact z2
    have dz : Den cm X.K (Gz c4 (upd H4 p (.dK (kys [k1, k2, k3] [v, .ref b1, .ref b2])))) z v := Den.mono gz _ _ dv
    refine q c4 _ (.ref p) (Stq.refl.app x5.stp) (r.ext x5) ⟨hj.1, p, [z, .lst [], .lst []], [v, .ref b1, .ref b2], rfl, ⟨cp, hp⟩, ⟨rfl, rfl, upd_same⟩, rfl, fun i d u h1 h2 => ?_, fun i i' ys zs b h1 h2 h3 h4 => ?_⟩
    · match i, h1, h2 with
      | 0, h1, h2 => cases h1; cases h2; exact FOk.still nz dz
      | 1, h1, h2 => cases h1; cases h2; exact ⟨b1, [], rfl, ⟨cb1, none2 b1 hb1⟩, by rw [upd_ne np1]; exact h14.2, rfl⟩
      | 2, h1, h2 => cases h1; cases h2; exact ⟨b2, [], rfl, ⟨cb2, none2 b2 hb2n⟩, by rw [upd_ne np2]; exact hb24, rfl⟩
      | i + 3, h1, h2 => cases h1
    · match i, i', h1, h2, h3, h4 with
      | 0, _, h1, _, _, _ => cases h1; cases nz
      | _, 0, _, h2, _, _ => cases h2; cases nz
      | 1, 1, _, _, _, _ => rfl
      | 2, 2, _, _, _, _ => rfl
      | 1, 2, _, _, h3, h4 => cases h3; exact absurd (V.ref.inj (Option.some.inj h4)).symm nb12
      | 2, 1, _, _, h3, h4 => cases h3; exact absurd (V.ref.inj (Option.some.inj h4)) nb12
      | i + 3, _, h1, _, _, _ => cases h1
      | _, i' + 3, _, h2, _, _ => cases h2
theorem ve_disp3 {j : Nat} {k1 k2 k3 : List Nat} {K1 K2 K3 : Str} {e : Expr} {te : TE} {g : List S → Option D} {j1 j2 j3 p1 p2 p3 l2 l3 pos} (he : VQ cm X e te g) (h1 : K1 = ⟨k1.toArray⟩ := by rfl) (h2 : K2 = ⟨k2.toArray⟩ := by rfl) (h3 : K3 = ⟨k3.toArray⟩ := by rfl) :
    VE cm X W (.Dict [some (.Constant (.str K1) j1 p1), some (.Constant (.str K2) j2 p2), some (.Constant (.str K3) j3 p3)] [e, .List [] l2, .List [] l3] pos) (tDisp [(tC (.str ⟨k1.toArray⟩), te), (tC (.str ⟨k2.toArray⟩), tLst tNil), (tC (.str ⟨k3.toArray⟩), tLst tNil)]) (eDisp3 j k1 k2 k3 g) := by
  subst h1 h2 h3
  exact ⟨pe_disp (pps_cons pe_str he.pe (pps_cons pe_str (pe_lst pa_nil) (pps_cons pe_str (pe_lst pa_nil) pps_nil))) rfl rfl (fun z => by cases z) (by show 3 ≤ 15; decide), sem_disp3 he⟩
theorem vq_int (z : Int) {v : Int} {j pos} (h : v = z := by rfl) : VQ cm X (.Constant (.int v) j pos) (tC (.int v)) (qInt z) := ⟨pe_int, fun ρ c σ H Q d r e q => by
  subst h
  cases e
  exact q c H _ Ext.refl rfl⟩
end
end Vi

/-! ## ViRun -/
set_option Elab.async false
set_option linter.all false
set_option maxRecDepth 100000
set_option maxHeartbeats 400000
namespace Vi
open PySem L2
/-! ### running an evaluator by simp: `R.thn` lets simp look at the first part alone -/
/-- that the last part's type names the continuation keeps simp out of it -/
structure Tk {α β : Type} (g : α → List S → R β) : Type where
def thnK {α β : Type} (g : α → List S → R β) (r : R α) (t : Tk g) : R β := match r with
  | .ok a ρ => g a ρ
  | .exc k ρ => .exc k ρ
  | .bad => .bad
abbrev R.thn {α β : Type} (r : R α) (g : α → List S → R β) : R β := thnK g r ⟨⟩
@[simp] theorem thn_thnK {α β : Type} (r : R α) (g : α → List S → R β) : r.thn g = thnK g r ⟨⟩ := (rfl)
theorem thn_fun {α β : Type} {r : R α} {g g' : α → List S → R β} (h : ∀ a ρ, g a ρ = g' a ρ) : thnK g r ⟨⟩ = thnK g' r ⟨⟩ := by
  have e : g = g' := funext fun a => funext fun ρ => h a ρ
  subst e; rfl
@[simp] theorem thn_ok {α β : Type} (a : α) (ρ : List S) (g : α → List S → R β) (t : Tk g) : thnK g (R.ok a ρ) t = g a ρ := (rfl)
@[simp] theorem thn_exc {α β : Type} (k : Nat) (ρ : List S) (g : α → List S → R β) (t : Tk g) : thnK g (R.exc k ρ : R α) t = .exc k ρ := (rfl)
@[simp] theorem thn_bad {α β : Type} (g : α → List S → R β) (t : Tk g) : thnK g (R.bad : R α) t = .bad := (rfl)
@[simp] theorem bind_thn {α β : Type} (f : M α) (g : α → M β) (ρ : List S) : (f >>= g) ρ = thnK (fun a ρ => g a ρ) ((f ρ)) ⟨⟩ := (rfl)
@[simp] theorem pure_thn {α : Type} (a : α) (ρ : List S) : (pure a : M α) ρ = .ok a ρ := (rfl)
@[simp] theorem Mpure_thn {α : Type} (a : α) (ρ : List S) : (M.pure a : M α) ρ = .ok a ρ := (rfl)
@[simp] theorem bad_thn {α : Type} (ρ : List S) : (M.bad : M α) ρ = .bad := (rfl)
@[simp] theorem lift_s {α : Type} (a : α) (ρ : List S) : M.lift (some a) ρ = .ok a ρ := (rfl)
@[simp] theorem lift_n {α : Type} (ρ : List S) : M.lift (none : Option α) ρ = .bad := (rfl)
@[simp] theorem ite_run {α : Type} (p : Prop) [Decidable p] (f g : M α) (ρ : List S) : (if p then f else g) ρ = if p then f ρ else g ρ := by split <;> rfl
@[simp] theorem at_z (s : S) (ρ : List S) : at_ (s :: ρ) 0 = s := (rfl)
@[simp] theorem at_s (s : S) (ρ : List S) (i : Nat) : at_ (s :: ρ) (i + 1) = at_ ρ i := (rfl)
@[simp] theorem eVar_r (i : Nat) (ρ : List S) : eVar i ρ = (at_ ρ i).asHd i ρ := (rfl)
@[simp] theorem asHd_fr (i : Nat) (d : D) (ρ : List S) : (S.fr d).asHd i ρ = .ok (.val d) ρ := (rfl)
@[simp] theorem asHd_own (i : Nat) (d : D) (ρ : List S) : (S.own d).asHd i ρ = .ok (.slot i) ρ := (rfl)
@[simp] theorem asHd_rc (i : Nat) (p : Bool) (d : D) (ρ : List S) : (S.rc p d).asHd i ρ = .ok (.slot i) ρ := (rfl)
@[simp] theorem asHd_bor (i : Nat) (d : D) (ρ : List S) : (S.bor d).asHd i ρ = .ok (.slot i) ρ := (rfl)
@[simp] theorem eC_r (d : D) (ρ : List S) : eC d ρ = .ok (.val d) ρ := (rfl)
@[simp] theorem rd_val (d : D) (ρ : List S) : rd (.val d) ρ = .ok d ρ := (rfl)
@[simp] theorem rd_new (d : D) (ρ : List S) : rd (.new d) ρ = .ok d ρ := (rfl)
@[simp] theorem rd_slot (i : Nat) (ρ : List S) : rd (.slot i) ρ = (at_ ρ i).rd ρ := (rfl)
@[simp] theorem Srd_fr (d : D) (ρ : List S) : (S.fr d).rd ρ = .ok d ρ := (rfl)
@[simp] theorem Srd_own (d : D) (ρ : List S) : (S.own d).rd ρ = .ok d ρ := (rfl)
@[simp] theorem Srd_bor (d : D) (ρ : List S) : (S.bor d).rd ρ = .ok d ρ := (rfl)
@[simp] theorem fz_val (d : D) (ρ : List S) : fz (.val d) ρ = .ok d ρ := (rfl)
@[simp] theorem fz_new (d : D) (ρ : List S) : fz (.new d) ρ = .ok d ρ := (rfl)
@[simp] theorem fz_slot (i : Nat) (ρ : List S) : fz (.slot i) ρ = (at_ ρ i).fz i ρ := (rfl)
@[simp] theorem Sfz_fr (i : Nat) (d : D) (ρ : List S) : (S.fr d).fz i ρ = .ok d ρ := (rfl)
@[simp] theorem Sfz_own (i : Nat) (d : D) (ρ : List S) : (S.own d).fz i ρ = .ok d (ρ.set i (.fr d)) := (rfl)
@[simp] theorem put_val (i : Nat) (d : D) (ρ : List S) : put i (.val d) ρ = .ok () (ρ.set i (.fr d)) := (rfl)
@[simp] theorem put_new (i : Nat) (d : D) (ρ : List S) : put i (.new d) ρ = .ok () (ρ.set i (.own d)) := (rfl)
@[simp] theorem put_slot (i j : Nat) (ρ : List S) : put i (.slot j) ρ = (at_ ρ j).put i j ρ := (rfl)
@[simp] theorem Sput_fr (i j : Nat) (d : D) (ρ : List S) : (S.fr d).put i j ρ = .ok () (ρ.set i (.fr d)) := (rfl)
@[simp] theorem Sput_own (i j : Nat) (d : D) (ρ : List S) : (S.own d).put i j ρ = .ok () ((ρ.set j (.fr d)).set i (.fr d)) := (rfl)
@[simp] theorem giv_val (d : D) (ρ : List S) : giv (.val d) ρ = .ok (.fr d) ρ := (rfl)
@[simp] theorem giv_new (d : D) (ρ : List S) : giv (.new d) ρ = .ok (.own d) ρ := (rfl)
@[simp] theorem giv_slot (i : Nat) (ρ : List S) : giv (.slot i) ρ = (at_ ρ i).giv ρ := (rfl)
@[simp] theorem Sgiv_fr (d : D) (ρ : List S) : (S.fr d).giv ρ = .ok (.fr d) ρ := (rfl)
@[simp] theorem Sgiv_own (d : D) (ρ : List S) : (S.own d).giv ρ = .ok (.own d) ρ := (rfl)
/-! expressions -/
@[simp] theorem eOp_r (g : D → D → Option Hd) (a b : M Hd) (ρ : List S) : eOp g a b ρ = thnK (fun x ρ => thnK (fun y ρ => thnK (fun d ρ => thnK (fun e ρ => M.lift (g d e) ρ) ((rd y ρ)) ⟨⟩) ((rd x ρ)) ⟨⟩) ((b ρ)) ⟨⟩) ((a ρ)) ⟨⟩ := (rfl)
@[simp] theorem eUn_r (g : D → Option Hd) (a : M Hd) (ρ : List S) : eUn g a ρ = thnK (fun x ρ => thnK (fun d ρ => M.lift (g d) ρ) ((rd x ρ)) ⟨⟩) ((a ρ)) ⟨⟩ := (rfl)
@[simp] theorem bl_some (b : Bool) : bl? (.bl b) = some b := (rfl)
@[simp] theorem eTest_r (a : M Hd) (ρ : List S) : eTest a ρ = thnK (fun x ρ => thnK (fun d ρ => M.lift (bl? d) ρ) ((rd x ρ)) ⟨⟩) ((a ρ)) ⟨⟩ := (rfl)
@[simp] theorem eAnd_r (a b : M Bool) (ρ : List S) : eAnd a b ρ = thnK (fun x ρ => bif x then b ρ else .ok false ρ) ((a ρ)) ⟨⟩ := by
  show (a >>= fun x => if x = true then b else pure false) ρ = _
  rw [bind_thn]; exact thn_fun fun x ρ => by cases x <;> rfl
@[simp] theorem eOr_r (a b : M Bool) (ρ : List S) : eOr a b ρ = thnK (fun x ρ => bif x then .ok true ρ else b ρ) ((a ρ)) ⟨⟩ := by
  show (a >>= fun x => if x = true then pure true else b) ρ = _
  rw [bind_thn]; exact thn_fun fun x ρ => by cases x <;> rfl
@[simp] theorem eNot_r (a : M Bool) (ρ : List S) : eNot a ρ = thnK (fun x ρ => .ok (!x) ρ) ((a ρ)) ⟨⟩ := (rfl)
@[simp] theorem eIf_r (c : M Bool) (a b : M Hd) (ρ : List S) : eIf c a b ρ = thnK (fun x ρ => bif x then a ρ else b ρ) ((c ρ)) ⟨⟩ := by
  show (c >>= fun x => if x = true then a else b) ρ = _
  rw [bind_thn]; exact thn_fun fun x ρ => by cases x <;> rfl
@[simp] theorem eNil_r (ρ : List S) : eNil ρ = .ok [] ρ := (rfl)
@[simp] theorem eCons_r (a : M Hd) (r : M (List Hd)) (ρ : List S) : eCons a r ρ = thnK (fun x ρ => thnK (fun xs ρ => .ok (x :: xs) ρ) ((r ρ)) ⟨⟩) ((a ρ)) ⟨⟩ := (rfl)
@[simp] theorem dNil_r (ρ : List S) : dNil ρ = .ok [] ρ := (rfl)
@[simp] theorem dCons_r (a : M Hd) (r : M (List D)) (ρ : List S) : dCons a r ρ = thnK (fun x ρ => thnK (fun d ρ => thnK (fun xs ρ => .ok (d :: xs) ρ) ((r ρ)) ⟨⟩) ((fz x ρ)) ⟨⟩) ((a ρ)) ⟨⟩ := (rfl)
@[simp] theorem rds_nil (ρ : List S) : rds [] ρ = .ok [] ρ := (rfl)
@[simp] theorem rds_cons (h : Hd) (hs : List Hd) (ρ : List S) : rds (h :: hs) ρ = thnK (fun d ρ => thnK (fun ds ρ => .ok (d :: ds) ρ) ((rds hs ρ)) ⟨⟩) ((rd h ρ)) ⟨⟩ := (rfl)
@[simp] theorem eCB_r (g : List D → Option Hd) (f : M (List Hd)) (ρ : List S) : eCB g f ρ = thnK (fun hs ρ => thnK (fun ds ρ => M.lift (g ds) ρ) ((rds hs ρ)) ⟨⟩) ((f ρ)) ⟨⟩ := (rfl)
theorem sline_ge : 1000 ≤ SLine := by unfold SLine; decide
@[simp] theorem eTup_r (f : M (List D)) (ρ : List S) : eTup f ρ = thnK (fun xs ρ => if xs.length ≤ SLine then .ok (.val (.tup xs)) ρ else .bad) ((f ρ)) ⟨⟩ := by
  show (f >>= fun xs => if xs.length ≤ SLine then pure (Hd.val (.tup xs)) else M.bad) ρ = _
  rw [bind_thn]; exact thn_fun fun x ρ => by split <;> rfl
@[simp] theorem eLst_r (f : M (List D)) (ρ : List S) : eLst f ρ = thnK (fun xs ρ => if xs.length ≤ SLine then .ok (.new (.lst xs)) ρ else .bad) ((f ρ)) ⟨⟩ := by
  show (f >>= fun xs => if xs.length ≤ SLine then pure (Hd.new (.lst xs)) else M.bad) ρ = _
  rw [bind_thn]; exact thn_fun fun x ρ => by split <;> rfl
@[simp] theorem sl0 : 0 ≤ SLine := Nat.zero_le _
theorem sl_of {n : Nat} (h : n ≤ 1000) : n ≤ SLine := Nat.le_trans h sline_ge
@[simp] theorem sl_lit1 : 1 ≤ SLine := sl_of (by decide)
@[simp] theorem sl_lit2 : 2 ≤ SLine := sl_of (by decide)
@[simp] theorem sl_lit3 : 3 ≤ SLine := sl_of (by decide)
@[simp] theorem sl_lit4 : 4 ≤ SLine := sl_of (by decide)
@[simp] theorem sl_lit5 : 5 ≤ SLine := sl_of (by decide)
@[simp] theorem sl_lit6 : 6 ≤ SLine := sl_of (by decide)
@[simp] theorem sl_lit16 : 16 ≤ SLine := sl_of (by decide)
@[simp] theorem sl_lit26 : 26 ≤ SLine := sl_of (by decide)
@[simp] theorem oNone_r (ρ : List S) : oNone ρ = .ok none ρ := (rfl)
@[simp] theorem int_q (i : Int) : int? (.int i) = some i := (rfl)
@[simp] theorem oSome_r (f : M Hd) (ρ : List S) : oSome f ρ = thnK (fun h ρ => thnK (fun d ρ => M.lift ((int? d).map some) ρ) ((rd h ρ)) ⟨⟩) ((f ρ)) ⟨⟩ := (rfl)
@[simp] theorem eSl_r (f : M Hd) (lo hi : M (Option Int)) (ρ : List S) : eSl f lo hi ρ = thnK (fun h ρ => thnK (fun l ρ => thnK (fun u ρ => thnK (fun d ρ => M.lift (slD d l u) ρ) ((rd h ρ)) ⟨⟩) ((hi ρ)) ⟨⟩) ((lo ρ)) ⟨⟩) ((f ρ)) ⟨⟩ := (rfl)
@[simp] theorem callM_r (m : Nat) (φ : List D → Out) (ds : List D) (ρ : List S) : callM m φ ds ρ = if ds.length = m then outHd (φ ds) ρ else .bad := (rfl)
@[simp] theorem eCall_r (m : Nat) (φ : List D → Out) (f : M (List Hd)) (ρ : List S) : eCall m φ f ρ = thnK (fun hs ρ => thnK (fun ds ρ => callM m φ ds ρ) ((rds hs ρ)) ⟨⟩) ((f ρ)) ⟨⟩ := (rfl)
@[simp] theorem outHd_fr (d : D) (ρ : List S) : outHd (.ret (.fr d)) ρ = .ok (.val d) ρ := (rfl)
@[simp] theorem outHd_own (d : D) (ρ : List S) : outHd (.ret (.own d)) ρ = .ok (.new d) ρ := (rfl)
@[simp] theorem outHd_exc (k : Nat) (ρ : List S) : outHd (.exc k) ρ = .exc k ρ := (rfl)
@[simp] theorem f1_r (g : D → Option Hd) (d : D) : f1 g [d] = g d := (rfl)
@[simp] theorem f2_r (g : D → D → Option Hd) (d e : D) : f2 g [d, e] = g d e := (rfl)
@[simp] theorem truM_r (d : D) (ρ : List S) : truM d ρ = M.lift (truD d) ρ := (rfl)
@[simp] theorem eOrT_r (a b : M Hd) (ρ : List S) : eOrT a b ρ = thnK (fun h ρ => thnK (fun d ρ => thnK (fun k ρ => (if k = true then pure h else b : M Hd) ρ) ((truM d ρ)) ⟨⟩) ((rd h ρ)) ⟨⟩) ((a ρ)) ⟨⟩ := (rfl)
@[simp] theorem eAndT_r (a b : M Hd) (ρ : List S) : eAndT a b ρ = thnK (fun h ρ => thnK (fun d ρ => thnK (fun k ρ => (if k = true then b else pure h : M Hd) ρ) ((truM d ρ)) ⟨⟩) ((rd h ρ)) ⟨⟩) ((a ρ)) ⟨⟩ := (rfl)
@[simp] theorem eNotT_r (a : M Hd) (ρ : List S) : eNotT a ρ = thnK (fun h ρ => thnK (fun d ρ => thnK (fun k ρ => .ok (.val (.bl !k)) ρ) ((truM d ρ)) ⟨⟩) ((rd h ρ)) ⟨⟩) ((a ρ)) ⟨⟩ := (rfl)
@[simp] theorem eChain_r (g g' : D → D → Option Hd) (a b e : M Hd) (ρ : List S) : eChain g g' a b e ρ = thnK (fun x ρ => thnK (fun y ρ => thnK (fun d1 ρ => thnK (fun d2 ρ => thnK (fun k ρ =>
    (if k = true then e >>= fun z => rd y >>= fun d2 => rd z >>= fun d3 => M.lift (g' d2 d3) else pure (.val (.bl false)) : M Hd) ρ) ((M.lift ((g d1 d2).bind fun h => match h with | .val (.bl k) => some k | _ => none) ρ)) ⟨⟩) ((rd y ρ)) ⟨⟩) ((rd x ρ)) ⟨⟩) ((b ρ)) ⟨⟩) ((a ρ)) ⟨⟩ := (rfl)
@[simp] theorem getOwn_r (i : Nat) (ρ : List S) : getOwn i ρ = M.lift (ownL (at_ ρ i)) ρ := by
  show (match ownL (at_ ρ i) with | some xs => R.ok xs ρ | none => .bad) = _
  cases ownL (at_ ρ i) <;> rfl
@[simp] theorem ownL_l (xs : List D) : ownL (.own (.lst xs)) = some xs := (rfl)
@[simp] theorem setOwn_r (i : Nat) (xs : List D) (ρ : List S) : setOwn i xs ρ = .ok () (ρ.set i (.own (.lst xs))) := (rfl)
@[simp] theorem guardM_r {α : Type} (b : Bool) (m : M α) (ρ : List S) : guardM b m ρ = bif b then m ρ else .bad := by cases b <;> rfl
@[simp] theorem eAppend_r (i : Nat) (f : M Hd) (ρ : List S) : eAppend i f ρ = thnK (fun _ ρ => thnK (fun h ρ => thnK (fun d ρ => thnK (fun xs ρ => guardM (decide (xs.length < SLine)) (setOwn i (xs ++ [d]) >>= fun _ => pure (.val .non)) ρ) ((getOwn i ρ)) ⟨⟩) ((fz h ρ)) ⟨⟩) ((f ρ)) ⟨⟩) ((getOwn i ρ)) ⟨⟩ := (rfl)
@[simp] theorem ePop_r (i : Nat) (ρ : List S) : ePop i ρ = thnK (fun xs ρ => thnK (fun d ρ => .ok (.val d) (ρ.set i (.own (.lst xs.dropLast)))) ((M.lift xs.getLast? ρ)) ⟨⟩) ((getOwn i ρ)) ⟨⟩ := (rfl)
@[simp] theorem lst_q (xs : List D) : lst? (.lst xs) = some xs := (rfl)
@[simp] theorem eExtend_r (i : Nat) (f : M Hd) (ρ : List S) : eExtend i f ρ = thnK (fun _ ρ => thnK (fun h ρ => thnK (fun d ρ => thnK (fun ys ρ => thnK (fun xs ρ => guardM (decide (xs.length + ys.length ≤ SLine)) (setOwn i (xs ++ ys) >>= fun _ => pure (.val .non)) ρ) ((getOwn i ρ)) ⟨⟩) ((M.lift (lst? d) ρ)) ⟨⟩) ((rd h ρ)) ⟨⟩) ((f ρ)) ⟨⟩) ((getOwn i ρ)) ⟨⟩ := (rfl)
/-! statements -/
@[simp] theorem sNx_r (ρ : List S) : sNx ρ = .ok .nx ρ := (rfl)
def Fl.seq (x : Fl) (g : M Fl) (ρ : List S) : R Fl := match x with | .nx => g ρ | x => .ok x ρ
@[simp] theorem seq_nx (g : M Fl) (ρ : List S) : Fl.nx.seq g ρ = g ρ := (rfl)
@[simp] theorem seq_rr (s : S) (g : M Fl) (ρ : List S) : (Fl.rr s).seq g ρ = .ok (.rr s) ρ := (rfl)
@[simp] theorem seq_rt (s : S) (g : M Fl) (ρ : List S) : (Fl.rt s).seq g ρ = .ok (.rt s) ρ := (rfl)
@[simp] theorem seq_bk (g : M Fl) (ρ : List S) : Fl.bk.seq g ρ = .ok .bk ρ := (rfl)
@[simp] theorem seq_ct (g : M Fl) (ρ : List S) : Fl.ct.seq g ρ = .ok .ct ρ := (rfl)
@[simp] theorem sSeq_r (f g : M Fl) (ρ : List S) : sSeq f g ρ = thnK (fun x ρ => x.seq g ρ) ((f ρ)) ⟨⟩ := by
  show (f >>= fun x => match x with | .nx => g | x => pure x) ρ = _
  rw [bind_thn]; exact thn_fun fun x ρ => by cases x <;> rfl
@[simp] theorem sExpr_r (f : M Hd) (ρ : List S) : sExpr f ρ = thnK (fun _ ρ => .ok .nx ρ) ((f ρ)) ⟨⟩ := (rfl)
@[simp] theorem sSet_r (i : Nat) (f : M Hd) (ρ : List S) : sSet i f ρ = thnK (fun h ρ => thnK (fun _ ρ => .ok .nx ρ) ((put i h ρ)) ⟨⟩) ((f ρ)) ⟨⟩ := (rfl)
@[simp] theorem sRetR_r (f : M Hd) (ρ : List S) : sRetR f ρ = thnK (fun h ρ => thnK (fun s ρ => .ok (.rr s) ρ) ((giv h ρ)) ⟨⟩) ((f ρ)) ⟨⟩ := (rfl)
@[simp] theorem sRet_r (f : M Hd) (ρ : List S) : sRet f ρ = thnK (fun h ρ => thnK (fun s ρ => .ok (.rt s) ρ) ((giv h ρ)) ⟨⟩) ((f ρ)) ⟨⟩ := (rfl)
@[simp] theorem sIf_r (c : M Bool) (f g : M Fl) (ρ : List S) : sIf c f g ρ = thnK (fun b ρ => bif b then f ρ else g ρ) ((c ρ)) ⟨⟩ := by
  show (c >>= fun b => if b = true then f else g) ρ = _
  rw [bind_thn]; exact thn_fun fun x ρ => by cases x <;> rfl
@[simp] theorem sRaise_r (k : Nat) (ρ : List S) : sRaise k ρ = .exc k ρ := (rfl)
@[simp] theorem stl_val (d : D) (ρ : List S) : stl (.val d) ρ = .ok (.val d) ρ := (rfl)
@[simp] theorem stl_new (d : D) (ρ : List S) : stl (.new d) ρ = .ok (.new d) ρ := (rfl)
@[simp] theorem stl_slot (i : Nat) (ρ : List S) : stl (.slot i) ρ = thnK (fun d ρ => .ok (.val d) ρ) ((fz (.slot i) ρ)) ⟨⟩ := (rfl)
@[simp] theorem pCons_r (a : M Hd) (r : M (List Hd)) (ρ : List S) : pCons a r ρ = thnK (fun x ρ => thnK (fun h ρ => thnK (fun hs ρ => guardM (rcDist h hs) (pure (h :: hs)) ρ) ((r ρ)) ⟨⟩) ((stl x ρ)) ⟨⟩) ((a ρ)) ⟨⟩ := (rfl)
@[simp] theorem stl_rc (j : Nat) (d : D) (ρ : List S) : stl (.rc j d) ρ = .ok (.rc j d) ρ := (rfl)
@[simp] theorem rcDist_val (d : D) (hs : List Hd) : rcDist (.val d) hs = true := (rfl)
@[simp] theorem rcDist_new (d : D) (hs : List Hd) : rcDist (.new d) hs = true := (rfl)
@[simp] theorem rcDist_slot (i : Nat) (hs : List Hd) : rcDist (.slot i) hs = true := (rfl)
@[simp] theorem puts_nil (ρ : List S) : puts [] [] ρ = .ok () ρ := (rfl)
@[simp] theorem puts_cons (i : Nat) (is : List Nat) (h : Hd) (hs : List Hd) (ρ : List S) : puts (i :: is) (h :: hs) ρ = thnK (fun _ ρ => puts is hs ρ) ((put i h ρ)) ⟨⟩ := (rfl)
@[simp] theorem sPar_r (is : List Nat) (f : M (List Hd)) (ρ : List S) : sPar is f ρ = thnK (fun hs ρ => thnK (fun _ ρ => .ok .nx ρ) ((puts is hs ρ)) ⟨⟩) ((f ρ)) ⟨⟩ := (rfl)
def R.nx {α : Type} : R α → R α | .ok a ρ => .ok a ρ | _ => .bad
@[simp] theorem nx_ok {α : Type} (a : α) (ρ : List S) : (R.ok a ρ).nx = .ok a ρ := (rfl)
theorem nox_r {α : Type} (m : M α) (ρ : List S) : m.nox ρ = (m ρ).nx := by
  show (match m ρ with | .ok a ρ' => R.ok a ρ' | _ => .bad) = _
  cases m ρ <;> rfl
@[simp] theorem gN_r (i : Nat) (d : D) (ρ : List S) : (gN i d) ρ = .ok () (ρ.set i (.fr d)) := (rfl)
@[simp] theorem gsNil_r (ρ : List S) : gsNil [] ρ = .ok () ρ := (rfl)
@[simp] theorem gsCons_r (f : D → M Unit) (g : List D → M Unit) (d : D) (r : List D) (ρ : List S) : gsCons f g (d :: r) ρ = thnK (fun _ ρ => g r ρ) ((f d ρ)) ⟨⟩ := (rfl)
@[simp] theorem gT_r (k : Nat) (g : List D → M Unit) (ds : List D) (ρ : List S) : gT k g (.tup ds) ρ = if ds.length = k then g ds ρ else .bad := by
  show (if ds.length = k then g ds else M.bad) ρ = _
  split <;> rfl
@[simp] theorem sUnp_r (tg : D → M Unit) (f : M Hd) (ρ : List S) : sUnp tg f ρ = thnK (fun h ρ => thnK (fun d ρ => thnK (fun _ ρ => .ok .nx ρ) ((tg d ρ).nx) ⟨⟩) ((fz h ρ)) ⟨⟩) ((f ρ)) ⟨⟩ := by
  show (f >>= fun h => fz h >>= fun d => (tg d).nox >>= fun _ => pure Fl.nx) ρ = _
  simp only [bind_thn, nox_r]; rfl
/-! loops -/
@[simp] theorem itAny_r (f : M Hd) (ρ : List S) : itAny f ρ = thnK (fun h ρ => thnK (fun d ρ => itOf h d ρ) ((rd h ρ)) ⟨⟩) ((f ρ)) ⟨⟩ := (rfl)
@[simp] theorem itOf_l (h : Hd) (xs : List D) (ρ : List S) : itOf h (.lst xs) ρ = .ok (xs, lentOf h ρ) ρ := (rfl)
@[simp] theorem itOf_t (h : Hd) (xs : List D) (ρ : List S) : itOf h (.tup xs) ρ = .ok (xs, none) ρ := (rfl)
@[simp] theorem itOf_s (h : Hd) (s : List Nat) (ρ : List S) : itOf h (.str s) ρ = .ok (s.map fun c => .str [c], none) ρ := (rfl)
@[simp] theorem lentOf_v (d : D) (ρ : List S) : lentOf (.val d) ρ = none := (rfl)
@[simp] theorem lentOf_n (d : D) (ρ : List S) : lentOf (.new d) ρ = none := (rfl)
@[simp] theorem lentOf_s (i : Nat) (ρ : List S) : lentOf (.slot i) ρ = (at_ ρ i).lentOf i := (rfl)
@[simp] theorem SlentOf_o (i : Nat) (d : D) : (S.own d).lentOf i = some i := (rfl)
@[simp] theorem SlentOf_b (i : Nat) (d : D) : (S.bor d).lentOf i = none := (rfl)
@[simp] theorem SlentOf_f (i : Nat) (d : D) : (S.fr d).lentOf i = none := (rfl)
@[simp] theorem itRng_r (m : Nat) (f : M (List Hd)) (ρ : List S) : itRngN m f ρ = thnK (fun hs ρ => if hs.length = m then thnK (fun ds ρ => M.lift ((rgD ds).map fun xs => (xs, none)) ρ) (rds hs ρ) ⟨⟩ else .bad) (f ρ) ⟨⟩ := by
  show ((f >>= fun hs => if hs.length = m then pure hs else M.bad) >>= fun hs => rds hs >>= fun ds => M.lift ((rgD ds).map fun xs => (xs, none))) ρ = _
  simp only [bind_thn]
  cases f ρ with
  | ok a ρ' =>
    simp only [thn_ok, ite_run]
    split <;> rfl
  | exc k ρ' => rfl
  | bad => rfl
theorem sFor_r (it : M (List D × Option Nat)) (tg : D → M Unit) (body : M Fl) (ρ : List S) : sFor it tg body ρ = thnK (fun p ρ => lentF p.2 (loopS tg body p.1) ρ) ((it ρ)) ⟨⟩ := (rfl)
@[simp] theorem lentF_n (m : M Fl) (ρ : List S) : lentF none m ρ = (m ρ).backF none := (rfl)
theorem lentF_s (i : Nat) (d : D) (m : M Fl) (ρ : List S) (h : at_ ρ i = .own d) : lentF (some i) m ρ = (m (ρ.set i (.bor d))).backF (some i) := by
  show (match (at_ ρ i).lend i ρ with | .ok _ ρ' => (m ρ').backF (some i) | _ => .bad) = _
  rw [h]; rfl
@[simp] theorem backF_nx (ρ : List S) : (R.ok Fl.nx ρ).backF none = .ok .nx ρ := (rfl)
@[simp] theorem backF_rr (s : S) (ρ : List S) : (R.ok (Fl.rr s) ρ).backF none = .ok (.rr s) ρ := (rfl)
@[simp] theorem backF_rt (l : Option Nat) (s : S) (ρ : List S) : (R.ok (Fl.rt s) ρ).backF l = .ok (.rt s) ρ := (rfl)
@[simp] theorem backF_exc (k : Nat) (ρ : List S) : (R.exc k ρ : R Fl).backF none = .exc k ρ := (rfl)
theorem backF_s (i : Nat) (d : D) (ρ : List S) (h : at_ ρ i = .bor d) : (R.ok Fl.nx ρ).backF (some i) = .ok .nx (ρ.set i (.own d)) := by
  show (match (at_ ρ i).unlend i ρ with | .ok _ ρ' => R.ok Fl.nx ρ' | _ => .bad) = _
  rw [h]; rfl
theorem loop_nil (tg : D → M Unit) (body : M Fl) (ρ : List S) : loopS tg body [] ρ = .ok .nx ρ := (rfl)
/-- one turn -/
def Fl.turn (x : Fl) (g : M Fl) (ρ : List S) : R Fl := match x with | .nx => g ρ | .ct => g ρ | .bk => .ok .nx ρ | .rt s => .ok (.rt s) ρ | .rr s => .ok (.rr s) ρ
@[simp] theorem turn_nx (g : M Fl) (ρ : List S) : Fl.nx.turn g ρ = g ρ := (rfl)
@[simp] theorem turn_ct (g : M Fl) (ρ : List S) : Fl.ct.turn g ρ = g ρ := (rfl)
@[simp] theorem turn_bk (g : M Fl) (ρ : List S) : Fl.bk.turn g ρ = .ok .nx ρ := (rfl)
@[simp] theorem turn_rr (s : S) (g : M Fl) (ρ : List S) : (Fl.rr s).turn g ρ = .ok (.rr s) ρ := (rfl)
@[simp] theorem turn_rt (s : S) (g : M Fl) (ρ : List S) : (Fl.rt s).turn g ρ = .ok (.rt s) ρ := (rfl)
theorem loop_cons (tg : D → M Unit) (body : M Fl) (d : D) (ds : List D) (ρ : List S) : loopS tg body (d :: ds) ρ = thnK (fun _ ρ => thnK (fun x ρ => x.turn (loopS tg body ds) ρ) ((body ρ)) ⟨⟩) ((tg d ρ).nx) ⟨⟩ := by
  show ((tg d).nox >>= fun _ => body >>= fun x => match x with
    | .nx => loopS tg body ds
    | .ct => loopS tg body ds
    | .bk => pure .nx
    | .rt s => pure (.rt s)
    | .rr s => pure (.rr s)) ρ = _
  rw [bind_thn, nox_r]; exact thn_fun fun x ρ => by rw [bind_thn]; exact thn_fun fun x ρ => by cases x <;> rfl
/-- an invariant: every turn goes on to the next state; then after all: the last state -/
theorem loop_inv {tg : D → M Unit} {body : M Fl} (I : List D → List S → Prop) (Q : R Fl → Prop) (h0 : ∀ ρ, I [] ρ → Q (.ok .nx ρ))
    (h1 : ∀ d ds ρ, I (d :: ds) ρ → (∃ ρ', (tg d ρ).nx.thn (fun _ ρ => body ρ) = .ok .nx ρ' ∧ I ds ρ') ∨ ∃ ρ' s, (tg d ρ).nx.thn (fun _ ρ => body ρ) = .ok (.rt s) ρ' ∧ Q (.ok (.rt s) ρ')) :
    ∀ xs ρ, I xs ρ → Q (loopS tg body xs ρ)
  | [], ρ, h => h0 ρ h
  | d :: ds, ρ, h => by
    rw [loop_cons]
    rcases h1 d ds ρ h with ⟨ρ', e, q⟩ | ⟨ρ', s, e, q⟩
    · have e2 : (thnK (fun _ ρ => thnK (fun x ρ => x.turn (loopS tg body ds) ρ) ((body ρ)) ⟨⟩) ((tg d ρ).nx) ⟨⟩) = loopS tg body ds ρ' := by
        cases e3 : (tg d ρ).nx with
        | ok a ρ2 => rw [e3] at e; simp only [thn_ok] at e ⊢; rw [e]; rfl
        | exc k ρ2 => rw [e3] at e; cases e
        | bad => rw [e3] at e; cases e
      rw [e2]
      exact loop_inv I Q h0 h1 ds ρ' q
    · have e2 : (thnK (fun _ ρ => thnK (fun x ρ => x.turn (loopS tg body ds) ρ) ((body ρ)) ⟨⟩) ((tg d ρ).nx) ⟨⟩) = .ok (.rt s) ρ' := by
        cases e3 : (tg d ρ).nx with
        | ok a ρ2 => rw [e3] at e; simp only [thn_ok] at e ⊢; rw [e]; rfl
        | exc k ρ2 => rw [e3] at e; cases e
        | bad => rw [e3] at e; cases e
      rw [e2]
      exact q
/-! comprehensions: one name, read alone -/
theorem set_self {ρ : List S} {v : Nat} {s : S} (h : at_ ρ v = s) (hs : v < ρ.length) : ρ.set v s = ρ := by
  apply List.ext_getElem?
  intro i
  by_cases e : v = i
  · subst e
    rw [List.getElem?_set_self hs, List.getElem?_eq_getElem hs]
    unfold at_ at h
    rw [List.getElem?_eq_getElem hs] at h
    exact congrArg some h.symm
  · rw [List.getElem?_set_ne e]
theorem lcS_one {v : Nat} {cond : M Bool} {elt : M Hd} {ρ : List S} (c : D → Bool) (e : D → D) (hw : ρ.set v .un = ρ) : ∀ (xs acc : List D), (∀ x ∈ xs, cond (ρ.set v (.fr x)) = .ok (c x) (ρ.set v (.fr x)) ∧ (c x = true → elt (ρ.set v (.fr x)) = .ok (.val (e x)) (ρ.set v (.fr x)))) → acc.length + xs.length ≤ SLine →
    lcS (gN v) cond elt [v] xs acc ρ = .ok (acc ++ (xs.filter c).map e) ρ
  | [], acc, h, hl => by show R.ok acc ρ = _; simp
  | x :: xs, acc, h, hl => by
    have step : lcS (gN v) cond elt [v] (x :: xs) acc ρ = ((gN v x).nox >>= fun _ => cond.nox >>= fun b =>
      if b = true then elt.nox >>= fun h => fz h >>= fun x => guardM (decide (acc.length < SLine)) (wipeM [v] (lcS (gN v) cond elt [v] xs (acc ++ [x])))
      else wipeM [v] (lcS (gN v) cond elt [v] xs acc)) ρ := (rfl)
    have h1 := h x List.mem_cons_self
    have hl : acc.length + (xs.length + 1) ≤ SLine := hl
    simp only [step, bind_thn, nox_r, gN_r, nx_ok, thn_ok, h1.1]
    have w : ∀ a, wipeM [v] (lcS (gN v) cond elt [v] xs a) (ρ.set v (.fr x)) = lcS (gN v) cond elt [v] xs a ρ := fun a => by
      show lcS (gN v) cond elt [v] xs a ((ρ.set v (.fr x)).set v .un) = _
      rw [List.set_set, hw]
    cases ec : c x with
    | false =>
      rw [if_neg Bool.false_ne_true, w, lcS_one c e hw xs acc (fun y hy => h y (List.mem_cons_of_mem _ hy)) (by omega), List.filter_cons_of_neg (by rw [ec]; exact Bool.false_ne_true)]
    | true =>
      simp only [if_true, bind_thn, nox_r, h1.2 ec, nx_ok, thn_ok, fz_val, guardM_r, decide_eq_true (show acc.length < SLine by omega), cond_true]
      rw [w, lcS_one c e hw xs _ (fun y hy => h y (List.mem_cons_of_mem _ hy)) (by rw [List.length_append]; simp only [List.length_cons, List.length_nil]; omega), List.filter_cons_of_pos ec]
      simp
theorem eLc_one {it : M (List D × Option Nat)} {v : Nat} {cond : M Bool} {elt : M Hd} {ρ : List S} {xs : List D} (c : D → Bool) (e : D → D) (hi : it ρ = .ok (xs, none) ρ) (hv : v < ρ.length) (ho : (at_ ρ v).notOwn = true)
    (h : ∀ x ∈ xs, cond (ρ.set v (.fr x)) = .ok (c x) (ρ.set v (.fr x)) ∧ (c x = true → elt (ρ.set v (.fr x)) = .ok (.val (e x)) (ρ.set v (.fr x)))) (hl : xs.length ≤ SLine) :
    eLc it (gN v) cond elt [v] ρ = .ok (.new (.lst ((xs.filter c).map e))) ρ := by
  show (it >>= fun p => lent p.2 (lcF [v] (lcS (gN v) cond elt [v] p.1 []))) ρ = _
  simp only [bind_thn, hi, thn_ok]
  show (lcF [v] (lcS (gN v) cond elt [v] xs []) ρ).back none = _
  have e1 : lcS (gN v) cond elt [v] xs [] (wipeS ρ [v]) = .ok ((xs.filter c).map e) (ρ.set v .un) := by
    show lcS (gN v) cond elt [v] xs [] (ρ.set v .un) = _
    have := lcS_one (v := v) (cond := cond) (elt := elt) (ρ := ρ.set v .un) c e (List.set_set ..) xs [] (fun x hx => by
      rw [List.set_set]; exact h x hx) (by simpa using hl)
    rw [this, List.nil_append]
  have e2 : lcF [v] (lcS (gN v) cond elt [v] xs []) ρ = .ok (.new (.lst ((xs.filter c).map e))) ρ := by
    show (if [v].all (fun v => (at_ ρ v).notOwn) = true then
      match lcS (gN v) cond elt [v] xs [] (wipeS ρ [v]) with
      | .ok ds ρ' => R.ok (Hd.new (.lst ds)) (back ρ' ρ [v])
      | _ => .bad else .bad) = _
    rw [if_pos (by simpa using ho), e1]
    show R.ok _ ((ρ.set v .un).set v (at_ ρ v)) = _
    rw [List.set_set, set_self rfl hv]
  rw [e2]; rfl
/-- over a list of a name's own: lent meanwhile -/
theorem eLc_own {it : M (List D × Option Nat)} {v i : Nat} {cond : M Bool} {elt : M Hd} {ρ : List S} {xs : List D} {d : D} (c : D → Bool) (e : D → D) (hi : it ρ = .ok (xs, some i) ρ) (hd : at_ ρ i = .own d) (hil : i < ρ.length) (hiv : i ≠ v) (hv : v < ρ.length) (ho : (at_ ρ v).notOwn = true)
    (h : ∀ x ∈ xs, cond ((ρ.set i (.bor d)).set v (.fr x)) = .ok (c x) ((ρ.set i (.bor d)).set v (.fr x)) ∧ (c x = true → elt ((ρ.set i (.bor d)).set v (.fr x)) = .ok (.val (e x)) ((ρ.set i (.bor d)).set v (.fr x)))) (hl : xs.length ≤ SLine) :
    eLc it (gN v) cond elt [v] ρ = .ok (.new (.lst ((xs.filter c).map e))) ρ := by
  have hb : at_ (ρ.set i (.bor d)) v = at_ ρ v := by unfold at_; rw [List.getElem?_set_ne hiv]
  have key := eLc_one (it := fun ρ => .ok (xs, none) ρ) (v := v) (cond := cond) (elt := elt) (ρ := ρ.set i (.bor d)) c e rfl (by rw [List.length_set]; exact hv) (by rw [hb]; exact ho) h hl
  have key : (lcF [v] (lcS (gN v) cond elt [v] xs []) (ρ.set i (.bor d))).back none = .ok (.new (.lst ((xs.filter c).map e))) (ρ.set i (.bor d)) := key
  have key : lcF [v] (lcS (gN v) cond elt [v] xs []) (ρ.set i (.bor d)) = .ok (.new (.lst ((xs.filter c).map e))) (ρ.set i (.bor d)) := by
    cases q : lcF [v] (lcS (gN v) cond elt [v] xs []) (ρ.set i (.bor d)) with
    | ok a ρ' => rw [q] at key; exact key
    | exc k ρ' => rw [q] at key; cases key
    | bad => rw [q] at key; cases key
  show (it >>= fun p => lent p.2 (lcF [v] (lcS (gN v) cond elt [v] p.1 []))) ρ = _
  simp only [bind_thn, hi, thn_ok]
  show (match (at_ ρ i).lend i ρ with | .ok _ ρ' => (lcF [v] (lcS (gN v) cond elt [v] xs []) ρ').back (some i) | _ => .bad) = _
  rw [hd]
  show (lcF [v] (lcS (gN v) cond elt [v] xs []) (ρ.set i (.bor d))).back (some i) = _
  rw [key]
  show (match (at_ (ρ.set i (.bor d)) i).unlend i (ρ.set i (.bor d)) with | .ok _ ρ' => R.ok (Hd.new (.lst ((xs.filter c).map e))) ρ' | _ => .bad) = _
  have e3 : at_ (ρ.set i (.bor d)) i = .bor d := by unfold at_; rw [List.getElem?_set_self hil]; rfl
  rw [e3]
  show R.ok _ ((ρ.set i (.bor d)).set i (.own d)) = _
  rw [List.set_set, set_self hd hil]
/-! ### operators on data -/
@[simp] theorem aPlus_i (i j : Int) : aPlus (.int i) (.int j) = some (.val (.int (i + j))) := (rfl)
theorem aPlus_s {s t : List Nat} (h : s.length + t.length ≤ 1000) : aPlus (.str s) (.str t) = some (.val (.str (s ++ t))) := by
  show Option.or none (Option.or (if s.length + t.length ≤ SLine then some (Hd.val (.str (s ++ t))) else none) none) = _
  rw [if_pos (sl_of h)]; rfl
theorem aPlus_l {s t : List D} (h : s.length + t.length ≤ 1000) : aPlus (.lst s) (.lst t) = some (.new (.lst (s ++ t))) := by
  show Option.or none (Option.or none (if s.length + t.length ≤ SLine then some (Hd.new (.lst (s ++ t))) else none)) = _
  rw [if_pos (sl_of h)]; rfl
@[simp] theorem aSub_i (i j : Int) : aSub (.int i) (.int j) = some (.val (.int (i - j))) := (rfl)
@[simp] theorem aNeg_i (i : Int) : aNeg (.int i) = some (.val (.int (-i))) := (rfl)
@[simp] theorem cLt_i (i j : Int) : cLt (.int i) (.int j) = some (.val (.bl (decide (i < j)))) := (rfl)
@[simp] theorem cLe_i (i j : Int) : cLe (.int i) (.int j) = some (.val (.bl (decide (i ≤ j)))) := (rfl)
@[simp] theorem cGt_i (i j : Int) : cGt (.int i) (.int j) = some (.val (.bl (decide (j < i)))) := (rfl)
@[simp] theorem cGe_i (i j : Int) : cGe (.int i) (.int j) = some (.val (.bl (decide (j ≤ i)))) := (rfl)
theorem aMod_i {i j : Int} (h : 0 < j) : aMod (.int i) (.int j) = some (.val (.int (i % j))) := if_pos h
theorem aFdiv_i {i j : Int} (h : 0 < j) (h2 : j < 1073741824) : aFdiv (.int i) (.int j) = some (.val (.int (i / j))) := if_pos ⟨h, h2⟩
@[simp] theorem cEq_s (s t : List Nat) : cEq (.str s) (.str t) = some (.val (.bl (s == t))) := (rfl)
@[simp] theorem cNe_s (s t : List Nat) : cNe (.str s) (.str t) = some (.val (.bl !(s == t))) := (rfl)
@[simp] theorem cEq_i (s t : Int) : cEq (.int s) (.int t) = some (.val (.bl (s == t))) := (rfl)
@[simp] theorem cNe_i (s t : Int) : cNe (.int s) (.int t) = some (.val (.bl !(s == t))) := (rfl)
@[simp] theorem cEq_b (s t : Bool) : cEq (.bl s) (.bl t) = some (.val (.bl (s == t))) := (rfl)
@[simp] theorem cNe_b (s t : Bool) : cNe (.bl s) (.bl t) = some (.val (.bl !(s == t))) := (rfl)
@[simp] theorem lenD_l (xs : List D) : lenD (.lst xs) = some (.val (.int xs.length)) := (rfl)
@[simp] theorem lenD_t (xs : List D) : lenD (.tup xs) = some (.val (.int xs.length)) := (rfl)
@[simp] theorem lenD_c (xs : List Int) : lenD (.scr xs) = some (.val (.int xs.length)) := (rfl)
theorem lenD_s {s : List Nat} (h : s.length ≤ 1000) : lenD (.str s) = some (.val (.int s.length)) := if_pos (sl_of h)
@[simp] theorem maxD_i (i j : Int) : maxD (.int i) (.int j) = some (.val (.int (max i j))) := by
  show some (Hd.val (.int (if j > i then j else i))) = _
  congr 3
  by_cases h : j > i
  · rw [if_pos h]; omega
  · rw [if_neg h]; omega
@[simp] theorem minD_i (i j : Int) : minD (.int i) (.int j) = some (.val (.int (min i j))) := by
  show some (Hd.val (.int (if j < i then j else i))) = _
  congr 3
  by_cases h : j < i
  · rw [if_pos h]; omega
  · rw [if_neg h]; omega
@[simp] theorem isiD_r (d : D) (a b : String) (h : tyD d = some a) (hb : isiT.contains b = true) : isiD d (.ty b) = some (.val (.bl (isiB a b))) := by
  unfold isiD; rw [h]; exact if_pos hb
end Vi

/-! ## ViRun2 -/
set_option Elab.async false
set_option linter.all false
set_option maxRecDepth 100000
set_option maxHeartbeats 400000
namespace Vi
open PySem L2
/-! ### more that simp runs -/
theorem sline_is : SLine = 1000000 := by unfold SLine; rfl
theorem sl_le {n : Nat} (h : n ≤ 1000000) : n ≤ SLine := by rw [sline_is]; exact h
theorem sl_less {n : Nat} (h : n < 1000000) : n < SLine := by rw [sline_is]; exact h
@[simp] theorem int1_fr (a : Int) : int1 (.fr (.int a)) = some a := (rfl)
def augO (i : Nat) (g : Int → Int → Int) (f : M Hd) (o : Option Int) (ρ : List S) : R Fl := match o with
  | some a => thnK (fun h ρ => thnK (fun d ρ => thnK (fun b ρ => .ok .nx (ρ.set i (.fr (.int (g a b))))) ((M.lift (int? d) ρ)) ⟨⟩) ((rd h ρ)) ⟨⟩) ((f ρ)) ⟨⟩
  | none => .bad
@[simp] theorem sAug_r (i : Nat) (g : Int → Int → Int) (f : M Hd) (ρ : List S) : sAug i g f ρ = augO i g f (int1 (at_ ρ i)) ρ := (rfl)
@[simp] theorem augO_s (i : Nat) (g : Int → Int → Int) (f : M Hd) (a : Int) (ρ : List S) : augO i g f (some a) ρ = thnK (fun h ρ => thnK (fun d ρ => thnK (fun b ρ => .ok .nx (ρ.set i (.fr (.int (g a b))))) ((M.lift (int? d) ρ)) ⟨⟩) ((rd h ρ)) ⟨⟩) ((f ρ)) ⟨⟩ := (rfl)
def tryX (i : Nat) (o : Option Bool) (k : Nat) (suite : Nat → M Fl) (ρ : List S) : R Fl := match o with
  | some true => if ρ.all noES = true then endTry i (suite k (ρ.set i (.fr (.cls 0)))) else .bad
  | some false => .exc k ρ
  | none => .bad
def tryR (i : Nat) (hd : Nat → Option Bool) (suite : Nat → M Fl) (r : R Fl) : R Fl := match r with
  | .exc k ρ => tryX i (hd k) k suite ρ
  | r => r
@[simp] theorem sTry_r (i : Nat) (hd : Nat → Option Bool) (body : M Fl) (suite : Nat → M Fl) (ρ : List S) : sTry i hd body suite ρ = tryR i hd suite (body ρ) := by
  unfold sTry tryR
  cases body ρ <;> rfl
@[simp] theorem tryR_ok (i : Nat) (hd : Nat → Option Bool) (suite : Nat → M Fl) (x : Fl) (ρ : List S) : tryR i hd suite (.ok x ρ) = .ok x ρ := (rfl)
@[simp] theorem tryR_exc (i : Nat) (hd : Nat → Option Bool) (suite : Nat → M Fl) (k : Nat) (ρ : List S) : tryR i hd suite (.exc k ρ) = tryX i (hd k) k suite ρ := (rfl)
@[simp] theorem tryX_t (i k : Nat) (suite : Nat → M Fl) (ρ : List S) : tryX i (some true) k suite ρ = if ρ.all noES = true then endTry i (suite k (ρ.set i (.fr (.cls 0)))) else .bad := (rfl)
@[simp] theorem endTry_nx (i : Nat) (ρ : List S) : endTry i (.ok .nx ρ) = if (ρ.set i .un).all noES = true then .ok .nx (ρ.set i .un) else .bad := (rfl)
def enO (h : Hd) (o : Option (List D)) (ρ : List S) : R (List D × Option Nat) := match o with
  | some xs => .ok (enumD 0 xs, lentOf h ρ) ρ
  | none => .bad
@[simp] theorem lstOf_l (xs : List D) : lstOf (.lst xs) = some xs := (rfl)
@[simp] theorem itEnum_r (f : M Hd) (ρ : List S) : itEnum f ρ = thnK (fun h ρ => thnK (fun d ρ => enO h (lstOf d) ρ) ((rd h ρ)) ⟨⟩) ((f ρ)) ⟨⟩ := by
  show (f >>= fun h => rd h >>= fun d => fun ρ => match lstOf d with
    | some xs => .ok (enumD 0 xs, lentOf h ρ) ρ
    | none => .bad) ρ = _
  simp only [bind_thn]
  exact thn_fun fun h ρ => thn_fun fun d ρ => by cases lstOf d <;> rfl
@[simp] theorem enO_s (h : Hd) (xs : List D) (ρ : List S) : enO h (some xs) ρ = .ok (enumD 0 xs, lentOf h ρ) ρ := (rfl)
def zipO (h : Hd) (o p : Option (List D)) (l : Option Nat) (ρ : List S) : R (List D × Option Nat) := match o, p, l with
  | some xs, some ys, none => .ok (zipD xs ys, lentOf h ρ) ρ
  | _, _, _ => .bad
@[simp] theorem itZip_r (f g : M Hd) (ρ : List S) : itZip f g ρ = thnK (fun h ρ => thnK (fun k ρ => thnK (fun d ρ => thnK (fun e ρ => zipO h (lstOf d) (lstOf e) (lentOf k ρ) ρ) ((rd k ρ)) ⟨⟩) ((rd h ρ)) ⟨⟩) ((g ρ)) ⟨⟩) ((f ρ)) ⟨⟩ := by
  show (f >>= fun h => g >>= fun k => rd h >>= fun d => rd k >>= fun e => zipEnd h k d e) ρ = _
  simp only [bind_thn]
  exact thn_fun fun h ρ => thn_fun fun k ρ => thn_fun fun d ρ => thn_fun fun e ρ => by
    unfold zipEnd zipO
    cases lstOf d <;> cases lstOf e <;> cases lentOf k ρ <;> rfl
@[simp] theorem zipO_s (h : Hd) (xs ys : List D) (ρ : List S) : zipO h (some xs) (some ys) none ρ = .ok (zipD xs ys, lentOf h ρ) ρ := (rfl)
/-! while -/
theorem while_s (c : M Bool) (b : M Fl) (m : Nat) (ρ : List S) : sWhile c b (m + 1) ρ = thnK (fun x ρ => bif x then thnK (fun y ρ => y.turn (sWhile c b m) ρ) ((b ρ)) ⟨⟩ else .ok .nx ρ) ((c ρ)) ⟨⟩ := by
  show (c >>= fun x => if x = true then b >>= fun y => match y with
      | .nx => sWhile c b m
      | .ct => sWhile c b m
      | .bk => pure .nx
      | .rt s => pure (.rt s)
      | .rr s => pure (.rr s)
    else pure .nx) ρ = _
  rw [bind_thn]
  refine thn_fun fun x ρ => ?_
  cases x with
  | false => rfl
  | true =>
    show (b >>= fun y => match y with
      | .nx => sWhile c b m
      | .ct => sWhile c b m
      | .bk => pure .nx
      | .rt s => pure (.rt s)
      | .rr s => pure (.rr s)) ρ = _
    rw [bind_thn]
    exact thn_fun fun y ρ => by cases y <;> rfl
/-! a loop as a fold -/
theorem loop_fold {α : Type} {tg : D → M Unit} {body : M Fl} (st : α → List S) (f : α → D → α) : ∀ (xs : List D) (a : α), (∀ (a : α) (d : D), d ∈ xs → thnK (fun _ ρ => body ρ) (tg d (st a)).nx ⟨⟩ = .ok .nx (st (f a d))) → loopS tg body xs (st a) = .ok .nx (st (xs.foldl f a))
  | [], a, _ => rfl
  | d :: ds, a, h => by
    rw [loop_cons]
    have e := h a d List.mem_cons_self
    cases q : (tg d (st a)).nx with
    | ok u ρ =>
      rw [q] at e
      simp only [thn_ok] at e ⊢
      rw [e]
      simp only [thn_ok, turn_nx]
      exact loop_fold st f ds (f a d) fun a d hd => h a d (List.mem_cons_of_mem _ hd)
    | exc k ρ => rw [q] at e; cases e
    | bad => rw [q] at e; cases e
/-! comprehensions of any names -/
theorem lcS_gen {tg : D → M Unit} {cond : M Bool} {elt : M Hd} {vs : List Nat} {ρw : List S} (c : D → Bool) (e : D → D) : ∀ (xs acc : List D), (∀ x ∈ xs, ∃ ρx, (tg x ρw).nx = .ok () ρx ∧ cond ρx = .ok (c x) ρx ∧ (c x = true → thnK (fun h ρ => fz h ρ) (elt ρx) ⟨⟩ = .ok (e x) ρx) ∧ wipeS ρx vs = ρw) → acc.length + xs.length ≤ SLine →
    lcS tg cond elt vs xs acc ρw = .ok (acc ++ (xs.filter c).map e) ρw
  | [], acc, h, hl => by show R.ok acc ρw = _; simp
  | x :: xs, acc, h, hl => by
    have step : lcS tg cond elt vs (x :: xs) acc ρw = ((tg x).nox >>= fun _ => cond.nox >>= fun b =>
      if b = true then elt.nox >>= fun h => fz h >>= fun x => guardM (decide (acc.length < SLine)) (wipeM vs (lcS tg cond elt vs xs (acc ++ [x])))
      else wipeM vs (lcS tg cond elt vs xs acc)) ρw := (rfl)
    obtain ⟨ρx, h1, h2, h3, h4⟩ := h x List.mem_cons_self
    have hl : acc.length + (xs.length + 1) ≤ SLine := hl
    have w : ∀ a, wipeM vs (lcS tg cond elt vs xs a) ρx = lcS tg cond elt vs xs a ρw := fun a => by
      show lcS tg cond elt vs xs a (wipeS ρx vs) = _
      rw [h4]
    rw [step]
    simp only [bind_thn, nox_r, h1, thn_ok, h2, nx_ok]
    cases ec : c x with
    | false =>
      rw [if_neg Bool.false_ne_true, w, lcS_gen c e xs acc (fun y hy => h y (List.mem_cons_of_mem _ hy)) (by omega), List.filter_cons_of_neg (by rw [ec]; exact Bool.false_ne_true)]
    | true =>
      have h3 := h3 ec
      rw [if_pos rfl]
      simp only [bind_thn, nox_r]
      cases q : elt ρx with
      | exc k ρ => rw [q] at h3; cases h3
      | bad => rw [q] at h3; cases h3
      | ok hh ρ2 =>
        rw [q] at h3
        simp only [nx_ok, thn_ok, bind_thn] at h3 ⊢
        rw [h3]
        simp only [thn_ok, guardM_r, decide_eq_true (show acc.length < SLine by omega), cond_true]
        rw [w, lcS_gen c e xs _ (fun y hy => h y (List.mem_cons_of_mem _ hy)) (by rw [List.length_append]; simp only [List.length_cons, List.length_nil]; omega), List.filter_cons_of_pos ec]
        simp
theorem eLc_gen {it : M (List D × Option Nat)} {tg : D → M Unit} {cond : M Bool} {elt : M Hd} {vs : List Nat} {ρ : List S} {xs : List D} (c : D → Bool) (e : D → D) (hi : it ρ = .ok (xs, none) ρ) (ho : vs.all (fun v => (at_ ρ v).notOwn) = true) (hb : back (wipeS ρ vs) ρ vs = ρ)
    (h : ∀ x ∈ xs, ∃ ρx, (tg x (wipeS ρ vs)).nx = .ok () ρx ∧ cond ρx = .ok (c x) ρx ∧ (c x = true → thnK (fun h ρ => fz h ρ) (elt ρx) ⟨⟩ = .ok (e x) ρx) ∧ wipeS ρx vs = wipeS ρ vs) (hl : xs.length ≤ SLine) :
    eLc it tg cond elt vs ρ = .ok (.new (.lst ((xs.filter c).map e))) ρ := by
  show (it >>= fun p => lent p.2 (lcF vs (lcS tg cond elt vs p.1 []))) ρ = _
  simp only [bind_thn, hi, thn_ok]
  show (lcF vs (lcS tg cond elt vs xs []) ρ).back none = _
  have e1 : lcS tg cond elt vs xs [] (wipeS ρ vs) = .ok ((xs.filter c).map e) (wipeS ρ vs) := by
    have := lcS_gen (tg := tg) (cond := cond) (elt := elt) (vs := vs) (ρw := wipeS ρ vs) c e xs [] h (by simpa using hl)
    rw [this, List.nil_append]
  have e2 : lcF vs (lcS tg cond elt vs xs []) ρ = .ok (.new (.lst ((xs.filter c).map e))) ρ := by
    show (if vs.all (fun v => (at_ ρ v).notOwn) = true then
      match lcS tg cond elt vs xs [] (wipeS ρ vs) with
      | .ok ds ρ' => R.ok (Hd.new (.lst ds)) (back ρ' ρ vs)
      | _ => .bad else .bad) = _
    rw [if_pos ho, e1]
    show R.ok _ (back (wipeS ρ vs) ρ vs) = _
    rw [hb]
  rw [e2]; rfl
theorem eLc_gown {it : M (List D × Option Nat)} {tg : D → M Unit} {cond : M Bool} {elt : M Hd} {vs : List Nat} {ρ : List S} {xs : List D} {i : Nat} {d : D} (c : D → Bool) (e : D → D) (hi : it ρ = .ok (xs, some i) ρ) (hd : at_ ρ i = .own d) (hil : i < ρ.length) (ho : vs.all (fun v => (at_ (ρ.set i (.bor d)) v).notOwn) = true)
    (hb : back (wipeS (ρ.set i (.bor d)) vs) (ρ.set i (.bor d)) vs = ρ.set i (.bor d))
    (h : ∀ x ∈ xs, ∃ ρx, (tg x (wipeS (ρ.set i (.bor d)) vs)).nx = .ok () ρx ∧ cond ρx = .ok (c x) ρx ∧ (c x = true → thnK (fun h ρ => fz h ρ) (elt ρx) ⟨⟩ = .ok (e x) ρx) ∧ wipeS ρx vs = wipeS (ρ.set i (.bor d)) vs) (hl : xs.length ≤ SLine) :
    eLc it tg cond elt vs ρ = .ok (.new (.lst ((xs.filter c).map e))) ρ := by
  have key := eLc_gen (it := fun ρ => .ok (xs, none) ρ) (tg := tg) (vs := vs) (cond := cond) (elt := elt) (ρ := ρ.set i (.bor d)) c e rfl ho hb h hl
  have key : (lcF vs (lcS tg cond elt vs xs []) (ρ.set i (.bor d))).back none = .ok (.new (.lst ((xs.filter c).map e))) (ρ.set i (.bor d)) := key
  have key : lcF vs (lcS tg cond elt vs xs []) (ρ.set i (.bor d)) = .ok (.new (.lst ((xs.filter c).map e))) (ρ.set i (.bor d)) := by
    cases q : lcF vs (lcS tg cond elt vs xs []) (ρ.set i (.bor d)) with
    | ok a ρ' => rw [q] at key; exact key
    | exc k ρ' => rw [q] at key; cases key
    | bad => rw [q] at key; cases key
  show (it >>= fun p => lent p.2 (lcF vs (lcS tg cond elt vs p.1 []))) ρ = _
  simp only [bind_thn, hi, thn_ok]
  show (match (at_ ρ i).lend i ρ with | .ok _ ρ' => (lcF vs (lcS tg cond elt vs xs []) ρ').back (some i) | _ => .bad) = _
  rw [hd]
  show (lcF vs (lcS tg cond elt vs xs []) (ρ.set i (.bor d))).back (some i) = _
  rw [key]
  show (match (at_ (ρ.set i (.bor d)) i).unlend i (ρ.set i (.bor d)) with | .ok _ ρ' => R.ok (Hd.new (.lst ((xs.filter c).map e))) ρ' | _ => .bad) = _
  have e3 : at_ (ρ.set i (.bor d)) i = .bor d := by unfold at_; rw [List.getElem?_set_self hil]; rfl
  rw [e3]
  show R.ok _ ((ρ.set i (.bor d)).set i (.own d)) = _
  rw [List.set_set, set_self hd hil]
/-! data that equals itself -/
mutual
theorem eqv_self : ∀ d : D, okD d = true → PyData.eqv (toPy d) (toPy d) = true
  | .non, h => rfl
  | .bl b, h => by show (b == b) = true; simp
  | .int i, h => by show (i == i) = true; simp
  | .str s, h => by show ((⟨s.toArray⟩ : Str) == ⟨s.toArray⟩) = true; simp
  | .lst xs, h => eqvs_self xs h
  | .tup xs, h => eqvs_self xs h
  | .dic ks xs, h => by cases (show false = true from h)
  | .obj k ns xs, h => by cases (show false = true from h)
  | .ty t, h => by cases (show false = true from h)
  | .cls k, h => by cases (show false = true from h)
  | .scr ns, h => by cases (show false = true from h)
theorem eqvs_self : ∀ ds : List D, okDs ds = true → PyData.eqvAll (toPys ds) (toPys ds) = true
  | [], h => rfl
  | d :: ds, h => by
    have h : (okD d && okDs ds) = true := h
    rw [Bool.and_eq_true] at h
    show (PyData.eqv (toPy d) (toPy d) && PyData.eqvAll (toPys ds) (toPys ds)) = true
    rw [eqv_self d h.1, eqvs_self ds h.2]; rfl
end
theorem eqG_self {d : D} (h : okD d = true) (h2 : depD d ≤ 60) : eqG d d = some true := by
  unfold eqG
  split
  · simp_all
  · simp_all
  · simp_all
  · rw [if_pos ⟨h, h, h2, h2⟩]
    exact congrArg some (eqv_self d h)
theorem cEq_self {d : D} (h : okD d = true) (h2 : depD d ≤ 60) : cEq d d = some (.val (.bl true)) := by unfold cEq; rw [eqG_self h h2]; rfl
theorem cNe_self {d : D} (h : okD d = true) (h2 : depD d ≤ 60) : cNe d d = some (.val (.bl false)) := by unfold cNe; rw [eqG_self h h2]; rfl
theorem okDs_all : ∀ {ds : List D}, (∀ d ∈ ds, okD d = true) → okDs ds = true
  | [], _ => rfl
  | d :: ds, h => by
    show (okD d && okDs ds) = true
    rw [h d List.mem_cons_self, okDs_all fun e he => h e (List.mem_cons_of_mem _ he)]; rfl
theorem depDs_all {k : Nat} : ∀ {ds : List D}, (∀ d ∈ ds, depD d ≤ k) → depDs ds ≤ k
  | [], _ => Nat.zero_le _
  | d :: ds, h => by
    show max (depD d) (depDs ds) ≤ k
    have h1 := h d List.mem_cons_self
    have h2 := depDs_all fun e he => h e (List.mem_cons_of_mem _ he)
    omega
end Vi

/-! ## ViRev -/
set_option Elab.async false
set_option linter.all false
set_option maxRecDepth 100000
set_option maxHeartbeats 1600000
namespace Vi
open PySem L2 PySem.Spec PyProof.Rows
/-! ### x[::-1], of lists and texts -/
def revD : D → Option Hd
  | .lst xs => some (.new (.lst xs.reverse))
  | .str s => if s.length ≤ SLine then some (.val (.str s.reverse)) else none
  | _ => none
def tRevA (K : PySem.W.Frag) (te : TE) : TE := fun σ H Q => te σ H fun x H1 => (∃ a xs, x = .ref a ∧ SqL K H1 a xs ∧ ∀ p, H1 p = none → Q (.ref p) (upd H1 p (.lst xs.reverse))) ∨ (∃ z : Str, x = .str z ∧ z.length ≤ sizeLine ∧ Q (.str ⟨z.cps.toList.reverse.toArray⟩) H1)
section
variable {cm : Nat → Addr} {X : Cx} {W : WX} {K : PySem.W.Frag} {n : Nat} {c : Col} {H G : Hp}
theorem rev_picked (z : Str) : ((Builtin.Str.strSliceIndices none none (-1) z.length).filterMap (z.cps[·]?)) = z.cps.toList.reverse := by
  rw [PyProof.Rows.picked_rev]
  apply List.ext_getElem?
  have hz : z.length = z.cps.toList.length := (Array.length_toList).symm
  have e : ((List.range z.length).map fun k => z.length - 1 - k).filterMap (z.cps[·]?) = (List.range z.length).map fun k => z.cps.toList.getD (z.length - 1 - k) 0 := by
    rw [List.filterMap_map]
    have : ∀ l : List Nat, (∀ k ∈ l, k < z.length) → l.filterMap ((z.cps[·]?) ∘ fun k => z.length - 1 - k) = l.map fun k => z.cps.toList.getD (z.length - 1 - k) 0 := by
      intro l
      induction l with
      | nil => intro _; rfl
      | cons k r ih =>
        intro h
        have hk := h k List.mem_cons_self
        have e1 : z.cps.toList[z.length - 1 - k]? = some (z.cps.toList.getD (z.length - 1 - k) 0) := by
          rw [List.getD_eq_getElem?_getD, List.getElem?_eq_getElem (by omega)]; rfl
        have e2 : ((z.cps[·]?) ∘ fun k => z.length - 1 - k) k = some (z.cps.toList.getD (z.length - 1 - k) 0) := by
          show z.cps[z.length - 1 - k]? = _
          rw [← e1, Array.getElem?_toList]
        rw [List.filterMap_cons, e2, List.map_cons, ih fun j hj => h j (List.mem_cons_of_mem _ hj)]
    exact this _ fun k hk => List.mem_range.mp hk
  rw [e]
  intro i
  by_cases h : i < z.length
  · rw [List.getElem?_map, List.getElem?_range h, List.getElem?_reverse (by omega)]
    show some (z.cps.toList.getD (z.length - 1 - i) 0) = _
    rw [List.getD_eq_getElem?_getD, ← hz, List.getElem?_eq_getElem (by omega)]; rfl
  · rw [List.getElem?_eq_none (by rw [List.length_map, List.length_range]; omega), List.getElem?_eq_none (by rw [List.length_reverse]; omega)]
theorem pe_revA {e : Expr} {te : TE} {k : Nat} {p1 p2 p3 pos : Pos} (he : PE X e te) : PE X (.Subscript e (.Slice none none (some (.UnaryOp .USub (.Constant (.int 1) k p1) p2)) p3) pos) (tRevA X.K te) := by
  refine ⟨fun pins s σ H Q I h => ?_⟩
  refine Subscript_ (thn (he.run pins s σ H _ I h) fun v s1 ⟨x, H1, I1, r1, q1⟩ => ?_)
  have hst : PO X (some (.UnaryOp .USub (.Constant (.int 1) k p1) p2)) (tPart (tUn (rU fun i => .int (-i)) (tC (.int 1)))) := po_some (pe_un un_neg pe_int)
  refine wpAny_Slice (thn (po_none.run pins s1 σ H1 (fun o H2 => o = none ∧ H2 = H1) I1 ⟨rfl, rfl⟩) fun vl s2 ⟨l, H2, I2, pl, el, e2⟩ => ?_)
  subst el e2
  refine thn (po_none.run pins s2 σ H2 (fun o H3 => o = none ∧ H3 = H2) I2 ⟨rfl, rfl⟩) fun vu s3 ⟨u, H3, I3, pu, eu, e3⟩ => ?_
  subst eu e3
  refine thn (hst.run pins s3 σ H3 (fun o H4 => o = some (-1) ∧ H4 = H3) I3 ⟨1, rfl, -1, rfl, rfl, rfl⟩) fun vs s4 ⟨o, H4, I4, ps, eo, e4⟩ => ?_
  subst eo e4
  have I5 : Inv X pins σ H4 { s4 with heap := s4.heap.push { cls := .type "slice", data := .fields #[vl, vu, vs] } } := I4.kept (t' := s4.toks) fun b ob q => Heap.get?_push_of_some _ q
  rcases q1 with ⟨a, xs, ex, hx, q⟩ | ⟨z, ex, hz, q⟩
  · subst ex
    cases r1
    obtain ⟨its, r, ht, hz⟩ := I5.list hx
    have hlen := r.length
    show wpAny (model X.prog X.w) X.A (subscriptTail e (.Slice none none (some (.UnaryOp .USub (.Constant (.int 1) k p1) p2)) p3) (.ref a) (.ref s4.heap.objs.size)) (EP X pins σ Q) X.xe { s4 with heap := s4.heap.push { cls := .type "slice", data := .fields #[vl, vu, vs] } }
    refine tail_any (ops := [.ref a, .ref s4.heap.objs.size]) ht.isList.typeIs (PySem.slot_list_getitem.lookup) ?_ (by with_unfolding_all rfl)
    refine wpAny_getItem_list_slice ht.isList (Heap.IsSliceOf.new _ vl vu vs) pl pu ps (by decide) ?_ (by rw [List.size_toArray]; omega)
    rw [PySem.W.krv_pick]
    refine ⟨.ref _, _, I5.laid (t' := s4.toks) (o := .lst xs.reverse) (fun b ob q => Heap.get?_push_of_some _ q) (Nat.le_refl _) ?_, rfl, q _ (I5.hok.fresh (Nat.le_refl _))⟩
    exact ⟨by rw [List.length_reverse]; exact hz, _, 0, r.reverse, Heap.get?_push_size _ rfl⟩
  · subst ex
    obtain ⟨t, ev⟩ := r1
    subst ev
    have hs := Heap.IsSliceOf.new s4.heap vl vu vs
    obtain ⟨os, hos, hcs, hds⟩ := hs
    obtain ⟨l, el, el2⟩ := IsPart.raw pl
    obtain ⟨u, eu, eu2⟩ := IsPart.raw pu
    obtain ⟨st, es, es2⟩ := IsPart.raw ps
    subst el eu es
    cases l with
    | some p => cases el2
    | none =>
    cases u with
    | some p => cases eu2
    | none =>
    cases st with
    | none => cases es2
    | some p =>
    obtain ⟨m, tk⟩ := p
    have em : m = -1 := Option.some.inj es2
    subst em
    show wpAny (model X.prog X.w) X.A (subscriptTail e (.Slice none none (some (.UnaryOp .USub (.Constant (.int 1) k p1) p2)) p3) (.str z t) (.ref s4.heap.objs.size)) (EP X pins σ Q) X.xe { s4 with heap := s4.heap.push { cls := .type "slice", data := .fields #[partValue none, partValue none, partValue (some (-1, tk))] } }
    refine tail_any (ops := [.str z t, .ref s4.heap.objs.size]) (typeIs_str _ _ _) (F.slot_str_getitem.lookup) ?_ (by with_unfolding_all rfl)
    refine wpAny_getItem_str_slice (l := none) (u := none) (st := some (-1, tk)) ⟨os, hos, hcs, hds⟩ rfl ?_
    show Made.post (if ((-1 : Int) == 1 && (Builtin.Str.strSliceIndices none none (-1) z.length).length == z.length) = true then Made.val (.str z t)
      else Made.str ⟨((Builtin.Str.strSliceIndices none none (-1) z.length).filterMap (z.cps[·]?)).toArray⟩) (EP X pins σ Q) _
    have c : ((-1 : Int) == 1 && (Builtin.Str.strSliceIndices none none (-1) z.length).length == z.length) = false := rfl
    rw [c, if_neg Bool.false_ne_true, rev_picked]
    have hl : (⟨z.cps.toList.reverse.toArray⟩ : Str).length ≤ sizeLine := by
      show z.cps.toList.reverse.toArray.size ≤ sizeLine
      rw [List.size_toArray, List.length_reverse, Array.length_toList]; exact hz
    exact ⟨hl, .str _, H4, I5.tok _, ⟨_, rfl⟩, q⟩
def eRev (f : M Hd) : M Hd := f >>= fun h => rd h >>= fun d => M.lift (revD d)
theorem denl_rev {G : Hp} : ∀ {xs : List D} {vs : List V}, DenL cm K G xs vs → DenL cm K G xs.reverse vs.reverse
  | [], [], h => h
  | [], v :: vs, h => by have := h.length; simp at this
  | x :: xs, vs, h => by
    obtain ⟨v, r, e, h1, h2⟩ := h
    subst e
    rw [List.reverse_cons, List.reverse_cons]
    exact (denl_rev h2).append ⟨v, [], rfl, h1, rfl⟩
theorem ve_rev {e : Expr} {te : TE} {f : M Hd} {k : Nat} {p1 p2 p3 pos : Pos} (K : PySem.W.Frag) (h : VE cm X W e te f) (hK : X.K = K := by rfl) :
    VE cm X W (.Subscript e (.Slice none none (some (.UnaryOp .USub (.Constant (.int 1) k p1) p2)) p3) pos) (tRevA K te) (eRev f) := by
  subst hK
  refine ⟨pe_revA h.pe, ?_⟩
  refine Sem.bind (u := fun (x : V) σ H1 (Q : VK) => (∃ a xs, x = .ref a ∧ SqL X.K H1 a xs ∧ ∀ p, H1 p = none → Q (.ref p) (upd H1 p (.lst xs.reverse))) ∨ (∃ z : Str, x = .str z ∧ z.length ≤ sizeLine ∧ Q (.str ⟨z.cps.toList.reverse.toArray⟩) H1)) h.sem ?_
  intro ρ₀ c₀ H₀ a x ρ c σ H Q s0 r0 hx q
  dsimp only at q
  obtain ⟨d, e3, q⟩ := rd_bind (P := QR cm X.K X.N.length W (HdOk cm X.K X.N.length) Q ρ₀ c₀ H₀ σ) QR.nobad q
  rw [lift_run] at q
  have dr := (rd_ok r0 hx e3).2
  cases d with
  | lst xs =>
    obtain ⟨b, vs, e4, h1, h2⟩ := dr
    refine .inl ⟨b, vs, e4, SqL.of h1, fun p hp => ?_⟩
    have ex : Ext c (cset c p (X.N.length + 1)) H (upd H p (.lst vs.reverse)) := Ext.alloc hp
    exact q _ _ _ (s0.app ex.stp) (r0.ext ex) ((hdv_new_lst hp (denl_rev h2)).hd s0.st)
  | str s =>
    have e9 : revD (.str s) = if s.length ≤ SLine then some (Hd.val (.str s.reverse)) else none := rfl
    rw [e9] at q
    by_cases hz : s.length ≤ SLine
    · rw [if_pos hz] at q
      refine .inr ⟨_, dr, by rw [str_len]; exact sline_str hz, q c H _ s0 r0 ?_⟩
      show V.str ⟨(⟨s.toArray⟩ : Str).cps.toList.reverse.toArray⟩ = V.str ⟨s.reverse.toArray⟩
      rw [List.toList_toArray]
    · rw [if_neg hz] at q; exact q.elim
  | _ => exact q.elim
/-! ### text.split(sep), text.index(sign) -/
def splitD (a b : List Nat) : Option Hd := if ¬ b = [] ∧ b.all (· < 256) = true ∧ a.length ≤ 1000 then some (.new (.lst ((TL.spl b 0 [] a).map .str))) else none
def idxSD (a b : List Nat) : Option Hd := match b with
  | [c] => (a.idxOf? c).map fun i => .val (.int (i : Int))
  | _ => none
def eTx2 (g : List Nat → List Nat → Option Hd) (fo fe : M Hd) : M Hd := fo >>= fun ho => rd ho >>= fun d => M.lift (str? d) >>= fun a => fe >>= fun he => rd he >>= fun e => M.lift (str? e) >>= fun b => M.lift (g a b)
/-- what a method of two texts must meet -/
def Tx2R (cm : Nat → Addr) (K : PySem.W.Frag) (n : Nat) (r : V → List V → Hp → VK → Prop) (g : List Nat → List Nat → Option Hd) : Prop :=
  ∀ c H (a b : List Nat) hh Q, g a b = some hh → (∀ c' H' v, Ext c c' H H' → HdV cm K n H c' H' hh v → Q v H') → r (.str ⟨a.toArray⟩) [.str ⟨b.toArray⟩] H Q
theorem sem_tx2 {r : V → List V → Hp → VK → Prop} {g : List Nat → List Nat → Option Hd} {to te : TE} {fo fe : M Hd} (hr : Tx2R cm K n r g) (h1 : Sem cm K n W (HdOk cm K n) to fo) (h2 : Sem cm K n W (HdOk cm K n) te fe) : Sem cm K n W (HdOk cm K n) (tM1 r to te) (eTx2 g fo fe) := by
  refine Sem.bind (u := fun x σ H1 Q => (∃ a, x = .str a) ∧ te σ H1 fun y H2 => r x [y] H2 Q) h1 ?_
  intro ρ₀ c₀ H₀ a x ρ c σ H Q s0 r0 hx q
  dsimp only at q
  obtain ⟨d, e1, q⟩ := rd_bind (P := QR cm K n W (HdOk cm K n) Q ρ₀ c₀ H₀ σ) QR.nobad q
  have p1 := (rd_ok r0 hx e1).2
  rw [M.bind_run, lift_run] at q
  cases d with
  | str s =>
    have ex := den_str p1
    subst ex
    refine ⟨⟨_, rfl⟩, ?_⟩
    have q : QR cm K n W (HdOk cm K n) Q ρ₀ c₀ H₀ σ ((fe >>= fun he => rd he >>= fun e => M.lift (str? e) >>= fun b => M.lift (g s b)) ρ) := q
    refine h2 ρ c σ H _ r0 ?_
    rw [M.bind_run] at q
    cases e2 : fe ρ with
    | bad => rw [e2] at q; exact q.elim
    | exc j ρ' => rw [e2] at q; exact fun c' H' s' r' => q c' H' (s0.trans s') r'
    | ok hl ρ1 =>
      rw [e2] at q
      intro c1 H1 y s1 r1 hy
      dsimp only at q
      obtain ⟨dl, e3, q⟩ := rd_bind (P := QR cm K n W (HdOk cm K n) Q ρ₀ c₀ H₀ σ) QR.nobad q
      have p2 := (rd_ok r1 hy e3).2
      rw [M.bind_run, lift_run] at q
      cases dl with
      | str b =>
        have ey := den_str p2
        subst ey
        have q : QR cm K n W (HdOk cm K n) Q ρ₀ c₀ H₀ σ (M.lift (g s b) ρ1) := q
        rw [lift_run] at q
        cases eg : g s b with
        | none => rw [eg] at q; exact q.elim
        | some hh =>
          rw [eg] at q
          have s01 := s0.trans s1
          exact hr c1 H1 s b hh _ eg fun c' H' v ex hv => q c' H' v (s01.app ex.stp) (r1.ext ex) (hv.hd s01.st)
      | _ => exact q.elim
  | _ => exact q.elim
theorem s_split : Tx2R cm K n (fun x xs H Q => ∃ a b, x = .str a ∧ xs = [.str b] ∧ (b.length == 0) = false ∧ a.length + 2 ≤ sizeLine ∧ rNewStrs (Txt.split a b) H Q) splitD := by
  intro c H a b hh Q hg k
  unfold splitD at hg
  by_cases h : ¬ b = [] ∧ b.all (· < 256) = true ∧ a.length ≤ 1000
  · rw [if_pos h] at hg
    cases hg
    refine ⟨_, _, rfl, rfl, ?_, ?_, fun p hp => ?_⟩
    · have : (⟨b.toArray⟩ : Str).length = b.length := str_len b
      rw [this, beq_eq_false_iff_ne]
      exact fun e => h.1 (List.eq_nil_of_length_eq_zero e)
    · have : (⟨a.toArray⟩ : Str).length = a.length := str_len a
      rw [this]
      have : (1002 : Nat) ≤ sizeLine := by decide
      omega
    · have es : Txt.split ⟨a.toArray⟩ ⟨b.toArray⟩ = (TL.spl b 0 [] a).map fun l => (⟨l.toArray⟩ : Str) := SX.split_S h.1 h.2.1
      rw [es, List.map_map]
      have ex : Ext c (cset c p (n + 1)) H (upd H p (.lst ((TL.spl b 0 [] a).map (V.str ∘ fun l => (⟨l.toArray⟩ : Str))))) := Ext.alloc hp
      refine k _ _ _ ex (hdv_new_lst hp ?_)
      generalize TL.spl b 0 [] a = L
      induction L with
      | nil => rfl
      | cons l L ih => exact ⟨_, _, rfl, rfl, ih⟩
  · rw [if_neg h] at hg; cases hg
theorem s_idxS : Tx2R cm K n (fun x xs H Q => ∃ a b i rest, x = .str a ∧ xs = [.str b] ∧ Builtin.Str.occurrences a b 0 a.length 1 = i :: rest ∧ Q (.int (i : Nat)) H) idxSD := by
  intro c H a b hh Q hg k
  unfold idxSD at hg
  split at hg
  case h_2 => cases hg
  rename_i ch
  cases ei : a.idxOf? ch with
  | none => rw [ei] at hg; cases hg
  | some i =>
    rw [ei] at hg
    cases hg
    obtain ⟨hi, h1, h2⟩ := List.findIdx?_eq_some_iff_getElem.mp ei
    have hA : ∀ j, StrLaws.At ⟨a.toArray⟩ ⟨#[ch]⟩ (⟨a.toArray⟩ : Str).length j ↔ a[j]? = some ch := fun j => StrLaws.subAt_one ⟨a.toArray⟩ ch j
    have hc : a[i]? = some ch := by rw [List.getElem?_eq_getElem hi]; exact congrArg some (eq_of_beq h1)
    rcases StrLaws.occ_head ⟨a.toArray⟩ ⟨#[ch]⟩ 1 (Nat.le_refl 1) with ⟨_, hn⟩ | ⟨j, r, e, ha, hl⟩
    · exact absurd ((hA i).mpr hc) (hn i)
    · have hj := (hA j).mp ha
      have : j = i := by
        rcases Nat.lt_trichotomy j i with l | l | l
        · have := h2 j l
          obtain ⟨hj1, hj2⟩ := List.getElem?_eq_some_iff.mp hj
          rw [hj2] at this
          simp at this
        · exact l
        · exact absurd ((hA i).mpr hc) (hl i l)
      subst this
      exact ⟨_, _, j, r, rfl, rfl, e, k c H _ Ext.refl rfl⟩
theorem ve_split {o e : Expr} {to te : TE} {fo fe : M Hd} {apos pos : Pos} (K : PySem.W.Frag) (ho : VE cm X W o to fo) (he : VE cm X W e te fe) (hK : X.K = K := by rfl) (hs : starEach [e] X.env = [(false, eval e X.env)] := by rfl) (hbase : attributeBase o "split" X.env (eval o X.env) = eval o X.env := by rfl) (hline : (apos.endLine == pos.line) = true := by rfl) :
    VE cm X W (.Call (.Attribute o "split" apos) [e] [] pos) (tM1 (fun x xs H Q => ∃ a b, x = .str a ∧ xs = [.str b] ∧ (b.length == 0) = false ∧ a.length + 2 ≤ sizeLine ∧ rNewStrs (Txt.split a b) H Q) to te) (eTx2 splitD fo fe) := by
  subst hK
  exact ⟨pe_split ho.pe he.pe hs hbase hline, sem_tx2 s_split ho.sem he.sem⟩
theorem ve_idxS {o e : Expr} {to te : TE} {fo fe : M Hd} {apos pos : Pos} (K : PySem.W.Frag) (ho : VE cm X W o to fo) (he : VE cm X W e te fe) (hK : X.K = K := by rfl) (hs : starEach [e] X.env = [(false, eval e X.env)] := by rfl) (hbase : attributeBase o "index" X.env (eval o X.env) = eval o X.env := by rfl) (hline : (apos.endLine == pos.line) = true := by rfl) :
    VE cm X W (.Call (.Attribute o "index" apos) [e] [] pos) (tM1 (fun x xs H Q => ∃ a b i rest, x = .str a ∧ xs = [.str b] ∧ Builtin.Str.occurrences a b 0 a.length 1 = i :: rest ∧ Q (.int (i : Nat)) H) to te) (eTx2 idxSD fo fe) := by
  subst hK
  exact ⟨pe_m1 PySem.F.slot_str_index PySem.F.type_str_index mt_sindex ho.pe he.pe hs hbase hline, sem_tx2 s_idxS ho.sem he.sem⟩
end
end Vi

/-! ## ViUnT -/
set_option Elab.async false
set_option linter.all false
set_option maxRecDepth 100000
set_option maxHeartbeats 1600000
namespace Vi
open PySem L2 PySem.Spec PyProof.Rows
/-! ### a, b, .. = a text of that length -/
theorem draw_str {prog : Program} {w : World} {A : Around} {E : Value → Shared → Prop} {it : Addr} {x : Str} {t : Tok} : ∀ (n i : Nat) (s : Shared) (Q : List Value → Shared → Prop), s.heap.IsStrIter it "str_ascii_iterator" x t i → i + n ≤ x.cps.size →
    (∀ h' tk us, h'.IsStrIter it "str_ascii_iterator" x t (i + n) → Heap.SameBut it s.heap h' → Vals (((x.cps.toList.drop i).take n).map fun c => V.str ⟨#[c]⟩) us → Q us { s with heap := h', toks := tk }) → wpAny (model prog w) A (draw (.ref it) n) Q E s
  | 0, i, s, Q, hit, _, hQ => by
    show wpAny _ _ (pure []) Q E s
    exact wpAny_pure (hQ s.heap s.toks [] hit (Heap.SameBut.refl ..) .nil)
  | n + 1, i, s, Q, hit, hle, hQ => by
    have hlt : i < x.cps.size := by omega
    show wpAny _ _ (pyNext (.ref it) >>= _) Q E s
    refine wpAny_bind (wpAny_pyNext_ascii_item hit (c := x.cps[i]) (by simp [hlt]) fun h₁ hit₁ hs₁ => ?_)
    refine wpAny_bind (wpAny_holding (draw_str n (i + 1) _ _ hit₁ (by omega) fun h₂ tk us hit₂ hs₂ hv => wpAny_pure ?_))
    have hd : x.cps.toList.drop i = x.cps[i] :: x.cps.toList.drop (i + 1) := by simp [List.drop_eq_getElem_cons, hlt]
    refine hQ h₂ tk _ (by rw [show i + (n + 1) = i + 1 + n by omega]; exact hit₂) (hs₁.trans hs₂) ?_
    rw [hd, List.take_succ_cons, List.map_cons]
    exact .cons ⟨_, rfl⟩ hv
theorem unpackItems_str {prog : Program} {w : World} {A : Around} {E : Value → Shared → Prop} {s : Shared} {x : Str} {t : Tok} {Q : List Value → Shared → Prop} (hh : A.handled = none) (ha : x.cps.all (· < 128) = true)
    (hQ : ∀ h' tk us, Heap.ExtBut s.heap.objs.size s.heap h' → Vals (x.cps.toList.map fun c => V.str ⟨#[c]⟩) us → Q us { s with heap := h', toks := tk }) : wpAny (model prog w) A (unpackItems (.str x t) x.cps.size none) Q E s := by
  unfold unpackItems
  refine wpAny_bind ?_
  · unfold notIterableAtAll
    refine wpAny_bind (wpAny_specialOf (typeIs_str s x t) F.slot_str_iter.lookup ?_)
    refine wpAny_pure ?_
    simp only [Bool.false_eq_true, if_false]
    refine wpAny_bind (wpAny_holding (wpAny_pyIter_ascii ha ?_))
    refine wpAny_bind (wpAny_holding (draw_str x.cps.size 0 _ _ ⟨_, Heap.get?_push_size _ rfl, rfl, rfl⟩ (by omega) fun h₁ tk us hit₁ hs₁ hv => ?_))
    have hall : List.take x.cps.size (List.drop 0 x.cps.toList) = x.cps.toList := by
      rw [List.drop_zero]; exact List.take_of_length_le (by simp)
    rw [hall] at hv
    have hl : us.length = x.cps.size := by
      have := hv.length
      rw [List.length_map, Array.length_toList] at this
      omega
    rw [if_neg (by omega)]
    refine wpAny_bind (wpAny_holding (wpAny_pyNext_ascii_end hh hit₁ (by simp) fun h₂ he₂ => ?_))
    simp only [Option.isSome_none, Bool.false_eq_true, if_false]
    refine wpAny_pure (hQ h₂ tk us (fun b o hb e => he₂ b o hb (hs₁.extBut b o hb (Heap.get?_push_of_some _ e))) hv)
def gTxt (n : Nat) (t : TGs) : TG := fun v σ H Q => ∃ x : Str, v = .str x ∧ x.cps.all (· < 128) = true ∧ x.cps.size = n ∧ t (x.cps.toList.map fun c => V.str ⟨#[c]⟩) σ H Q
section
variable {X : Cx}
theorem pg_txt {es : List Expr} {k : Nat} {t : TGs} {n : Nat} {pos : Pos} (hc : X.calm = true) (h : PGs X es t)
    (hn : (assignEach es X.env).length = n := by rfl) (hst : (assignEach es X.env).findIdx? (·.1) = none := by rfl) : PG X (.Tuple es k pos) (gTxt n t) := by
  refine ⟨fun pins s σ H v u Q I r hw => ?_⟩
  obtain ⟨x, e1, ha, hl, hw⟩ := hw
  subst e1
  obtain ⟨tk, rfl⟩ := r
  rw [assign_Tuple]
  refine wpAny_bind (wpAny_standAt ?_)
  unfold unpack
  rw [hn, hst, ← hl]
  refine wpAny_bind (wpAny_holding (unpackItems_str (I.ok.hd hc) ha fun h' tk us hx hv => ?_))
  have I1 : Inv X pins σ H { s with heap := h', toks := tk } := I.kept (t' := tk) fun b o e => hx b o (Nat.ne_of_lt (Heap.lt_size e)) e
  exact h.run pins _ σ H _ _ Q I1 hv hw
end
def gTx (k : Nat) (g : List D → M Unit) : D → M Unit := fun d => match d with | .str s => if s.length = k ∧ s.all (· < 128) = true then g (s.map fun c => .str [c]) else M.bad | _ => M.bad
section
variable {cm : Nat → Addr} {X : Cx} {W : WX}
theorem denl_signs {K : PySem.W.Frag} {G : Hp} : ∀ s : List Nat, DenL cm K G (s.map fun c => D.str [c]) (s.map fun c => V.str ⟨#[c]⟩)
  | [] => rfl
  | c :: s => ⟨_, _, rfl, rfl, denl_signs s⟩
theorem vg_txt {es : List Expr} {k : Nat} {t : TGs} {m : Nat} {g : List D → M Unit} {is : List Nat} {pos : Pos} (hc : X.calm = true) (h : VGs cm X is es t g)
    (hn : (assignEach es X.env).length = m := by rfl) (hst : (assignEach es X.env).findIdx? (·.1) = none := by rfl) : VG cm X is (.Tuple es k pos) (gTxt m t) (gTx m g) := ⟨pg_txt hc h.pe hn hst, by
  intro d v ρ c σ H Q r hd q
  cases d with
  | str s =>
    have e : v = .str ⟨s.toArray⟩ := hd
    subst e
    have q : (match (if s.length = m ∧ s.all (· < 128) = true then g (s.map fun c => .str [c]) else M.bad) ρ with | .ok _ ρ' => QG cm X.K X.N.length is Q ρ σ c H ρ' | _ => False) := q
    by_cases hl : s.length = m ∧ s.all (· < 128) = true
    · rw [if_pos hl] at q
      refine ⟨⟨s.toArray⟩, rfl, ?_, ?_, ?_⟩
      · rw [← Array.all_toList]
        show s.toArray.toList.all _ = true
        rw [List.toList_toArray]; exact hl.2
      · show s.toArray.size = m
        rw [List.size_toArray]; exact hl.1
      · show t (s.toArray.toList.map fun c => V.str ⟨#[c]⟩) σ H Q
        rw [List.toList_toArray]
        exact h.sem _ _ ρ c σ H Q r (denl_signs s) q
    · rw [if_neg hl] at q; exact q.elim
  | _ => exact q.elim⟩
end
end Vi

/-! ## D10 -/
set_option Elab.async false
set_option linter.all false
set_option maxRecDepth 100000
set_option maxHeartbeats 400000
namespace G
open PySem L2 Vi
/-! ### what the defs compute -/
abbrev tsL : List (Nat × Str) := [(15, "_law_rules_right.<locals>.<lambda>"), (16, "_law_right.<locals>.<lambda>")]
abbrev subL : List (Nat × Nat × Bool) := [(2, 2, true), (2, 1, true), (3, 3, true), (3, 1, true), (4, 4, true), (4, 1, true), (6, 6, true), (6, 1, true), (7, 7, true), (7, 1, true), (8, 8, true), (8, 1, true), (9, 9, true), (9, 1, true), (3, 2, false), (4, 2, false), (6, 2, false), (7, 2, false), (8, 2, false), (9, 2, false), (2, 3, false), (4, 3, false), (6, 3, false), (7, 3, false), (8, 3, false), (9, 3, false), (2, 4, false), (3, 4, false), (6, 4, false), (7, 4, false), (8, 4, false), (9, 4, false), (2, 5, false), (3, 5, false), (4, 5, false), (6, 5, false), (7, 5, false), (8, 5, false), (9, 5, false), (2, 6, false), (3, 6, false), (4, 6, false), (7, 6, false), (8, 6, false), (9, 6, false), (2, 7, false), (3, 7, false), (4, 7, false), (6, 7, false), (8, 7, false), (9, 7, false), (2, 8, false), (3, 8, false), (4, 8, false), (6, 8, false), (7, 8, false), (9, 8, false), (2, 9, false), (3, 9, false), (4, 9, false), (6, 9, false), (7, 9, false), (8, 9, false)]
abbrev tyL : List (Nat × String × Bool) := [(2, "ValueError", true), (3, "ValueError", true), (4, "ValueError", true), (6, "ValueError", true), (7, "ValueError", true), (8, "ValueError", true), (9, "ValueError", true)]
abbrev exL : List Nat := [2, 3, 4, 6, 7, 8, 9]
abbrev kHd : Nat → Option Bool := fun k => lkp subL k 1
def KS__law_kinds (k : Nat) : M Fl :=
  (sSeq (sSet 1 (eLst (dCons (eCB (f2 (isED (lkp subL) (lkp tyL) k)) (eCons (eVar 2) (eCons (eC (.cls 2)) eNil))) (dCons (eCB (f2 (isED (lkp subL) (lkp tyL) k)) (eCons (eVar 2) (eCons (eC (.cls 3)) eNil))) (dCons (eCB (f2 (isED (lkp subL) (lkp tyL) k)) (eCons (eVar 2) (eCons (eC (.cls 4)) eNil))) dNil)))))
    (sSeq (sSet 1 (eOp aPlus (eVar 1) (eLst (dCons (eCB (f2 (isED (lkp subL) (lkp tyL) k)) (eCons (eVar 2) (eCons (eC (.cls 5)) eNil))) (dCons (eCB (f2 (isED (lkp subL) (lkp tyL) k)) (eCons (eVar 2) (eCons (eC (.cls 6)) eNil))) (dCons (eCB (f2 (isED (lkp subL) (lkp tyL) k)) (eCons (eVar 2) (eCons (eC (.cls 7)) eNil))) dNil))))))
    (sSet 1 (eOp aPlus (eVar 1) (eLst (dCons (eCB (f2 (isED (lkp subL) (lkp tyL) k)) (eCons (eVar 2) (eCons (eC (.cls 8)) eNil))) (dCons (eCB (f2 (isED (lkp subL) (lkp tyL) k)) (eCons (eVar 2) (eCons (eC (.cls 9)) eNil))) (dCons (eCB (f2 (isED (lkp subL) (lkp tyL) k)) (eCons (eVar 2) (eCons (eC (.ty "ValueError")) eNil))) dNil))))))))
def B_is_whole : M Fl :=
  (sRet (eAndT (eCB (f2 isiD) (eCons (eVar 0) (eCons (eC (.ty "int")) eNil))) (eNotT (eCB (f2 isiD) (eCons (eVar 0) (eCons (eC (.ty "bool")) eNil))))))
def F_is_whole : List D → Out := runF 1 B_is_whole
def B_is_letters : M Fl :=
  (sSeq (sIf (eOr (eNot (eTest (eCB (f2 isiD) (eCons (eVar 0) (eCons (eC (.ty "str")) eNil))))) (eNot (eTest (eChain cLe cLe (eVar 1) (eCB (f1 lenD) (eCons (eVar 0) eNil)) (eVar 2)))))
    (sRet (eC (.bl false)))
    sNx)
  (sRet (eCB (f1 allD) (eCons (eLc (itAny (eVar 0)) (gN 3) tYesM (eOp cIn (eVar 3) (eC (.str [97, 98, 99, 100, 101, 102, 103, 104, 105, 106, 107, 108, 109, 110, 111, 112, 113, 114, 115, 116, 117, 118, 119, 120, 121, 122]))) [3]) eNil))))
def F_is_letters : List D → Out := runF 4 B_is_letters
def B_round_of : M Fl :=
  (sSeq (sSet 2 (eCB (f1 dictD) (eCons (eVar 1) eNil)))
  (sRet (eJoin (eC (.str [])) (eLc (itAny (eVar 0)) (gN 3) tYesM (eGet2 (eVar 2) (eVar 3) (eVar 3)) [3]))))
def F_round_of : List D → Out := runF 4 B_round_of
def B_vanishing_by : M Fl :=
  (sSeq (sPar [1, 2] (pCons eDNew (pCons (eC (.int 0)) eNil)))
  (sSeq (sSet 3 (eLc (itAny (eVar 0)) (gT 2 (gsCons (gN 4) (gsCons (gN 5) gsNil))) (eTest (eOp cEq (eVar 5) (eC (.str [])))) (eVar 4) [4, 5]))
  (sSeq (sWhile (eTest (eOp cNe (eVar 3) (eLst dNil)))
    (sSeq (sAug 2 (fun i j => i + j) (eC (.int 1)))
    (sSeq (sFor (itAny (eVar 3)) (gN 4)
      (sSetK 1 (eVar 4) (eVar 2)))
    (sSet 3 (eLc (itAny (eVar 0)) (gT 2 (gsCons (gN 6) (gsCons (gN 5) gsNil))) (eAnd (eTest (eOp cNotIn (eVar 6) (eVar 1))) (eTest (eCB (f1 allD) (eCons (eLc (itAny (eVar 5)) (gN 7) tYesM (eOp cIn (eVar 7) (eVar 1)) [7]) eNil)))) (eVar 6) [6, 5])))) 100)
  (sRet (eVar 1)))))
def F_vanishing_by : List D → Out := runF 8 B_vanishing_by
def B_sizes_of : M Fl :=
  (sSeq (sSet 2 (eCB (f1 dictD) (eCons (eVar 0) eNil)))
  (sSeq (sSet 3 (eLst (dCons (eCB (f1 dictD) (eCons (eLc (itAny (eC (.str [97, 98, 99, 100, 101, 102, 103, 104, 105, 106, 107, 108, 109, 110, 111, 112, 113, 114, 115, 116, 117, 118, 119, 120, 121, 122]))) (gN 6) tYesM (eTup (dCons (eVar 6) (dCons (eC (.int 1)) dNil))) [6]) eNil)) dNil)))
  (sSeq (sFor (itRngN 1 (eCons (eVar 1) eNil)) (gN 4)
    (sSeq (sSet 5 (eOp aIx (eVar 3) (eUn aNeg (eC (.int 1)))))
    (sExpr (eAppend 3 (eCB (f1 dictD) (eCons (eLc (itAny (eC (.str [97, 98, 99, 100, 101, 102, 103, 104, 105, 106, 107, 108, 109, 110, 111, 112, 113, 114, 115, 116, 117, 118, 119, 120, 121, 122]))) (gN 6) tYesM (eTup (dCons (eVar 6) (dCons (eCB (f1 sumD) (eCons (eLc (itAny (eGet2 (eVar 2) (eVar 6) (eVar 6))) (gN 7) tYesM (eOp aIx (eVar 5) (eVar 7)) [7]) eNil)) dNil))) [6]) eNil))))))
  (sRet (eVar 3)))))
def F_sizes_of : List D → Out := runF 8 B_sizes_of
def B__law_cell_at : M Fl :=
  (sSeq (sIf (eTest (eOp cLt (eVar 1) (eCB (f1 lenD) (eCons (eVar 0) eNil))))
    (sRet (eOp aIx (eVar 0) (eVar 1)))
    sNx)
  (sRet (eC (.int 0))))
def F__law_cell_at : List D → Out := runF 2 B__law_cell_at
def B__law_draw : M Fl :=
  (sSeq (sSet 3 (eTup (dCons (eC (.int 1000003)) (dCons (eC (.int 1000033)) (dCons (eC (.int 1000037)) (dCons (eC (.int 1000039)) (dCons (eC (.int 1000081)) (dCons (eC (.int 1000099)) (dCons (eC (.int 1000117)) (dCons (eC (.int 1000121)) (dCons (eC (.int 1000133)) (dCons (eC (.int 1000151)) (dCons (eC (.int 1000159)) (dCons (eC (.int 1000171)) (dCons (eC (.int 1000183)) (dCons (eC (.int 1000187)) (dCons (eC (.int 1000193)) (dCons (eC (.int 1000199)) dNil))))))))))))))))))
  (sRet (eOp aMod (eOp aMod (eOp aPlus (eOp aTimes (eVar 0) (eC (.int 48271))) (eOp aTimes (eVar 1) (eC (.int 69621)))) (eOp aIx (eVar 3) (eOp aMod (eVar 1) (eC (.int 16))))) (eVar 2))))
def F__law_draw : List D → Out := runF 4 B__law_draw
def B__law_due_of : M Fl :=
  (sRet (eOp aPlus (eLc (itRngN 1 (eCons (eC (.int 8)) eNil)) (gN 1) tYesM (eOp cEq (eVar 0) (eVar 1)) [1]) (eLst (dCons (eC (.bl true)) dNil))))
def F__law_due_of : List D → Out := runF 2 B__law_due_of
def B__law_strange : M Fl :=
  (sRet (eLst (dCons (eC .non) (dCons (eC (.str [49])) (dCons (eC (.bl true)) (dCons (eC (.bl false)) (dCons (eLst (dCons (eC (.int 1)) dNil)) (dCons (eTup (dCons (eC (.int 1)) dNil)) (dCons eDNew (dCons (eUn aNeg (eC (.int 1))) (dCons (eOp aSub (eUn aNeg (eC (.int 1))) (eVar 0)) dNil)))))))))))
def F__law_strange : List D → Out := runF 1 B__law_strange
def B__law_no_texts : M Fl :=
  (sSeq (sSet 2 (eLst (dCons (eC .non) (dCons (eC (.int 5)) (dCons (eLst (dCons (eC (.str [97])) dNil)) (dCons (eTup (dCons (eC (.str [97])) dNil)) (dCons eDNew (dCons (eC (.bl true)) (dCons (eC (.str [65])) (dCons (eC (.str [97, 32, 98])) (dCons (eC (.str [97, 49])) (dCons (eOp aTimes (eC (.str [97])) (eOp aPlus (eVar 1) (eC (.int 1)))) (dCons (eOp aTimes (eC (.str [122])) (eOp aPlus (eOp aPlus (eVar 1) (eC (.int 1))) (eOp aMod (eVar 0) (eC (.int 9))))) dNil)))))))))))))
  (sRet (eOp aPlus (eVar 2) (eLst (dCons (eC (.str [97, 45])) (dCons (eC (.str [10])) (dCons (eOp aPlus (eOp aTimes (eC (.str [97, 98])) (eVar 1)) (eC (.str [99]))) dNil)))))))
def F__law_no_texts : List D → Out := runF 3 B__law_no_texts
def B_check_text : M Fl :=
  (sIf (eNot (eTest (eCall 3 F_is_letters (eCons (eVar 0) (eCons (eC (.int 0)) (eCons (eVar 1) eNil))))))
    (sRaise 2)
    sNx)
def F_check_text : List D → Out := runF 2 B_check_text
def B_is_rule : M Fl :=
  (sSeq (sIf (eOr (eNot (eTest (eCB (f2 isiD) (eCons (eVar 0) (eCons (eC (.ty "tuple")) eNil))))) (eTest (eOp cNe (eCB (f1 lenD) (eCons (eVar 0) eNil)) (eC (.int 2)))))
    (sRet (eC (.bl false)))
    sNx)
  (sRet (eAndT (eCall 3 F_is_letters (eCons (eOp aIx (eVar 0) (eC (.int 0))) (eCons (eC (.int 1)) (eCons (eC (.int 1)) eNil)))) (eCall 3 F_is_letters (eCons (eOp aIx (eVar 0) (eC (.int 1))) (eCons (eC (.int 0)) (eCons (eC (.int (3))) eNil)))))))
def F_is_rule : List D → Out := runF 1 B_is_rule
def B_lasts : M Fl :=
  (sSeq (sSet 2 (eCall 1 F_vanishing_by (eCons (eVar 0) eNil)))
  (sRet (eCB (f1 lenD) (eCons (eLc (itAny (eVar 1)) (gN 3) (eTest (eOp cNotIn (eVar 3) (eVar 2))) (eVar 3) [3]) eNil))))
def F_lasts : List D → Out := runF 4 B_lasts
def B_reached : M Fl :=
  (sSeq (sSet 2 (eUn sortSetA (eVar 0)))
  (sSeq (sSet 3 (eVar 2))
  (sSeq (sWhile (eTest (eOp cNe (eVar 3) (eLst dNil)))
    (sSeq (sSet 4 (eCall 2 F_round_of (eCons (eJoin (eC (.str [])) (eVar 3)) (eCons (eVar 1) eNil))))
    (sSeq (sSet 3 (eUn sortSetA (eLc (itAny (eVar 4)) (gN 5) (eTest (eOp cNotIn (eVar 5) (eVar 2))) (eVar 5) [5])))
    (sSet 2 (eCB (f1 sortedD) (eCons (eOp aPlus (eVar 2) (eVar 3)) eNil))))) 100)
  (sRet (eVar 2)))))
def F_reached : List D → Out := runF 6 B_reached
def B_round_again : M Fl :=
  (sSeq (sSet 2 (eLst (dCons (eVar 0) dNil)))
  (sWhile (eTest (eC (.bl true)))
    (sSeq (sSet 0 (eCall 2 F_round_of (eCons (eVar 0) (eCons (eVar 1) eNil))))
    (sSeq (sIf (eTest (eOp cIn (eVar 0) (eVar 2)))
      (sRet (eTup (dCons (eIdxL (eVar 2) (eVar 0)) (dCons (eOp aSub (eCB (f1 lenD) (eCons (eVar 2) eNil)) (eIdxL (eVar 2) (eVar 0))) dNil))))
      sNx)
    (sExpr (eAppend 2 (eVar 0))))) 100))
def F_round_again : List D → Out := runF 3 B_round_again
def B__law_value : M Fl :=
  (sSeq (sIf (eTest (eOp cGe (eVar 0) (eOp aPow (eC (.int 10)) (eC (.int 18)))))
    (sRet (eOp aShr (eOp aSub (eVar 0) (eOp aPow (eC (.int 10)) (eC (.int 18)))) (eOp aTimes (eC (.int 3)) (eVar 1))))
    sNx)
  (sSeq (sSet 2 (eCall 3 F__law_draw (eCons (eOp aTimes (eOp aPlus (eVar 0) (eOp aTimes (eC (.int 977)) (eVar 1))) (eOp aPlus (eOp aPlus (eVar 0) (eOp aTimes (eC (.int 31)) (eVar 1))) (eC (.int 5)))) (eCons (eOp aPlus (eOp aMod (eVar 1) (eC (.int 9))) (eC (.int 1))) (eCons (eC (.int 999983)) eNil)))))
  (sRet (eOp aPlus (eOp aTimes (eVar 2) (eC (.int 1000003))) (eCall 3 F__law_draw (eCons (eOp aPlus (eOp aTimes (eOp aPlus (eVar 0) (eOp aTimes (eC (.int 31)) (eVar 1))) (eOp aPlus (eVar 0) (eC (.int 7)))) (eOp aTimes (eC (.int 977)) (eVar 1))) (eCons (eOp aPlus (eOp aMod (eVar 1) (eC (.int 7))) (eC (.int 2))) (eCons (eC (.int 1000003)) eNil))))))))
def F__law_value : List D → Out := runF 3 B__law_value
def B_check_rules : M Fl :=
  (sSeq (sIf (eOr (eNot (eTest (eCB (f2 isiD) (eCons (eVar 0) (eCons (eC (.ty "list")) eNil))))) (eOr (eTest (eOp cGt (eCB (f1 lenD) (eCons (eVar 0) eNil)) (eC (.int (4))))) (eNot (eTest (eCB (f1 allD) (eCons (eLc (itAny (eVar 0)) (gN 3) tYesM (eCall 1 F_is_rule (eCons (eVar 3) eNil)) [3]) eNil))))))
    (sRaise 7)
    sNx)
  (sIf (eTest (eCB (f1 anyD) (eCons (eLc (itZip (eVar 0) (eSl (eVar 0) (oSome (eC (.int 1))) oNone)) (gT 2 (gsCons (gN 1) (gsCons (gN 2) gsNil))) tYesM (eOp cGe (eOp aIx (eVar 1) (eC (.int 0))) (eOp aIx (eVar 2) (eC (.int 0)))) [1, 2]) eNil)))
    (sRaise 7)
    sNx))
def F_check_rules : List D → Out := runF 4 B_check_rules
def B_makes_more : M Fl :=
  (sSeq (sSet 3 (eVar 0))
  (sSeq (sFor (itRngN 1 (eCons (eVar 2) eNil)) (gN 4)
    (sSet 3 (eCall 2 F_round_of (eCons (eVar 3) (eCons (eVar 1) eNil)))))
  (sRet (eAndT (eOp cIn (eVar 0) (eVar 3)) (eAndT (eOp cEq (eCall 2 F_lasts (eCons (eVar 1) (eCons (eVar 0) eNil))) (eC (.int 1))) (eOp cGt (eCall 2 F_lasts (eCons (eVar 1) (eCons (eVar 3) eNil))) (eC (.int 1))))))))
def F_makes_more : List D → Out := runF 5 B_makes_more
def B_growing : M Fl :=
  (sSeq (sFor (itAny (eCall 2 F_reached (eCons (eVar 0) (eCons (eVar 1) eNil)))) (gN 2)
    (sFor (itRngN 2 (eCons (eC (.int 1)) (eCons (eOp aPlus (eC (.int (4))) (eC (.int 1))) eNil))) (gN 3)
      (sIf (eAnd (eTest (eOp cIn (eVar 2) (eLc (itAny (eVar 1)) (gN 4) tYesM (eOp aIx (eVar 4) (eC (.int 0))) [4]))) (eTest (eCall 3 F_makes_more (eCons (eVar 2) (eCons (eVar 1) (eCons (eVar 3) eNil))))))
        (sRet (eTup (dCons (eVar 2) (dCons (eVar 3) dNil))))
        sNx)))
  (sRet (eC .non)))
def F_growing : List D → Out := runF 5 B_growing
def B_gone_round : M Fl :=
  (sSeq (sExpr (eCall 2 F_check_text (eCons (eVar 0) (eCons (eC (.int (30))) eNil))))
  (sSeq (sExpr (eCall 1 F_check_rules (eCons (eVar 1) eNil)))
  (sRet (eCall 2 F_round_of (eCons (eVar 0) (eCons (eVar 1) eNil))))))
def F_gone_round : List D → Out := runF 2 B_gone_round
def B_vanishing : M Fl :=
  (sSeq (sExpr (eCall 1 F_check_rules (eCons (eVar 0) eNil)))
  (sSeq (sSet 1 (eCall 1 F_vanishing_by (eCons (eVar 0) eNil)))
  (sRet (eLc (itAny (eCB (f1 sortedD) (eCons (eVar 1) eNil))) (gN 2) tYesM (eTup (dCons (eVar 2) (dCons (eOp aIx (eVar 1) (eVar 2)) dNil))) [2]))))
def F_vanishing : List D → Out := runF 3 B_vanishing
def B_check_far : M Fl :=
  (sSeq (sExpr (eCall 2 F_check_text (eCons (eVar 0) (eCons (eC (.int (30))) eNil))))
  (sSeq (sExpr (eCall 1 F_check_rules (eCons (eVar 1) eNil)))
  (sIf (eOr (eNot (eTest (eCall 1 F_is_whole (eCons (eVar 2) eNil)))) (eNot (eTest (eChain cLe cLe (eC (.int 0)) (eVar 2) (eC (.int (40)))))))
    (sRaise 8)
    sNx)))
def F_check_far : List D → Out := runF 3 B_check_far
def B_Grows_shows : M Fl :=
  (sSeq (sIf (eOr (eNot (eTest (eChain cLe cLe (eC (.int 1)) (eUn (fldD [12] "rounds") (eVar 0)) (eC (.int (4)))))) (eTest (eOp cNotIn (eUn (fldD [12] "letter") (eVar 0)) (eCall 2 F_reached (eCons (eVar 1) (eCons (eVar 2) eNil))))))
    (sRet (eC (.bl false)))
    sNx)
  (sRet (eCall 3 F_makes_more (eCons (eUn (fldD [12] "letter") (eVar 0)) (eCons (eVar 2) (eCons (eUn (fldD [12] "rounds") (eVar 0)) eNil))))))
def F_Grows_shows : List D → Out := runF 3 B_Grows_shows
def B_judged : M Fl :=
  (sSeq (sExpr (eCall 2 F_check_text (eCons (eVar 0) (eCons (eC (.int (30))) eNil))))
  (sSeq (sExpr (eCall 1 F_check_rules (eCons (eVar 1) eNil)))
  (sSeq (sSet 2 (eCall 2 F_growing (eCons (eVar 0) (eCons (eVar 1) eNil))))
  (sSeq (sIf (eTest (eOp cNotN (eVar 2) (eC .non)))
    (sRet (eMk 12 ["letter", "rounds"] (dCons (eOp aIx (eVar 2) (eC (.int 0))) (dCons (eOp aIx (eVar 2) (eC (.int 1))) dNil))))
    sNx)
  (sSeq (sUnp (gT 2 (gsCons (gN 3) (gsCons (gN 4) gsNil))) (eCall 2 F_round_again (eCons (eVar 0) (eCons (eVar 1) eNil))))
  (sRet (eMk 11 ["first", "many"] (dCons (eVar 3) (dCons (eVar 4) dNil)))))))))
def F_judged : List D → Out := runF 5 B_judged
def B_long_behind : M Fl :=
  (sSeq (sExpr (eCall 3 F_check_far (eCons (eVar 0) (eCons (eVar 1) (eCons (eVar 2) eNil)))))
  (sSeq (sSet 3 (eOp aIx (eCall 2 F_sizes_of (eCons (eVar 1) (eCons (eVar 2) eNil))) (eVar 2)))
  (sRet (eCB (f1 sumD) (eCons (eLc (itAny (eVar 0)) (gN 4) tYesM (eOp aIx (eVar 3) (eVar 4)) [4]) eNil)))))
def F_long_behind : List D → Out := runF 5 B_long_behind
def B_letter_at : M Fl :=
  (sSeq (sExpr (eCall 3 F_check_far (eCons (eVar 0) (eCons (eVar 1) (eCons (eVar 2) eNil)))))
  (sSeq (sIf (eOr (eNot (eTest (eCall 1 F_is_whole (eCons (eVar 3) eNil)))) (eTest (eOp cLt (eVar 3) (eC (.int 0)))))
    (sRaise 6)
    sNx)
  (sSeq (sPar [4, 5, 6] (pCons (eCB (f1 dictD) (eCons (eVar 1) eNil)) (pCons (eCall 2 F_sizes_of (eCons (eVar 1) (eCons (eVar 2) eNil))) (pCons (eVar 3) eNil))))
  (sSeq (sFor (itRngN 3 (eCons (eVar 2) (eCons (eUn aNeg (eC (.int 1))) (eCons (eUn aNeg (eC (.int 1))) eNil)))) (gN 7)
    (sSeq (sSet 8 (eC .non))
    (sSeq (sFor (itAny (eVar 0)) (gN 9)
      (sIf (eAnd (eTest (eOp cIsN (eVar 8) (eC .non))) (eTest (eOp cLt (eVar 6) (eOp aIx (eOp aIx (eVar 5) (eVar 7)) (eVar 9)))))
        (sSet 8 (eVar 9))
        (sIf (eTest (eOp cIsN (eVar 8) (eC .non)))
          (sAug 6 (fun i j => i - j) (eOp aIx (eOp aIx (eVar 5) (eVar 7)) (eVar 9)))
          sNx)))
    (sSeq (sIf (eOr (eTest (eOp cIsN (eVar 8) (eC .non))) (eTest (eOp cEq (eVar 7) (eC (.int 0)))))
      (sRet (eVar 8))
      sNx)
    (sSet 0 (eGet2 (eVar 4) (eVar 8) (eVar 8)))))))
  (sRet (eC .non))))))
def F_letter_at : List D → Out := runF 10 B_letter_at
def B_Round_shows : M Fl :=
  (sRet (eAndT (eOp cIsN (eCall 2 F_growing (eCons (eVar 1) (eCons (eVar 2) eNil))) (eC .non)) (eOp cEq (eCall 2 F_round_again (eCons (eVar 1) (eCons (eVar 2) eNil))) (eTup (dCons (eUn (fldD [11] "first") (eVar 0)) (dCons (eUn (fldD [11] "many") (eVar 0)) dNil))))))
def F_Round_shows : List D → Out := runF 3 B_Round_shows
def B__law_rules_right : M Fl :=
  (sSeq (sSet 2 (eLst (dCons (eC .non) (dCons (eC (.int 5)) (dCons (eC (.str [97])) (dCons (eTup dNil) (dCons (eTup (dCons (eTup (dCons (eC (.str [97])) (dCons (eC (.str [98])) dNil))) dNil)) (dCons eDNew (dCons (eLst (dCons (eC .non) dNil)) (dCons (eLst (dCons (eTup dNil) dNil)) (dCons (eLst (dCons (eTup (dCons (eC (.str [97])) dNil)) dNil)) (dCons (eLst (dCons (eTup (dCons (eC (.str [97])) (dCons (eC (.str [98])) (dCons (eC (.str [99])) dNil)))) dNil)) (dCons (eLst (dCons (eLst (dCons (eC (.str [97])) (dCons (eC (.str [98])) dNil))) dNil)) (dCons (eLst (dCons (eTup (dCons (eC (.str [])) (dCons (eC (.str [98])) dNil))) dNil)) dNil))))))))))))))
  (sSeq (sSet 2 (eOp aPlus (eVar 2) (eLst (dCons (eLst (dCons (eTup (dCons (eC (.str [97, 98])) (dCons (eC (.str [99])) dNil))) dNil)) (dCons (eLst (dCons (eTup (dCons (eC (.str [65])) (dCons (eC (.str [98])) dNil))) dNil)) (dCons (eLst (dCons (eTup (dCons (eC (.str [97])) (dCons (eC (.str [98, 98, 98, 98])) dNil))) dNil)) (dCons (eLst (dCons (eTup (dCons (eC (.str [97])) (dCons (eC .non) dNil))) dNil)) (dCons (eLst (dCons (eTup (dCons (eC (.str [97])) (dCons (eC (.str [66])) dNil))) dNil)) (dCons (eLst (dCons (eTup (dCons (eC (.int 1)) (dCons (eC (.str [97])) dNil))) dNil)) (dCons (eLst (dCons (eTup (dCons (eC (.str [97])) (dCons (eC (.int 1)) dNil))) dNil)) dNil))))))))))
  (sSeq (sSet 2 (eOp aPlus (eVar 2) (eLst (dCons (eLst (dCons (eTup (dCons (eC (.str [98])) (dCons (eC (.str [97])) dNil))) (dCons (eTup (dCons (eC (.str [97])) (dCons (eC (.str [98])) dNil))) dNil))) (dCons (eLst (dCons (eTup (dCons (eC (.str [97])) (dCons (eC (.str [98])) dNil))) (dCons (eTup (dCons (eC (.str [97])) (dCons (eC (.str [99])) dNil))) dNil))) (dCons (eLc (itAny (eC (.str [97, 98, 99, 100, 101]))) (gN 5) tYesM (eTup (dCons (eVar 5) (dCons (eC (.str [])) dNil))) [5]) dNil))))))
  (sSeq (sFor (itAny (eOp aPlus (eVar 2) (eLst (dCons (eLst (dCons (eTup (dCons (eC (.str [97])) (dCons (eOp aTimes (eC (.str [122])) (eOp aPlus (eC (.int 4)) (eOp aMod (eVar 0) (eC (.int 5))))) dNil))) dNil)) dNil)))) (gN 3)
    (sSeq (sFor (itAny (eTup (dCons (eC (.cls 13)) (dCons (eC (.cls 14)) dNil)))) (gN 4)
      (sIf (eTest (eOp cNe (eKinds 1 15 "_law_rules_right.<locals>.<lambda>" kHd KS__law_kinds (eCallL 4 2 (lkL [(13, F_gone_round), (14, F_judged)]) (eCons (eC (.str [97, 98])) (eCons (eVar 3) eNil)))) (eCall 1 F__law_due_of (eCons (eC (.int 5)) eNil))))
        (sRetR (eC (.bl false)))
        sNx))
    (sSeq (sIf (eTest (eOp cNe (eKinds 1 15 "_law_rules_right.<locals>.<lambda>" kHd KS__law_kinds (eCall 1 F_vanishing (eCons (eVar 3) eNil))) (eCall 1 F__law_due_of (eCons (eC (.int 5)) eNil))))
      (sRetR (eC (.bl false)))
      sNx)
    (sSeq (sIf (eTest (eOp cNe (eKinds 1 15 "_law_rules_right.<locals>.<lambda>" kHd KS__law_kinds (eCall 3 F_long_behind (eCons (eC (.str [97, 98])) (eCons (eVar 3) (eCons (eC .non) eNil))))) (eCall 1 F__law_due_of (eCons (eC (.int 5)) eNil))))
      (sRetR (eC (.bl false)))
      sNx)
    (sIf (eTest (eOp cNe (eKinds 1 15 "_law_rules_right.<locals>.<lambda>" kHd KS__law_kinds (eCall 4 F_letter_at (eCons (eC (.str [97, 98])) (eCons (eVar 3) (eCons (eC .non) (eCons (eC .non) eNil)))))) (eCall 1 F__law_due_of (eCons (eC (.int 5)) eNil))))
      (sRetR (eC (.bl false)))
      sNx)))))
  (sRetR (eC (.bl true)))))))
def F__law_rules_right : List D → OutR := runT 6 [false] tsL B__law_rules_right
def B__law_right : M Fl :=
  (sSeq (sFor (itAny (eCall 2 F__law_no_texts (eCons (eVar 0) (eCons (eC (.int 30)) eNil)))) (gN 2)
    (sSeq (sFor (itAny (eTup (dCons (eC (.cls 13)) (dCons (eC (.cls 14)) dNil)))) (gN 3)
      (sIf (eTest (eOp cNe (eKinds 1 16 "_law_right.<locals>.<lambda>" kHd KS__law_kinds (eCallL 3 2 (lkL [(13, F_gone_round), (14, F_judged)]) (eCons (eVar 2) (eCons (eC .non) eNil)))) (eCall 1 F__law_due_of (eCons (eC (.int 0)) eNil))))
        (sRetR (eC (.bl false)))
        sNx))
    (sSeq (sIf (eTest (eOp cNe (eKinds 1 16 "_law_right.<locals>.<lambda>" kHd KS__law_kinds (eCall 3 F_long_behind (eCons (eVar 2) (eCons (eC .non) (eCons (eC .non) eNil))))) (eCall 1 F__law_due_of (eCons (eC (.int 0)) eNil))))
      (sRetR (eC (.bl false)))
      sNx)
    (sIf (eTest (eOp cNe (eKinds 1 16 "_law_right.<locals>.<lambda>" kHd KS__law_kinds (eCall 4 F_letter_at (eCons (eVar 2) (eCons (eC .non) (eCons (eC .non) (eCons (eC .non) eNil)))))) (eCall 1 F__law_due_of (eCons (eC (.int 0)) eNil))))
      (sRetR (eC (.bl false)))
      sNx))))
  (sSeq (sFor (itAny (eOp aPlus (eCall 1 F__law_strange (eCons (eVar 0) eNil)) (eLst (dCons (eC (.int 41)) (dCons (eOp aPlus (eC (.int 40)) (eVar 0)) dNil))))) (gN 2)
    (sSeq (sIf (eTest (eOp cNe (eKinds 1 16 "_law_right.<locals>.<lambda>" kHd KS__law_kinds (eCall 3 F_long_behind (eCons (eC (.str [97])) (eCons (eLst dNil) (eCons (eVar 2) eNil))))) (eCall 1 F__law_due_of (eCons (eC (.int 6)) eNil))))
      (sRetR (eC (.bl false)))
      sNx)
    (sIf (eTest (eOp cNe (eKinds 1 16 "_law_right.<locals>.<lambda>" kHd KS__law_kinds (eCall 4 F_letter_at (eCons (eC (.str [97])) (eCons (eLst dNil) (eCons (eVar 2) (eCons (eC .non) eNil)))))) (eCall 1 F__law_due_of (eCons (eC (.int 6)) eNil))))
      (sRetR (eC (.bl false)))
      sNx)))
  (sSeq (sFor (itAny (eCall 1 F__law_strange (eCons (eVar 0) eNil))) (gN 2)
    (sIf (eTest (eOp cNe (eKinds 1 16 "_law_right.<locals>.<lambda>" kHd KS__law_kinds (eCall 4 F_letter_at (eCons (eC (.str [97])) (eCons (eLst dNil) (eCons (eC (.int 40)) (eCons (eVar 2) eNil)))))) (eCall 1 F__law_due_of (eCons (eC (.int 4)) eNil))))
      (sRetR (eC (.bl false)))
      sNx))
  (sRetR (eC (.bl true))))))
def F__law_right : List D → OutR := runT 4 [false] tsL B__law_right
def B_law : M Fl :=
  (sSeq (sSet 0 (eSl (eVar 0) oNone (oSome (eC (.int 63)))))
  (sSeq (sFor (itAny (eTup (dCons (eC (.int 0)) (dCons (eC (.int 3)) dNil)))) (gN 2)
    (sSeq (sSet 3 (eOp aPlus (eC (.int 1)) (eOp aMod (eCall 2 F__law_value (eCons (eCall 2 F__law_cell_at (eCons (eVar 0) (eCons (eVar 2) eNil))) (eCons (eC (.int 7)) eNil))) (eOp aPow (eC (.int 10)) (eC (.int 20))))))
    (sIf (eOr (eNot (eTest (eCallT 1 tsL [false] F__law_rules_right (eCons (eVar 3) eNil)))) (eNot (eTest (eCallT 1 tsL [false] F__law_right (eCons (eVar 3) eNil)))))
      (sRetR (eC (.bl false)))
      sNx)))
  (sSeq (sIf (eOr (eTest (eOp cNe (eCall 2 F_gone_round (eCons (eOp aTimes (eC (.str [97])) (eC (.int 30))) (eCons (eLst (dCons (eTup (dCons (eC (.str [97])) (dCons (eC (.str [122, 122, 122])) dNil))) dNil)) eNil))) (eOp aTimes (eC (.str [122])) (eC (.int 90))))) (eTest (eOp cNe (eCall 4 F_letter_at (eCons (eC (.str [97])) (eCons (eLst dNil) (eCons (eC (.int 40)) (eCons (eC (.int 0)) eNil))))) (eC (.str [97])))))
    (sRetR (eC (.bl false)))
    sNx)
  (sSeq (sIf (eTest (eOp cNe (eOp aIx (eCall 1 F_vanishing (eCons (eLst (dCons (eTup (dCons (eC (.str [97])) (dCons (eC (.str [])) dNil))) (dCons (eTup (dCons (eC (.str [98])) (dCons (eC (.str [97])) dNil))) (dCons (eTup (dCons (eC (.str [99])) (dCons (eC (.str [98])) dNil))) (dCons (eTup (dCons (eC (.str [122])) (dCons (eC (.str [99])) dNil))) dNil))))) eNil)) (eC (.int 3))) (eTup (dCons (eC (.str [122])) (dCons (eC (.int 4)) dNil)))))
    (sRetR (eC (.bl false)))
    sNx)
  (sRetR (eOp cIsN (eCall 4 F_letter_at (eCons (eC (.str [])) (eCons (eLst dNil) (eCons (eC (.int 0)) (eCons (eOp aPow (eC (.int 10)) (eC (.int 20))) eNil))))) (eC .non)))))))
def F_law : List D → OutR := runT 4 [false] tsL B_law
end G

/-! ## S_val -/
set_option Elab.async false
set_option linter.all false
set_option maxRecDepth 100000
set_option maxHeartbeats 400000
namespace G
open PySem L2 Vi
theorem runF_eq (n : Nat) (F : M Fl) (ds : List D) : runF n F ds = endF (F (startS n ds)) := (rfl)
@[simp] theorem endF_rt (s : S) (ρ : List S) : endF (.ok (.rt s) ρ) = .ret s := (rfl)
@[simp] theorem endF_nx (ρ : List S) : endF (.ok .nx ρ) = .ret (.fr .non) := (rfl)
@[simp] theorem endF_exc (k : Nat) (ρ : List S) : endF (.exc k ρ) = .exc k := (rfl)
theorem atI_nat {α : Type} (xs : List α) (i : Nat) : atI xs (i : Int) = xs[i]? := by
  unfold atI ixN
  rw [if_pos (Int.natCast_nonneg i)]
  by_cases h : (i : Int) < xs.length
  · rw [if_pos h]; rfl
  · rw [if_neg h, List.getElem?_eq_none (by omega)]; rfl
theorem cell_at (cs : List Int) (i : Nat) : F__law_cell_at [.lst (cs.map .int), .int (i : Int)] = .ret (.fr (.int (cs.getD i 0))) := by
  unfold F__law_cell_at B__law_cell_at
  by_cases h : i < cs.length
  · simp [runF_eq, startS, paramS, List.replicate, aIx, ixD, atI_nat, h]
  · simp [runF_eq, startS, paramS, List.replicate, aIx, ixD, atI_nat, h]

/-- at most n bits -/
@[irreducible] def Bd (n : Nat) (i : Int) : Prop := i.natAbs < 2 ^ n
theorem bits_le {n : Nat} {i : Int} (h : Bd n i) : Builtin.Int.intBits i ≤ n := by
  unfold Bd at h
  unfold Builtin.Int.intBits
  by_cases e : i = 0
  · subst e; exact Nat.zero_le _
  · have e2 : (i == 0) = false := by simpa using e
    rw [e2]
    have : i.natAbs ≠ 0 := by omega
    exact (Nat.log2_lt this).mpr h
theorem bd_of_bits {n : Nat} {i : Int} (h : Builtin.Int.intBits i ≤ n) : Bd n i := by
  unfold Builtin.Int.intBits at h
  unfold Bd
  by_cases e : i = 0
  · subst e; exact Nat.two_pow_pos n
  · have e2 : (i == 0) = false := by simpa using e
    rw [e2] at h
    have e3 : i.natAbs ≠ 0 := by omega
    exact (Nat.log2_lt e3).mp h
theorem Bd.mono {n m : Nat} {i : Int} (h : Bd n i) (l : n ≤ m) : Bd m i := by
  unfold Bd at *
  exact Nat.lt_of_lt_of_le h (Nat.pow_le_pow_right (by decide) l)
theorem Bd.mul {n m : Nat} {i j : Int} (h : Bd n i) (k : Bd m j) : Bd (n + m) (i * j) := by
  unfold Bd at *
  rw [Int.natAbs_mul, Nat.pow_add]
  exact Nat.mul_lt_mul'' h k
theorem Bd.add {n : Nat} {i j : Int} (h : Bd n i) (k : Bd n j) : Bd (n + 1) (i + j) := by
  unfold Bd at *
  have := Int.natAbs_add_le i j
  rw [Nat.pow_succ]; omega
theorem Bd.small {n : Nat} {i : Int} (h : i.natAbs < 2 ^ 40) (l : 40 ≤ n) : Bd n i := Bd.mono (n := 40) (by unfold Bd; exact h) l
theorem aTimes_i {i j : Int} (h : Builtin.Int.intBits i + Builtin.Int.intBits j ≤ 134217728) : aTimes (.int i) (.int j) = some (.val (.int (i * j))) := by
  show Option.or (if Builtin.Int.intBits i + Builtin.Int.intBits j ≤ 134217728 then okI (i * j) else none) _ = _
  rw [if_pos h]; rfl
theorem aTimes_b {n m : Nat} {i j : Int} (h : Bd n i) (k : Bd m j) (l : n + m ≤ 134217728) : aTimes (.int i) (.int j) = some (.val (.int (i * j))) :=
  aTimes_i (by have := bits_le h; have := bits_le k; omega)
def primes : List Int := [1000003, 1000033, 1000037, 1000039, 1000081, 1000099, 1000117, 1000121, 1000133, 1000151, 1000159, 1000171, 1000183, 1000187, 1000193, 1000199]
theorem primes_at (k : Nat) : ∃ p : Int, 0 < p ∧ atI (primes.map D.int) ((k : Int) % 16) = some (.int p) := by
  have e : ((k : Int) % 16) = ((k % 16 : Nat) : Int) := by omega
  have hk : k % 16 < primes.length := Nat.mod_lt _ (by decide)
  have hp : ∀ x ∈ primes, 0 < x := by decide
  refine ⟨primes[k % 16], hp _ (List.getElem_mem _), ?_⟩
  rw [e, atI_nat, List.getElem?_map, List.getElem?_eq_getElem hk]; rfl
theorem law_draw (c : Int) (k : Nat) (m : Int) (hc : Bd 67000000 c) (hk : k < 1000000) (hm : 0 < m) : ∃ z, F__law_draw [.int c, .int k, .int m] = .ret (.fr (.int z)) ∧ 0 ≤ z ∧ z < m := by
  obtain ⟨p, hp, e⟩ := primes_at k
  unfold primes at e
  have h1 := aTimes_b (j := 48271) hc (Bd.small (n := 40) (by decide) (by decide)) (by decide)
  have h2 := aTimes_b (i := (k : Int)) (j := 69621) (Bd.small (n := 40) (by omega) (by decide)) (Bd.small (n := 40) (by decide) (by decide)) (by decide)
  refine ⟨(c * 48271 + k * 69621) % p % m, ?_, Int.emod_nonneg _ (by omega), Int.emod_lt_of_pos _ hm⟩
  unfold F__law_draw B__law_draw
  simp at e
  simp [runF_eq, startS, paramS, List.replicate, aIx, ixD, h1, h2, aMod_i, e, hp, hm]

theorem aPow_18 : aPow (.int 10) (.int 18) = some (.val (.int 1000000000000000000)) := by
  unfold aPow gI okI
  simp
theorem Bd.div {n : Nat} {i : Int} {j : Nat} (h : Bd n i) (h0 : 0 ≤ i) : Bd n (i / (j : Int)) := by
  unfold Bd at *
  have e : i = (i.natAbs : Int) := by omega
  rw [e, ← Int.natCast_ediv, Int.natAbs_natCast]
  exact Nat.lt_of_le_of_lt (Nat.div_le_self _ _) h
theorem law_value (c : Int) (t : Nat) (hc : Bd 1100000 c) (ht : t < 1000) : ∃ z, F__law_value [.int c, .int t] = .ret (.fr (.int z)) ∧ 0 ≤ z ∧ Bd 1100010 z := by
  have h3 := aTimes_b (i := 3) (j := (t : Int)) (Bd.small (n := 40) (by decide) (by decide)) (Bd.small (n := 40) (by omega) (by decide)) (by decide)
  by_cases h : 1000000000000000000 ≤ c
  · refine ⟨(c - 1000000000000000000) / 2 ^ (3 * (t : Int)).toNat, ?_, ?_, ?_⟩
    · unfold F__law_value B__law_value
      have h4 : 0 ≤ 3 * (t : Int) := by omega
      simp [runF_eq, startS, paramS, List.replicate, aPow_18, h, h3, aShr, gI, okI, h4]
    · exact Int.ediv_nonneg (by omega) (Int.le_of_lt (Int.pow_pos (by decide)))
    · have : Bd 1100000 (c - 1000000000000000000) := by unfold Bd at *; omega
      have := Bd.mono (Bd.div (j := 2 ^ (3 * (t : Int)).toNat) this (by omega)) (show 1100000 ≤ 1100010 by decide)
      rw [Int.natCast_pow] at this
      exact this
  · have b1 : ∀ i : Int, i.natAbs < 2 ^ 40 → Bd 1100001 (c + i) := fun i hi => Bd.add hc (Bd.small hi (by decide))
    have h5 := aTimes_b (i := 977) (j := (t : Int)) (Bd.small (n := 40) (by decide) (by decide)) (Bd.small (n := 40) (by omega) (by decide)) (by decide)
    have h6 := aTimes_b (i := 31) (j := (t : Int)) (Bd.small (n := 40) (by decide) (by decide)) (Bd.small (n := 40) (by omega) (by decide)) (by decide)
    have c1 := b1 (977 * t) (by omega)
    have c2 := b1 (31 * t) (by omega)
    have c3 : Bd 1100002 (c + 31 * t + 5) := Bd.add c2 (Bd.small (by decide) (by decide))
    have c4 : Bd 1100001 (c + 7) := b1 7 (by decide)
    have h7 := aTimes_b c1 c3 (by decide)
    have h8 := aTimes_b c2 c4 (by decide)
    obtain ⟨z1, e1, p1, q1⟩ := law_draw ((c + 977 * t) * (c + 31 * t + 5)) (t % 9 + 1) 999983 (Bd.mono (Bd.mul c1 c3) (by decide)) (by omega) (by decide)
    have c5 : Bd 2200002 ((c + 31 * t) * (c + 7)) := Bd.mono (Bd.mul c2 c4) (by decide)
    have c6 : Bd 2200002 (977 * (t : Int)) := Bd.small (by omega) (by decide)
    have c7 := Bd.mono (m := 67000000) (Bd.add c5 c6) (by decide)
    obtain ⟨z2, e2, p2, q2⟩ := law_draw ((c + 31 * t) * (c + 7) + 977 * t) (t % 7 + 2) 1000003 c7 (by omega) (by decide)
    have h9 := aTimes_b (i := z1) (j := 1000003) (Bd.small (n := 40) (by omega) (by decide)) (Bd.small (n := 40) (by decide) (by decide)) (by decide)
    refine ⟨z1 * 1000003 + z2, ?_, by omega, Bd.small (by omega) (by decide)⟩
    have m9 : aMod (.int (t : Int)) (.int 9) = some (.val (.int ((t % 9 : Nat) : Int))) := aMod_i (by decide)
    have m7 : aMod (.int (t : Int)) (.int 7) = some (.val (.int ((t % 7 : Nat) : Int))) := aMod_i (by decide)
    unfold F__law_value B__law_value
    simp only [Int.natCast_add, Int.cast_ofNat_Int, Int.natCast_one] at e1 e2
    simp [runF_eq, startS, paramS, List.replicate, aPow_18, h, h5, h6, h7, h8, h9, m9, m7, -Int.natCast_emod, e1, e2]

/-! #### loops, goes -/
theorem loop_list {tg : D → M Unit} {body : M Fl} (I : Nat → List S → Prop) {xs : List D} (step : ∀ i d ρ, xs[i]? = some d → I i ρ → ∃ ρ', (tg d ρ).nx.thn (fun _ ρ => body ρ) = .ok .nx ρ' ∧ I (i + 1) ρ') (ρ : List S) (h : I 0 ρ) :
    ∃ ρ', loopS tg body xs ρ = .ok .nx ρ' ∧ I xs.length ρ' := by
  have key : ∀ (k : Nat) (ds : List D) (ρ : List S), xs.drop k = ds → k ≤ xs.length → I k ρ → ∃ ρ', loopS tg body ds ρ = .ok .nx ρ' ∧ I xs.length ρ' := by
    intro k ds
    induction ds generalizing k with
    | nil =>
      intro ρ e hk h
      have : xs.length ≤ k := by simpa using e
      have e2 : k = xs.length := by omega
      subst e2
      exact ⟨ρ, rfl, h⟩
    | cons d ds ih =>
      intro ρ e hk h
      have hk2 : k < xs.length := by
        rcases Nat.lt_or_ge k xs.length with q | q
        · exact q
        · rw [List.drop_eq_nil_of_le q] at e; cases e
      have e1 : xs[k]? = some d := by
        have : (xs.drop k)[0]? = some d := by rw [e]; rfl
        simpa using this
      obtain ⟨ρ1, q1, q2⟩ := step k d ρ e1 h
      have e3 : xs.drop (k + 1) = ds := by
        have : (xs.drop k).drop 1 = ds := by rw [e]; rfl
        simpa [List.drop_drop] using this
      obtain ⟨ρ2, q3, q4⟩ := ih (k + 1) ρ1 e3 hk2 q2
      refine ⟨ρ2, ?_, q4⟩
      rw [loop_cons]
      cases e4 : (tg d ρ).nx with
      | ok a ρ3 => rw [e4] at q1; simp only [thn_ok] at q1 ⊢; rw [q1]; exact q3
      | exc k ρ3 => rw [e4] at q1; cases q1
      | bad => rw [e4] at q1; cases q1
  exact key 0 xs ρ rfl (Nat.zero_le _) h
theorem ints_get {i : Int} {k : Int} {m j : Nat} {d : D} (h : (intsFrom i k m)[j]? = some d) : j < m ∧ d = .int (i + j * k) := intsFrom_get h
theorem loop_ints {tg : D → M Unit} {body : M Fl} (I : Nat → List S → Prop) {n : Nat} (step : ∀ (i : Nat) ρ, i < n → I i ρ → ∃ ρ', (tg (.int (i : Int)) ρ).nx.thn (fun _ ρ => body ρ) = .ok .nx ρ' ∧ I (i + 1) ρ') (ρ : List S) (h : I 0 ρ) :
    ∃ ρ', loopS tg body (intsFrom 0 1 n) ρ = .ok .nx ρ' ∧ I n ρ' := by
  have := loop_list (tg := tg) (body := body) (xs := intsFrom 0 1 n) I (fun i d ρ e hi => by
    obtain ⟨e1, e2⟩ := ints_get e
    have e3 : (0 : Int) + (i : Int) * 1 = (i : Int) := by omega
    rw [e3] at e2
    subst e2
    exact step i ρ e1 hi) ρ h
  rw [intsFrom_len] at this
  exact this
theorem rg1 {n : Nat} (h : n < 2 ^ 60) : rgD [.int (n : Int)] = some (intsFrom 0 1 n) := by
  show (if big62 (n : Int) = true then some (intsFrom 0 1 (n : Int).toNat) else none) = _
  have e : big62 (n : Int) = true := by
    unfold big62
    rw [Bool.and_eq_true, decide_eq_true_eq, decide_eq_true_eq]
    omega
  rw [if_pos e]; rfl
/-! #### the laws' letters and texts -/
abbrev Low (s : List Nat) : Prop := ∀ c ∈ s, 97 ≤ c ∧ c ≤ 122
def abc : List Nat := [97, 98, 99, 100, 101, 102, 103, 104, 105, 106, 107, 108, 109, 110, 111, 112, 113, 114, 115, 116, 117, 118, 119, 120, 121, 122]
theorem abc_at : ∀ j : Nat, j < 26 → abc[j]? = some (97 + j) := by decide
theorem four_at : ∀ j : Nat, j < 4 → ∃ f : Int, 0 < f ∧ f ≤ 26 ∧ ([D.int 2, D.int 3, D.int 5, D.int 26])[j]? = some (.int f)
  | 0, _ => ⟨2, by decide, by decide, rfl⟩
  | 1, _ => ⟨3, by decide, by decide, rfl⟩
  | 2, _ => ⟨5, by decide, by decide, rfl⟩
  | 3, _ => ⟨26, by decide, by decide, rfl⟩
  | n + 4, h => absurd h (by omega)
abbrev Cells (cs : List Int) : Prop := ∀ i : Nat, Bd 1048576 (cs.getD i 0)
theorem emod_nat (z : Int) {m : Nat} (hm : 0 < m) : ∃ j : Nat, z % (m : Int) = (j : Int) ∧ j < m :=
  ⟨(z % (m : Int)).toNat, by have := Int.emod_nonneg z (b := (m : Int)) (by omega); omega, by have := Int.emod_lt_of_pos z (b := (m : Int)) (by omega); have := Int.emod_nonneg z (b := (m : Int)) (by omega); omega⟩
end G

/-! ## S_data -/
set_option Elab.async false
set_option linter.all false
set_option maxRecDepth 100000
set_option maxHeartbeats 400000
namespace G
open PySem L2 Vi
/-! #### data -/
abbrev nD (i : Nat) : D := .int (i : Int)
theorem sl_lt {n : Nat} (h : n < 1000) : n < SLine := Nat.lt_of_lt_of_le h sline_ge
theorem cut_nat {α : Type} (xs : List α) (i j : Nat) : cut xs (some (i : Int)) (some (j : Int)) = (xs.drop i).take (j - i) := by
  unfold cut
  rw [HT.sIx_nat, HT.sIx_nat]
  by_cases h : i ≤ xs.length
  · rw [Nat.min_eq_left h]
    by_cases h2 : j ≤ xs.length
    · rw [Nat.min_eq_left h2]
    · rw [Nat.min_eq_right (by omega), List.take_of_length_le (by simp), List.take_of_length_le (by simp; omega)]
  · have e1 : min i xs.length = xs.length := Nat.min_eq_right (by omega)
    rw [e1, List.drop_eq_nil_of_le (Nat.le_refl _), List.drop_eq_nil_of_le (by omega : xs.length ≤ i)]; simp
theorem ints_range (n : Nat) : intsFrom 0 1 n = (List.range n).map nD := by
  apply List.ext_getElem?
  intro i
  by_cases h : i < n
  · rw [List.getElem?_map, List.getElem?_range h]
    have : i < (intsFrom 0 1 n).length := by rw [intsFrom_len]; exact h
    obtain ⟨_, e⟩ := ints_get (List.getElem?_eq_getElem this)
    rw [List.getElem?_eq_getElem this, e]
    simp [nD]
  · rw [List.getElem?_eq_none (by rw [intsFrom_len]; omega), List.getElem?_eq_none (by rw [List.length_map, List.length_range]; omega)]
theorem ints_from (a n : Nat) : intsFrom (a : Int) 1 n = (List.range' a n).map nD := by
  apply List.ext_getElem?
  intro i
  by_cases h : i < n
  · rw [List.getElem?_map, List.getElem?_range' h]
    have : i < (intsFrom (a : Int) 1 n).length := by rw [intsFrom_len]; exact h
    obtain ⟨_, e⟩ := ints_get (List.getElem?_eq_getElem this)
    rw [List.getElem?_eq_getElem this, e]
    simp [nD]
  · rw [List.getElem?_eq_none (by rw [intsFrom_len]; omega), List.getElem?_eq_none (by rw [List.length_map, List.length_range']; omega)]
theorem rgi {k : Int} (h : k.natAbs < 2 ^ 60) : rgD [.int k] = some ((List.range k.toNat).map nD) := by
  show (if big62 k = true then some (intsFrom 0 1 k.toNat) else none) = _
  have e : big62 k = true := by
    unfold big62
    rw [Bool.and_eq_true, decide_eq_true_eq, decide_eq_true_eq]
    omega
  rw [if_pos e, ints_range]
theorem rg2 {a b : Nat} (h : a < 2 ^ 60) (h2 : b < 2 ^ 60) : rgD [nD a, nD b] = some ((List.range' a (b - a)).map nD) := by
  show (if (big62 (a : Int) && big62 (b : Int)) = true then some (intsFrom (a : Int) 1 ((b : Int) - (a : Int)).toNat) else none) = _
  have e : (big62 (a : Int) && big62 (b : Int)) = true := by
    unfold big62
    simp only [Bool.and_eq_true, decide_eq_true_eq]
    omega
  have e2 : ((b : Int) - (a : Int)).toNat = b - a := by omega
  rw [if_pos e, e2, ints_from]
theorem bls_map {α : Type} (f : α → Bool) : ∀ s : List α, bls? (s.map fun c => D.bl (f c)) = some (s.map f)
  | [] => rfl
  | x :: s => by
    show (bls? (s.map fun c => D.bl (f c))).map (f x :: ·) = _
    rw [bls_map f s]; rfl
theorem ints_map : ∀ s : List Nat, ints? (s.map nD) = some (s.map fun i : Nat => (i : Int))
  | [] => rfl
  | x :: s => by
    show (ints? (s.map nD)).map ((x : Int) :: ·) = _
    rw [ints_map s]; rfl
theorem okDs_n : ∀ s : List Nat, okDs (s.map nD) = true
  | [] => by unfold okDs; rfl
  | x :: s => by
    show okDs (nD x :: s.map nD) = true
    unfold okDs
    rw [okDs_n s]
    show (okD (.int x) && true) = true
    unfold okD; rfl
theorem depDs_n : ∀ s : List Nat, depDs (s.map nD) = 0
  | [] => by unfold depDs; rfl
  | x :: s => by
    show depDs (nD x :: s.map nD) = 0
    unfold depDs
    rw [depDs_n s]
    show max (depD (.int x)) 0 = 0
    unfold depD; rfl
theorem eqv_n : ∀ s t : List Nat, PyData.eqvAll (toPys (s.map nD)) (toPys (t.map nD)) = (s == t)
  | [], [] => by simp [toPys, PyData.eqvAll]
  | [], y :: t => by simp [toPys, PyData.eqvAll]
  | x :: s, [] => by simp [toPys, PyData.eqvAll]
  | x :: s, y :: t => by
    have := eqv_n s t
    simp only [List.map_cons, toPys, toPy, nD, PyData.eqvAll, PyData.eqv]
    rw [this]
    show ((x : Int) == (y : Int) && s == t) = ((x :: s) == (y :: t))
    rw [List.cons_beq_cons]
    congr 1
    by_cases h : x = y
    · subst h; simp
    · rw [beq_eq_false_iff_ne.mpr h, beq_eq_false_iff_ne.mpr (by omega)]
theorem eqG_n (s t : List Nat) : eqG (.lst (s.map nD)) (.lst (t.map nD)) = some (s == t) := by
  show (if okD (.lst (s.map nD)) = true ∧ okD (.lst (t.map nD)) = true ∧ depD (.lst (s.map nD)) ≤ 60 ∧ depD (.lst (t.map nD)) ≤ 60 then some (eqD (.lst (s.map nD)) (.lst (t.map nD))) else none) = _
  have e : ∀ s : List Nat, okD (.lst (s.map nD)) = true ∧ depD (.lst (s.map nD)) ≤ 60 := fun s => by
    unfold okD depD
    rw [okDs_n, depDs_n]
    exact ⟨rfl, by decide⟩
  rw [if_pos ⟨(e s).1, (e t).1, (e s).2, (e t).2⟩]
  unfold eqD
  simp only [toPy, PyData.eqv]
  rw [eqv_n]
theorem cEq_n (s t : List Nat) : cEq (.lst (s.map nD)) (.lst (t.map nD)) = some (.val (.bl (s == t))) := by unfold cEq; rw [eqG_n]; rfl
theorem cNe_n (s t : List Nat) : cNe (.lst (s.map nD)) (.lst (t.map nD)) = some (.val (.bl !(s == t))) := by unfold cNe; rw [eqG_n]; rfl
theorem in_n (a : Nat) : ∀ s : List Nat, inD (nD a) (s.map nD) = decide (a ∈ s)
  | [] => by simp [inD]
  | x :: s => by
    have := in_n a s
    unfold inD at *
    rw [List.map_cons, List.any_cons, this]
    show ((x : Int) == (a : Int) || decide (a ∈ s)) = _
    by_cases h : a = x
    · subst h; simp
    · rw [beq_eq_false_iff_ne.mpr (by omega)]; simp [h]
theorem flat_n (s : List Nat) : (s.map nD).all flatD = true := by
  rw [List.all_eq_true]
  intro d hd
  obtain ⟨x, _, e⟩ := List.mem_map.mp hd
  subst e; rfl
theorem cIn_n (a : Nat) (s : List Nat) : cIn (nD a) (.lst (s.map nD)) = some (.val (.bl (decide (a ∈ s)))) := by
  unfold cIn
  show (if flatD (nD a) = true ∧ (s.map nD).all flatD = true then some (inD (nD a) (s.map nD)) else none).map _ = _
  rw [if_pos ⟨rfl, flat_n s⟩, in_n]; rfl
theorem cNotIn_n (a : Nat) (s : List Nat) : cNotIn (nD a) (.lst (s.map nD)) = some (.val (.bl !decide (a ∈ s))) := by
  unfold cNotIn
  show (if flatD (nD a) = true ∧ (s.map nD).all flatD = true then some (inD (nD a) (s.map nD)) else none).map _ = _
  rw [if_pos ⟨rfl, flat_n s⟩, in_n]; rfl
@[simp] theorem tYes_r (ρ : List S) : tYesM ρ = .ok true ρ := (rfl)
theorem cIn_ch (c : Nat) (s : List Nat) : cIn (.str [c]) (.str s) = some (.val (.bl (decide (c ∈ s)))) := rfl
theorem slD_n {s : List Nat} (h : s.length ≤ 1000) (i j : Nat) : slD (.str s) (some (i : Int)) (some (j : Int)) = some (.val (.str ((s.drop i).take (j - i)))) := by
  show (if s.length ≤ SLine then some (Hd.val (.str (cut s _ _))) else none) = _
  rw [if_pos (sl_of h), cut_nat]
end G

/-! ## S_more -/
set_option Elab.async false
set_option linter.all false
set_option maxRecDepth 100000
set_option maxHeartbeats 400000
namespace G
open PySem L2 Vi
theorem ixN_nat {n i : Nat} (h : i < n) : ixN n (i : Int) = some i := by
  unfold ixN
  rw [if_pos (by omega), if_pos (by omega), Int.toNat_natCast]
theorem atI_0 {α : Type} (xs : List α) : atI xs 0 = xs[0]? := atI_nat xs 0
theorem rg_down (n : Nat) (h : n ≤ 1000) : rgD [.int ((n : Int) - 1), .int (-1), .int (-1)] = some (intsFrom ((n : Int) - 1) (-1) n) := by
  have e : Builtin.Range.rangeSize ((n : Int) - 1) (-1) (-1) = n := by
    unfold Builtin.Range.rangeSize
    rw [if_neg (by decide)]
    by_cases h0 : n = 0
    · subst h0; rfl
    · rw [if_pos (by omega)]
      show ((n : Int) - 1 - (-1) - 1) / 1 + 1 = n
      omega
  have f : ∀ i : Int, i.natAbs ≤ 2000 → Builtin.Range.rangeFitsLong i = true := fun i hi => by
    unfold Builtin.Range.rangeFitsLong
    rw [Bool.and_eq_true, decide_eq_true_eq, decide_eq_true_eq]
    omega
  have s : Builtin.Range.small ((n : Int) - 1) (-1) (-1) = true := by
    unfold Builtin.Range.small
    rw [e, f _ (by omega), f _ (by decide), f n (by omega), if_neg (by decide), f _ (by decide)]
    simp
  show (rg3 ((n : Int) - 1) (-1) (-1)).map _ = _
  unfold rg3
  rw [if_pos ⟨by decide, by decide, s, by rw [e]; omega⟩, e]
  rfl
theorem rg_two (M : Int) (h : 1 ≤ M) (h2 : M ≤ 9) : ∃ m : Nat, m ≤ 5 ∧ rgD [.int 0, .int M, .int 2] = some (intsFrom 0 2 m) := by
  have e : Builtin.Range.rangeSize 0 M 2 = (M - 1) / 2 + 1 := by
    unfold Builtin.Range.rangeSize
    rw [if_pos (by decide), if_pos (by omega)]
    congr 2; omega
  have f : ∀ i : Int, i.natAbs ≤ 2000 → Builtin.Range.rangeFitsLong i = true := fun i hi => by
    unfold Builtin.Range.rangeFitsLong
    rw [Bool.and_eq_true, decide_eq_true_eq, decide_eq_true_eq]
    omega
  have s : Builtin.Range.small 0 M 2 = true := by
    unfold Builtin.Range.small
    rw [e, f 0 (by decide), f M (by omega), f 2 (by decide), f _ (by omega), if_pos (by decide), f _ (by omega)]
    simp
  refine ⟨((M - 1) / 2 + 1).toNat, by omega, ?_⟩
  show (rg3 0 M 2).map _ = _
  unfold rg3
  rw [if_pos ⟨by decide, by decide, s, by rw [e]; omega⟩, e]
  rfl
theorem aIx_l {xs : List D} {i : Nat} {d : D} (h : xs[i]? = some d) : aIx (.lst xs) (.int (i : Int)) = some (.val d) := by
  show (atI xs (i : Int)).map Hd.val = _
  rw [atI_nat, h]; rfl
theorem all_true {α : Type} (l : List α) : (l.map fun _ => true).all id = true := by
  rw [List.all_eq_true]; intro b hb; obtain ⟨_, _, e⟩ := List.mem_map.mp hb; rw [← e]; rfl
theorem any_false {α : Type} (l : List α) : (l.map fun _ => false).any id = false := by
  rw [List.any_eq_false]; intro b hb; obtain ⟨_, _, e⟩ := List.mem_map.mp hb; rw [← e]; exact Bool.false_ne_true
theorem filt_map {α β γ : Type} (l : List α) (f : α → β) (g : γ) : ((l.map f).filter (fun _ => true)).map (fun _ => g) = l.map fun _ => g := by
  rw [List.filter_eq_self.mpr (fun _ _ => rfl), List.map_map]; rfl
theorem orT_s {a : M Hd} {ρ : List S} {s d : List Nat} (h : a ρ = .ok (.val (.str s)) ρ) (hs : Low s) (hl : s.length ≤ 4) (hd : Low d) (h1 : 1 ≤ d.length) (h2 : d.length ≤ 4) :
    ∃ v, (Low v ∧ 1 ≤ v.length ∧ v.length ≤ 4) ∧ eOrT a (eC (.str d)) ρ = .ok (.val (.str v)) ρ := by
  cases s with
  | nil => exact ⟨d, ⟨hd, h1, h2⟩, by simp [h, truD]⟩
  | cons x s =>
    refine ⟨x :: s, ⟨hs, by simp, hl⟩, ?_⟩
    have : (x :: s).length ≤ SLine := sl_of (by omega)
    simp only [List.length_cons] at this
    simp [h, truD, this]
theorem low_take {s : List Nat} (h : Low s) (i j : Nat) : Low ((s.drop i).take j) := fun c hc => h c (List.mem_of_mem_drop (List.mem_of_mem_take hc))
theorem aRep2 {s : List Nat} (h : s.length ≤ 400) : aTimes (.str s) (.int 2) = some (.val (.str (s ++ s))) := by
  show Option.or none (Option.or (if 0 ≤ (2 : Int) ∧ (2 : Int) ≤ 1000 ∧ s.length * (2 : Int).toNat ≤ SLine then some (Hd.val (.str (repL s 2))) else none) _) = _
  rw [if_pos ⟨by decide, by decide, sl_of (by show s.length * 2 ≤ 1000; omega)⟩]
  show some (Hd.val (.str (s ++ (s ++ [])))) = _
  rw [List.append_nil]
theorem cut63 (ns : List Int) (h : ns.length ≤ 63) : cut ns none (some 63) = ns := by
  have := cut_nat ns 0 63
  have e : cut ns (some ((0 : Nat) : Int)) (some ((63 : Nat) : Int)) = cut ns none (some 63) := rfl
  rw [← e, this, List.drop_zero, List.take_of_length_le (by omega)]
theorem slD_scr (ns : List Int) (h : ns.length ≤ 63) : slD (.scr ns) none (some 63) = some (.new (.lst (ns.map .int))) := by
  show (if ns.length ≤ SLine then some (Hd.new (.lst ((cut ns none (some 63)).map .int))) else none) = _
  rw [if_pos (sl_of (by omega)), cut63 ns h]
end G

/-! ## S_low -/
set_option Elab.async false
set_option linter.all false
set_option maxRecDepth 100000
set_option maxHeartbeats 400000
namespace G
open PySem L2 Vi
theorem low_abc {c : Nat} (h : 97 ≤ c ∧ c ≤ 122) : c ∈ abc := by
  have := abc_at (c - 97) (by omega)
  have e : 97 + (c - 97) = c := by omega
  rw [e] at this
  exact List.mem_of_getElem? this
theorem nodup_len : ∀ {l m : List Nat}, l.Nodup → (∀ x ∈ l, x ∈ m) → l.length ≤ m.length
  | [], m, _, _ => Nat.zero_le _
  | a :: l, m, nd, h => by
    have nd := List.nodup_cons.mp nd
    have ha := h a List.mem_cons_self
    have := nodup_len (l := l) (m := m.erase a) nd.2 fun x hx => (List.mem_erase_of_ne (fun e : x = a => nd.1 (by rw [← e]; exact hx))).mpr (h x (List.mem_cons_of_mem _ hx))
    rw [List.length_erase_of_mem ha] at this
    have : 0 < m.length := List.length_pos_of_mem ha
    rw [List.length_cons]; omega
end G

/-! ## S_text -/
set_option Elab.async false
set_option linter.all false
set_option maxRecDepth 100000
set_option maxHeartbeats 400000
namespace G
open PySem L2 Vi
theorem is_letters (s : List Nat) (lo hi : Int) (h : Low s) (h1 : lo ≤ s.length) (h2 : (s.length : Int) ≤ hi) (hl : s.length ≤ 1000) : F_is_letters [.str s, .int lo, .int hi] = .ret (.fr (.bl true)) := by
  have k := eLc_one (it := itAny (eVar 0)) (v := 3) (cond := tYesM) (elt := eOp cIn (eVar 3) (eC (.str abc))) (ρ := [.fr (.str s), .fr (.int lo), .fr (.int hi), .un]) (xs := s.map fun c => .str [c]) (fun _ => true) (fun _ => .bl true)
    (by simp) (by simp) rfl (fun x hx => by
      obtain ⟨c, hc, e⟩ := List.mem_map.mp hx
      subst e
      have := low_abc (h c hc)
      refine ⟨by simp, fun _ => ?_⟩
      simp [cIn_ch, this]) (by rw [List.length_map]; exact sl_of hl)
  have e2 : ((s.map fun c => D.str [c]).filter fun _ => true).map (fun _ => D.bl true) = s.map fun _ => D.bl true := by
    rw [List.filter_eq_self.mpr (fun _ _ => rfl), List.map_map]; rfl
  rw [e2] at k
  unfold abc at k
  have b := bls_map (fun _ : Nat => true) s
  have a1 : tyD (.str s) = some "str" := rfl
  unfold F_is_letters B_is_letters
  simp [runF_eq, startS, paramS, List.replicate, isiD, tyD, isiT, isiB, okB, lenD_s hl, h1, h2, k, allD, b]
theorem check_text (s : List Nat) (hi : Int) (h : Low s) (h2 : (s.length : Int) ≤ hi) (hl : s.length ≤ 1000) : F_check_text [.str s, .int hi] = .ret (.fr .non) := by
  have k := is_letters s 0 hi h (by omega) h2 hl
  unfold F_check_text B_check_text
  simp [runF_eq, startS, paramS, List.replicate, k]
end G

/-! ## S_cells -/
set_option Elab.async false
set_option linter.all false
set_option maxRecDepth 100000
set_option maxHeartbeats 400000
namespace G
open PySem L2 Vi
theorem cell_bits {ns : List Int} (h : ∀ z ∈ ns, Builtin.Int.intBits z ≤ 1048576) : Cells ns := fun i => by
  rw [List.getD_eq_getElem?_getD]
  cases e : ns[i]? with
  | none => exact Bd.small (by decide) (by decide)
  | some z => exact bd_of_bits (h z (List.mem_of_getElem? e))
end G

/-! ## S_ru -/
set_option Elab.async false
set_option linter.all false
set_option maxRecDepth 100000
set_option maxHeartbeats 400000
namespace G
open PySem L2 Vi
/-! #### rules -/
abbrev Rule := Nat × List Nat
abbrev ruD (r : Rule) : D := .tup [.str [r.1], .str r.2]
structure RuleOk (r : Rule) : Prop where
  c : 97 ≤ r.1 ∧ r.1 ≤ 122
  p : Low r.2
  l : r.2.length ≤ 3
structure RulesOk (rs : List Rule) : Prop where
  all : ∀ r ∈ rs, RuleOk r
  len : rs.length ≤ 4
  up : rs.Pairwise fun a b => a.1 < b.1
@[simp] theorem eDNew_r (ρ : List S) : eDNew ρ = .ok (.new (.dic [] [])) ρ := (rfl)
@[simp] theorem ownK_d (ks : List (List Nat)) (xs : List D) : ownK (.own (.dic ks xs)) = some (ks, xs) := (rfl)
@[simp] theorem getOwnK_r (i : Nat) (ρ : List S) : getOwnK i ρ = M.lift (ownK (at_ ρ i)) ρ := by
  show (match ownK (at_ ρ i) with | some xs => R.ok xs ρ | none => .bad) = _
  cases ownK (at_ ρ i) <;> rfl
@[simp] theorem setOwnK_r (i : Nat) (p : List (List Nat) × List D) (ρ : List S) : setOwnK i p ρ = .ok () (ρ.set i (.own (.dic p.1 p.2))) := (rfl)
@[simp] theorem str_q (s : List Nat) : str? (.str s) = some s := (rfl)
@[simp] theorem sSetK_r (i : Nat) (fj fe : M Hd) (ρ : List S) : sSetK i fj fe ρ = thnK (fun h ρ => thnK (fun d ρ => thnK (fun _ ρ => thnK (fun hj ρ => thnK (fun dj ρ => thnK (fun k ρ => thnK (fun p ρ => guardM (decide (p.1.length < SLine)) (setOwnK i (kput p.1 p.2 k d) >>= fun _ => pure .nx) ρ) ((getOwnK i ρ)) ⟨⟩) ((M.lift (str? dj) ρ)) ⟨⟩) ((rd hj ρ)) ⟨⟩) ((fj ρ)) ⟨⟩) ((getOwnK i ρ)) ⟨⟩) ((fz h ρ)) ⟨⟩) ((fe ρ)) ⟨⟩ := (rfl)
@[simp] theorem ePairs_r (i : Nat) (ρ : List S) : ePairs i ρ = thnK (fun p ρ => guardM (decide (p.1.length < SLine ∧ p.1.Nodup)) (pure (.new (.lst (pairsD p.1 p.2)))) ρ) ((getOwnK i ρ)) ⟨⟩ := (rfl)
/-- a dict of texts by letters -/
abbrev dcK (F : List Rule) : List (List Nat) := F.map fun p => [p.1]
abbrev dcX (F : List Rule) : List D := F.map fun p => .str p.2
def putF (F : List Rule) (c : Nat) (p : List Nat) : List Rule := if (F.map (·.1)).contains c = true then F.map (fun r => if r.1 = c then (c, p) else r) else F ++ [(c, p)]
theorem dc_has (c : Nat) : ∀ F : List Rule, (dcK F).contains [c] = (F.map (·.1)).contains c
  | [] => rfl
  | r :: F => by
    show ([r.1] :: dcK F).contains [c] = (r.1 :: F.map (·.1)).contains c
    rw [List.contains_cons, List.contains_cons, dc_has c F]
    congr 1
    by_cases e : c = r.1
    · subst e; simp
    · rw [beq_eq_false_iff_ne.mpr e, beq_eq_false_iff_ne.mpr (fun h => e (List.cons.inj h).1)]
theorem dc_zip (c : Nat) (p : List Nat) : ∀ F : List Rule, List.zipWith (fun k' x => if k' = [c] then D.str p else x) (dcK F) (dcX F) = dcX (F.map (fun r => if r.1 = c then (c, p) else r))
  | [] => rfl
  | r :: F => by
    show (if [r.1] = [c] then D.str p else .str r.2) :: List.zipWith (fun k' x => if k' = [c] then D.str p else x) (dcK F) (dcX F) = D.str (if r.1 = c then (c, p) else r).2 :: dcX (F.map _)
    rw [dc_zip c p F]
    congr 1
    by_cases e : r.1 = c
    · rw [if_pos e, if_pos (by rw [e])]
    · rw [if_neg e, if_neg (fun h => e (List.cons.inj h).1)]
theorem dc_keys (c : Nat) (p : List Nat) : ∀ F : List Rule, dcK (F.map (fun r => if r.1 = c then (c, p) else r)) = dcK F
  | [] => rfl
  | r :: F => by
    show [(if r.1 = c then (c, p) else r).1] :: dcK (F.map _) = [r.1] :: dcK F
    rw [dc_keys c p F]
    congr 2
    by_cases e : r.1 = c
    · rw [if_pos e]; exact e.symm
    · rw [if_neg e]
theorem dc_put (F : List Rule) (c : Nat) (p : List Nat) : kput (dcK F) (dcX F) [c] (.str p) = (dcK (putF F c p), dcX (putF F c p)) := by
  unfold kput putF
  rw [dc_has]
  by_cases h : (F.map (·.1)).contains c = true
  · rw [if_pos h, if_pos h, dc_keys, dc_zip]
  · rw [if_neg h, if_neg h]
    show (dcK F ++ [[c]], dcX F ++ [D.str p]) = (List.map _ (F ++ [(c, p)]), List.map _ (F ++ [(c, p)]))
    rw [List.map_append, List.map_append]; rfl
theorem putF_keys (F : List Rule) (c : Nat) (p : List Nat) (h : (F.map (·.1)).Nodup) : ((putF F c p).map (·.1)).Nodup := by
  unfold putF
  by_cases q : (F.map (·.1)).contains c = true
  · rw [if_pos q]
    have : (F.map (fun r => if r.1 = c then (c, p) else r)).map (·.1) = F.map (·.1) := by
      rw [List.map_map]
      refine List.map_congr_left fun r hr => ?_
      show (if r.1 = c then (c, p) else r).1 = r.1
      by_cases e : r.1 = c
      · rw [if_pos e]; exact e.symm
      · rw [if_neg e]
    rw [this]; exact h
  · rw [if_neg q, List.map_append]
    refine List.nodup_append.mpr ⟨h, by simp, fun a ha b hb e => ?_⟩
    simp at hb
    subst hb
    subst e
    exact q (List.contains_iff_mem.mpr ha)
theorem putF_len (F : List Rule) (c : Nat) (p : List Nat) : (putF F c p).length ≤ F.length + 1 := by
  unfold putF
  split
  · rw [List.length_map]; omega
  · rw [List.length_append]; exact Nat.le_refl _
theorem putF_ok {F : List Rule} {c : Nat} {p : List Nat} (h : ∀ r ∈ F, RuleOk r) (hr : RuleOk (c, p)) : ∀ r ∈ putF F c p, RuleOk r := by
  unfold putF
  split
  · intro r hm
    obtain ⟨q, hq, e⟩ := List.mem_map.mp hm
    by_cases z : q.1 = c
    · rw [if_pos z] at e; rw [← e]; exact hr
    · rw [if_neg z] at e; rw [← e]; exact h q hq
  · intro r hm
    rcases List.mem_append.mp hm with q | q
    · exact h r q
    · rw [List.mem_singleton.mp q]; exact hr
theorem insL_map {α β : Type} (f : α → β) (le : β → β → Bool) (x : α) : ∀ l : List α, insL le (f x) (l.map f) = (insL (fun a b => le (f a) (f b)) x l).map f
  | [] => rfl
  | y :: l => by
    show (if le (f x) (f y) = true then f x :: f y :: l.map f else f y :: insL le (f x) (l.map f)) = (if le (f x) (f y) = true then x :: y :: l else y :: insL _ x l).map f
    split
    · rfl
    · rw [insL_map f le x l]; rfl
theorem isortL_map {α β : Type} (f : α → β) (le : β → β → Bool) : ∀ l : List α, isortL le (l.map f) = (isortL (fun a b => le (f a) (f b)) l).map f
  | [] => rfl
  | x :: l => by
    show insL le (f x) (isortL le (l.map f)) = (insL _ x (isortL _ l)).map f
    rw [isortL_map f le l, insL_map]
theorem leT_one (a b : Nat) : leT [a] [b] = decide (a ≤ b) := by
  unfold leT
  have : ([b] < [a]) ↔ b < a := by
    constructor
    · intro h
      rcases Nat.lt_or_ge b a with q | q
      · exact q
      · exfalso
        cases h with
        | cons h => exact absurd h (by simp)
        | rel h => omega
    · intro h; exact List.Lex.rel h
  by_cases h : b < a
  · rw [decide_eq_true (this.mpr h), decide_eq_false (by omega)]; rfl
  · rw [decide_eq_false (fun q => h (this.mp q)), decide_eq_true (by omega)]; rfl
/-- the rules, sorted -/
def sortR (F : List Rule) : List Rule := isortL (fun a b => decide (a.1 ≤ b.1)) F
theorem sortR_perm (F : List Rule) : (sortR F).Perm F := isortL_perm _ F
theorem sortR_up (F : List Rule) (h : (F.map (·.1)).Nodup) : (sortR F).Pairwise fun a b => a.1 < b.1 := by
  have h1 : (sortR F).Pairwise fun a b => decide (a.1 ≤ b.1) = true := isortL_pw (le := fun a b : Rule => decide (a.1 ≤ b.1)) (fun a b q => by simp at *; omega) (fun a b c q r => by simp at *; omega) F
  have h2 : ((sortR F).map (·.1)).Nodup := ((sortR_perm F).map (·.1)).nodup_iff.mpr h
  have h3 : (sortR F).Pairwise fun a b => a.1 ≠ b.1 := List.pairwise_map.mp h2
  exact h1.imp₂ (fun a b q r => by simp at q; omega) h3
theorem pairsF (F : List Rule) : pairsD (dcK F) (dcX F) = F.map ruD := by
  unfold pairsD dcK dcX
  induction F with
  | nil => rfl
  | cons r F ih => rw [List.map_cons, List.map_cons, List.zipWith_cons_cons, ih]; rfl
theorem strs_ru (r : Rule) (F : List Rule) : strs? ((r :: F).map ruD) = none := rfl
theorem sorted_ru (F : List Rule) (h : (F.map (·.1)).Nodup) : sortedD (.lst (F.map ruD)) = some (.new (.lst ((sortR F).map ruD))) := by
  have e1 : isortL leK (F.map ruD) = (sortR F).map ruD := by
    rw [isortL_map]
    have : (fun a b : Rule => leK (ruD a) (ruD b)) = fun a b => decide (a.1 ≤ b.1) := funext fun a => funext fun b => leT_one a.1 b.1
    rw [this]; rfl
  cases F with
  | nil => rfl
  | cons r F =>
    show (match strs? ((r :: F).map ruD) with
      | some xs => if xs.length < 64 then some (Hd.new (.lst ((isortL leT xs).map .str))) else none
      | none => if (((r :: F).map ruD).all fun d => (fstD d).isSome) = true ∧ (((r :: F).map ruD).map keyD).Nodup then some (.new (.lst (isortL leK ((r :: F).map ruD)))) else none) = _
    rw [strs_ru]
    show (if (((r :: F).map ruD).all fun d => (fstD d).isSome) = true ∧ (((r :: F).map ruD).map keyD).Nodup then some (Hd.new (.lst (isortL leK ((r :: F).map ruD)))) else none) = _
    have h1 : (((r :: F).map ruD).all fun d => (fstD d).isSome) = true := List.all_eq_true.mpr fun d hd => by
      obtain ⟨q, _, e⟩ := List.mem_map.mp hd
      rw [← e]; rfl
    have h2 : (((r :: F).map ruD).map keyD).Nodup := by
      rw [List.map_map]
      have : keyD ∘ ruD = fun r : Rule => [r.1] := rfl
      rw [this]
      have h3 : (r :: F).Pairwise fun a b => a.1 ≠ b.1 := List.pairwise_map.mp h
      exact List.pairwise_map.mpr (h3.imp fun h e => h (List.cons.inj e).1)
    rw [if_pos ⟨h1, h2⟩, e1]
end G

/-! ## Q_notx -/
set_option Elab.async false
set_option linter.all false
set_option maxRecDepth 100000
set_option maxHeartbeats 400000
namespace G
open PySem L2 Vi
def abN (m : Nat) : List Nat := (List.replicate m [97, 98]).flatten ++ [99]
def TX (m j : Nat) : List D := [.non, .int 5, .lst [.str [97]], .tup [.str [97]], .dic [] [], .bl true, .str [65], .str [97, 32, 98], .str [97, 49], .str (List.replicate (m + 1) 97), .str (List.replicate (m + 1 + j) 122), .str [97, 45], .str [10], .str (abN m)]
theorem aPlus_lN {s t : List D} (h : s.length + t.length ≤ 1000) : aPlus (.lst s) (.lst t) = some (.new (.lst (s ++ t))) := by
  show Option.or none (Option.or none (if s.length + t.length ≤ SLine then some (Hd.new (.lst (s ++ t))) else none)) = _
  rw [if_pos (sl_of h)]; rfl
theorem no_texts (far : Int) (m j : Nat) (hj : j < 9) (hm : m = 30 ∨ m = 4 ∨ m = 60) (h : far % 9 = (j : Int)) : F__law_no_texts [.int far, .int (m : Int)] = .ret (.own (.lst (TX m j))) := by
  have m1 : aMod (.int far) (.int 9) = some (.val (.int (j : Int))) := by rw [aMod_i (by omega), h]
  have r1 : aTimes (.str [97]) (.int ((m : Int) + 1)) = some (.val (.str (List.replicate (m + 1) 97))) := by rcases hm with e | e | e <;> subst e <;> kernel_rfl
  have r3 : aTimes (.str [97, 98]) (.int (m : Int)) = some (.val (.str ((List.replicate m [97, 98]).flatten))) := by rcases hm with e | e | e <;> subst e <;> kernel_rfl
  have r2 : aTimes (.str [122]) (.int ((m : Int) + 1 + (j : Int))) = some (.val (.str (List.replicate (m + 1 + j) 122))) := by
    match j, hj with
    | 0, _ => rcases hm with e | e | e <;> subst e <;> kernel_rfl
    | 1, _ => rcases hm with e | e | e <;> subst e <;> kernel_rfl
    | 2, _ => rcases hm with e | e | e <;> subst e <;> kernel_rfl
    | 3, _ => rcases hm with e | e | e <;> subst e <;> kernel_rfl
    | 4, _ => rcases hm with e | e | e <;> subst e <;> kernel_rfl
    | 5, _ => rcases hm with e | e | e <;> subst e <;> kernel_rfl
    | 6, _ => rcases hm with e | e | e <;> subst e <;> kernel_rfl
    | 7, _ => rcases hm with e | e | e <;> subst e <;> kernel_rfl
    | 8, _ => rcases hm with e | e | e <;> subst e <;> kernel_rfl
    | n + 9, h => exact absurd h (by omega)
  have r4 : ((List.replicate m [97, 98]).flatten).length ≤ 200 := by rcases hm with e | e | e <;> subst e <;> decide
  have s11 : 11 ≤ SLine := sl_of (by decide)
  have s3 : 3 ≤ SLine := sl_of (by decide)
  have s1 : 1 ≤ SLine := sl_of (by decide)
  have s14 : 14 ≤ SLine := sl_of (by decide)
  have r5 : aPlus (.str (List.replicate m [97, 98]).flatten) (.str [99]) = some (.val (.str ((List.replicate m [97, 98]).flatten ++ [99]))) := by rcases hm with e | e | e <;> subst e <;> kernel_rfl
  unfold F__law_no_texts B__law_no_texts
  simp [runF_eq, startS, paramS, List.replicate, aPlus_lN, m1, r1, r2, r3, r5, s11, s3, s1, s14, TX, abN]
end G

/-! ## Q_k10a -/
set_option Elab.async false
set_option linter.all false
set_option maxRecDepth 100000
set_option maxHeartbeats 400000
namespace G
open PySem L2 Vi
def cst (xs : List D) : M (List D × Option Nat) := fun ρ => .ok (xs, none) ρ
def vlu (i : Int) (ρ : List S) : R Hd := .ok (.val (.int i)) ρ
def stOf {α : Type} : R α → List S | .exc _ ρ => ρ | .ok _ ρ => ρ | .bad => []
def prb : M Hd := fun ρ => .exc 0 ρ
def lstR : Out → List D | .ret (.own (.lst l)) => l | _ => []
def x5 : M Hd := (eOp aMod (eVar 0) (eC (.int 5)))
def RB (x : M Hd) : M Fl :=
  (sSeq (sSet 2 (eLst (dCons (eC .non) (dCons (eC (.int 5)) (dCons (eC (.str [97])) (dCons (eTup dNil) (dCons (eTup (dCons (eTup (dCons (eC (.str [97])) (dCons (eC (.str [98])) dNil))) dNil)) (dCons eDNew (dCons (eLst (dCons (eC .non) dNil)) (dCons (eLst (dCons (eTup dNil) dNil)) (dCons (eLst (dCons (eTup (dCons (eC (.str [97])) dNil)) dNil)) (dCons (eLst (dCons (eTup (dCons (eC (.str [97])) (dCons (eC (.str [98])) (dCons (eC (.str [99])) dNil)))) dNil)) (dCons (eLst (dCons (eLst (dCons (eC (.str [97])) (dCons (eC (.str [98])) dNil))) dNil)) (dCons (eLst (dCons (eTup (dCons (eC (.str [])) (dCons (eC (.str [98])) dNil))) dNil)) dNil))))))))))))))
  (sSeq (sSet 2 (eOp aPlus (eVar 2) (eLst (dCons (eLst (dCons (eTup (dCons (eC (.str [97, 98])) (dCons (eC (.str [99])) dNil))) dNil)) (dCons (eLst (dCons (eTup (dCons (eC (.str [65])) (dCons (eC (.str [98])) dNil))) dNil)) (dCons (eLst (dCons (eTup (dCons (eC (.str [97])) (dCons (eC (.str [98, 98, 98, 98])) dNil))) dNil)) (dCons (eLst (dCons (eTup (dCons (eC (.str [97])) (dCons (eC .non) dNil))) dNil)) (dCons (eLst (dCons (eTup (dCons (eC (.str [97])) (dCons (eC (.str [66])) dNil))) dNil)) (dCons (eLst (dCons (eTup (dCons (eC (.int 1)) (dCons (eC (.str [97])) dNil))) dNil)) (dCons (eLst (dCons (eTup (dCons (eC (.str [97])) (dCons (eC (.int 1)) dNil))) dNil)) dNil))))))))))
  (sSeq (sSet 2 (eOp aPlus (eVar 2) (eLst (dCons (eLst (dCons (eTup (dCons (eC (.str [98])) (dCons (eC (.str [97])) dNil))) (dCons (eTup (dCons (eC (.str [97])) (dCons (eC (.str [98])) dNil))) dNil))) (dCons (eLst (dCons (eTup (dCons (eC (.str [97])) (dCons (eC (.str [98])) dNil))) (dCons (eTup (dCons (eC (.str [97])) (dCons (eC (.str [99])) dNil))) dNil))) (dCons (eLc (itAny (eC (.str [97, 98, 99, 100, 101]))) (gN 5) tYesM (eTup (dCons (eVar 5) (dCons (eC (.str [])) dNil))) [5]) dNil))))))
  (sSeq (sFor (itAny (eOp aPlus (eVar 2) (eLst (dCons (eLst (dCons (eTup (dCons (eC (.str [97])) (dCons (eOp aTimes (eC (.str [122])) (eOp aPlus (eC (.int 4)) x)) dNil))) dNil)) dNil)))) (gN 3)
    (sSeq (sFor (itAny (eTup (dCons (eC (.cls 13)) (dCons (eC (.cls 14)) dNil)))) (gN 4)
      (sIf (eTest (eOp cNe (eKinds 1 15 "_law_rules_right.<locals>.<lambda>" kHd KS__law_kinds (eCallL 4 2 (lkL [(13, F_gone_round), (14, F_judged)]) (eCons (eC (.str [97, 98])) (eCons (eVar 3) eNil)))) (eCall 1 F__law_due_of (eCons (eC (.int 5)) eNil))))
        (sRetR (eC (.bl false)))
        sNx))
    (sSeq (sIf (eTest (eOp cNe (eKinds 1 15 "_law_rules_right.<locals>.<lambda>" kHd KS__law_kinds (eCall 1 F_vanishing (eCons (eVar 3) eNil))) (eCall 1 F__law_due_of (eCons (eC (.int 5)) eNil))))
      (sRetR (eC (.bl false)))
      sNx)
    (sSeq (sIf (eTest (eOp cNe (eKinds 1 15 "_law_rules_right.<locals>.<lambda>" kHd KS__law_kinds (eCall 3 F_long_behind (eCons (eC (.str [97, 98])) (eCons (eVar 3) (eCons (eC .non) eNil))))) (eCall 1 F__law_due_of (eCons (eC (.int 5)) eNil))))
      (sRetR (eC (.bl false)))
      sNx)
    (sIf (eTest (eOp cNe (eKinds 1 15 "_law_rules_right.<locals>.<lambda>" kHd KS__law_kinds (eCall 4 F_letter_at (eCons (eC (.str [97, 98])) (eCons (eVar 3) (eCons (eC .non) (eCons (eC .non) eNil)))))) (eCall 1 F__law_due_of (eCons (eC (.int 5)) eNil))))
      (sRetR (eC (.bl false)))
      sNx)))))
  (sRetR (eC (.bl true)))))))
theorem rb_eq : B__law_rules_right = RB x5 := rfl
def q0 (far : Int) : List S := startT 6 [false] tsL [.int far]
def rA1 : M Fl := (sSet 2 (eLst (dCons (eC .non) (dCons (eC (.int 5)) (dCons (eC (.str [97])) (dCons (eTup dNil) (dCons (eTup (dCons (eTup (dCons (eC (.str [97])) (dCons (eC (.str [98])) dNil))) dNil)) (dCons eDNew (dCons (eLst (dCons (eC .non) dNil)) (dCons (eLst (dCons (eTup dNil) dNil)) (dCons (eLst (dCons (eTup (dCons (eC (.str [97])) dNil)) dNil)) (dCons (eLst (dCons (eTup (dCons (eC (.str [97])) (dCons (eC (.str [98])) (dCons (eC (.str [99])) dNil)))) dNil)) (dCons (eLst (dCons (eLst (dCons (eC (.str [97])) (dCons (eC (.str [98])) dNil))) dNil)) (dCons (eLst (dCons (eTup (dCons (eC (.str [])) (dCons (eC (.str [98])) dNil))) dNil)) dNil))))))))))))))
def rA2 : M Fl := (sSet 2 (eOp aPlus (eVar 2) (eLst (dCons (eLst (dCons (eTup (dCons (eC (.str [97, 98])) (dCons (eC (.str [99])) dNil))) dNil)) (dCons (eLst (dCons (eTup (dCons (eC (.str [65])) (dCons (eC (.str [98])) dNil))) dNil)) (dCons (eLst (dCons (eTup (dCons (eC (.str [97])) (dCons (eC (.str [98, 98, 98, 98])) dNil))) dNil)) (dCons (eLst (dCons (eTup (dCons (eC (.str [97])) (dCons (eC .non) dNil))) dNil)) (dCons (eLst (dCons (eTup (dCons (eC (.str [97])) (dCons (eC (.str [66])) dNil))) dNil)) (dCons (eLst (dCons (eTup (dCons (eC (.int 1)) (dCons (eC (.str [97])) dNil))) dNil)) (dCons (eLst (dCons (eTup (dCons (eC (.str [97])) (dCons (eC (.int 1)) dNil))) dNil)) dNil))))))))))
def rA3 : M Fl := (sSet 2 (eOp aPlus (eVar 2) (eLst (dCons (eLst (dCons (eTup (dCons (eC (.str [98])) (dCons (eC (.str [97])) dNil))) (dCons (eTup (dCons (eC (.str [97])) (dCons (eC (.str [98])) dNil))) dNil))) (dCons (eLst (dCons (eTup (dCons (eC (.str [97])) (dCons (eC (.str [98])) dNil))) (dCons (eTup (dCons (eC (.str [97])) (dCons (eC (.str [99])) dNil))) dNil))) (dCons (eLc (itAny (eC (.str [97, 98, 99, 100, 101]))) (gN 5) tYesM (eTup (dCons (eVar 5) (dCons (eC (.str [])) dNil))) [5]) dNil))))))
def rIt (x : M Hd) : M (List D × Option Nat) := (itAny (eOp aPlus (eVar 2) (eLst (dCons (eLst (dCons (eTup (dCons (eC (.str [97])) (dCons (eOp aTimes (eC (.str [122])) (eOp aPlus (eC (.int 4)) x)) dNil))) dNil)) dNil))))
def rBd : M Fl := (sSeq (sFor (itAny (eTup (dCons (eC (.cls 13)) (dCons (eC (.cls 14)) dNil)))) (gN 4)
      (sIf (eTest (eOp cNe (eKinds 1 15 "_law_rules_right.<locals>.<lambda>" kHd KS__law_kinds (eCallL 4 2 (lkL [(13, F_gone_round), (14, F_judged)]) (eCons (eC (.str [97, 98])) (eCons (eVar 3) eNil)))) (eCall 1 F__law_due_of (eCons (eC (.int 5)) eNil))))
        (sRetR (eC (.bl false)))
        sNx))
    (sSeq (sIf (eTest (eOp cNe (eKinds 1 15 "_law_rules_right.<locals>.<lambda>" kHd KS__law_kinds (eCall 1 F_vanishing (eCons (eVar 3) eNil))) (eCall 1 F__law_due_of (eCons (eC (.int 5)) eNil))))
      (sRetR (eC (.bl false)))
      sNx)
    (sSeq (sIf (eTest (eOp cNe (eKinds 1 15 "_law_rules_right.<locals>.<lambda>" kHd KS__law_kinds (eCall 3 F_long_behind (eCons (eC (.str [97, 98])) (eCons (eVar 3) (eCons (eC .non) eNil))))) (eCall 1 F__law_due_of (eCons (eC (.int 5)) eNil))))
      (sRetR (eC (.bl false)))
      sNx)
    (sIf (eTest (eOp cNe (eKinds 1 15 "_law_rules_right.<locals>.<lambda>" kHd KS__law_kinds (eCall 4 F_letter_at (eCons (eC (.str [97, 98])) (eCons (eVar 3) (eCons (eC .non) (eCons (eC .non) eNil)))))) (eCall 1 F__law_due_of (eCons (eC (.int 5)) eNil))))
      (sRetR (eC (.bl false)))
      sNx))))
def rEn : M Fl := (sRetR (eC (.bl true)))
theorem RB_is (x : M Hd) : RB x = sSeq rA1 (sSeq rA2 (sSeq rA3 (sSeq (sFor (rIt x) (gN 3) rBd) rEn))) := (rfl)
def isNx : R Fl → Bool
  | .ok .nx _ => true
  | _ => false
theorem nx_st {r : R Fl} (h : isNx r = true) : r = .ok .nx (stOf r) := by
  cases r with
  | bad => cases h
  | exc k ρ => cases h
  | ok a ρ => cases a <;> first | rfl | cases h
def ownD : S → D
  | .own d => d
  | _ => .non
def rP1 (far : Int) : List S := stOf (rA1 (q0 far))
def rP2 (far : Int) : List S := stOf (rA2 (rP1 far))
def q1 (far : Int) : List S := stOf (rA3 (rP2 far))
theorem pa1 (far : Int) : rA1 (q0 far) = .ok .nx (rP1 far) := nx_st (by kernel_rfl)
theorem pa2 (far : Int) : rA2 (rP1 far) = .ok .nx (rP2 far) := nx_st (by kernel_rfl)
theorem pa3 (far : Int) : rA3 (rP2 far) = .ok .nx (q1 far) := nx_st (by kernel_rfl)
theorem rr_it (x : M Hd) (s0 s1 s3 s4 s5 : S) (d : D) : rIt x [s0, s1, .own d, s3, s4, s5] = rIt (fun _ => x [s0, s1, .own d, s3, s4, s5]) [s0, s1, .own d, s3, s4, s5] := by kernel_rfl
def listS : List S → Bool
  | [_, _, .own _, _, _, _] => true
  | _ => false
theorem rr_it2 (x : M Hd) {ρ : List S} (h : listS ρ = true) : rIt x ρ = rIt (fun _ => x ρ) ρ := by
  unfold listS at h
  split at h
  · exact rr_it x _ _ _ _ _ _
  · cases h
theorem rr_seq {f g : M Fl} {ρ ρ1 : List S} (h : f ρ = .ok .nx ρ1) : sSeq f g ρ = g ρ1 := by
  rw [sSeq_r, h]; rfl
theorem rr_open (x : M Hd) (far : Int) : endT [false] tsL (RB x (q0 far)) = endT [false] tsL (RB (fun _ => x (q1 far)) (q0 far)) := by
  have e : sFor (rIt x) (gN 3) rBd (q1 far) = sFor (rIt fun _ => x (q1 far)) (gN 3) rBd (q1 far) := by
    unfold sFor
    rw [M.bind_run, M.bind_run, rr_it2 x (show listS (q1 far) = true by kernel_rfl)]
  have f : ∀ y : M Hd, RB y (q0 far) = sSeq (sFor (rIt y) (gN 3) rBd) rEn (q1 far) := fun y => by
    rw [RB_is y, rr_seq (pa1 far), rr_seq (pa2 far), rr_seq (pa3 far)]
  have g : sSeq (sFor (rIt x) (gN 3) rBd) rEn (q1 far) = sSeq (sFor (rIt fun _ => x (q1 far)) (gN 3) rBd) rEn (q1 far) := by
    unfold sSeq
    rw [M.bind_run, M.bind_run, e]
  rw [f x, g]
  exact congrArg (endT [false] tsL) (f (fun _ => x (q1 far))).symm
theorem rr_at (far : Int) : at_ (q1 far) 0 = .fr (.int far) := by kernel_rfl
theorem rr0 (far : Int) : endT [false] tsL (RB (fun _ => vlu 0 (q1 far)) (q0 far)) = .ret (.bl true) [.non] := by kernel_rfl
theorem rr1 (far : Int) : endT [false] tsL (RB (fun _ => vlu 1 (q1 far)) (q0 far)) = .ret (.bl true) [.non] := by kernel_rfl
theorem rr2 (far : Int) : endT [false] tsL (RB (fun _ => vlu 2 (q1 far)) (q0 far)) = .ret (.bl true) [.non] := by kernel_rfl
theorem rr3 (far : Int) : endT [false] tsL (RB (fun _ => vlu 3 (q1 far)) (q0 far)) = .ret (.bl true) [.non] := by kernel_rfl
theorem rr4 (far : Int) : endT [false] tsL (RB (fun _ => vlu 4 (q1 far)) (q0 far)) = .ret (.bl true) [.non] := by kernel_rfl
theorem rules_right (far : Int) : F__law_rules_right [.int far] = .ret (.bl true) [.non] := by
  have e : F__law_rules_right [.int far] = endT [false] tsL (B__law_rules_right (q0 far)) := rfl
  rw [e, rb_eq, rr_open]
  obtain ⟨j, h, hj⟩ : ∃ j : Nat, far % 5 = (j : Int) ∧ j < 5 := ⟨(far % 5).toNat, by have := Int.emod_nonneg far (b := 5) (by omega); omega, by have := Int.emod_lt_of_pos far (b := 5) (by omega); have := Int.emod_nonneg far (b := 5) (by omega); omega⟩
  have x : x5 (q1 far) = vlu (j : Int) (q1 far) := by
    have m1 : aMod (.int far) (.int 5) = some (.val (.int (j : Int))) := by rw [aMod_i (by omega), h]
    simp [x5, rr_at, m1, vlu]
  rw [x]
  match j, hj with
  | 0, _ => exact rr0 far
  | 1, _ => exact rr1 far
  | 2, _ => exact rr2 far
  | 3, _ => exact rr3 far
  | 4, _ => exact rr4 far
  | j + 5, h => exact absurd h (by omega)
end G

/-! ## Q_k10b -/
set_option Elab.async false
set_option linter.all false
set_option maxRecDepth 100000
set_option maxHeartbeats 400000
namespace G
open PySem L2 Vi
def itA : M (List D × Option Nat) := (itAny (eCall 2 F__law_no_texts (eCons (eVar 0) (eCons (eC (.int 30)) eNil))))
def bdA : M Fl :=
    (sSeq (sFor (itAny (eTup (dCons (eC (.cls 13)) (dCons (eC (.cls 14)) dNil)))) (gN 3)
      (sIf (eTest (eOp cNe (eKinds 1 16 "_law_right.<locals>.<lambda>" kHd KS__law_kinds (eCallL 3 2 (lkL [(13, F_gone_round), (14, F_judged)]) (eCons (eVar 2) (eCons (eC .non) eNil)))) (eCall 1 F__law_due_of (eCons (eC (.int 0)) eNil))))
        (sRetR (eC (.bl false)))
        sNx))
    (sSeq (sIf (eTest (eOp cNe (eKinds 1 16 "_law_right.<locals>.<lambda>" kHd KS__law_kinds (eCall 3 F_long_behind (eCons (eVar 2) (eCons (eC .non) (eCons (eC .non) eNil))))) (eCall 1 F__law_due_of (eCons (eC (.int 0)) eNil))))
      (sRetR (eC (.bl false)))
      sNx)
    (sIf (eTest (eOp cNe (eKinds 1 16 "_law_right.<locals>.<lambda>" kHd KS__law_kinds (eCall 4 F_letter_at (eCons (eVar 2) (eCons (eC .non) (eCons (eC .non) (eCons (eC .non) eNil)))))) (eCall 1 F__law_due_of (eCons (eC (.int 0)) eNil))))
      (sRetR (eC (.bl false)))
      sNx)))
def itB : M (List D × Option Nat) := (itAny (eOp aPlus (eCall 1 F__law_strange (eCons (eVar 0) eNil)) (eLst (dCons (eC (.int 41)) (dCons (eOp aPlus (eC (.int 40)) (eVar 0)) dNil)))))
def bdB : M Fl :=
    (sSeq (sIf (eTest (eOp cNe (eKinds 1 16 "_law_right.<locals>.<lambda>" kHd KS__law_kinds (eCall 3 F_long_behind (eCons (eC (.str [97])) (eCons (eLst dNil) (eCons (eVar 2) eNil))))) (eCall 1 F__law_due_of (eCons (eC (.int 6)) eNil))))
      (sRetR (eC (.bl false)))
      sNx)
    (sIf (eTest (eOp cNe (eKinds 1 16 "_law_right.<locals>.<lambda>" kHd KS__law_kinds (eCall 4 F_letter_at (eCons (eC (.str [97])) (eCons (eLst dNil) (eCons (eVar 2) (eCons (eC .non) eNil)))))) (eCall 1 F__law_due_of (eCons (eC (.int 6)) eNil))))
      (sRetR (eC (.bl false)))
      sNx))
def itC : M (List D × Option Nat) := (itAny (eCall 1 F__law_strange (eCons (eVar 0) eNil)))
def bdC : M Fl :=
    (sIf (eTest (eOp cNe (eKinds 1 16 "_law_right.<locals>.<lambda>" kHd KS__law_kinds (eCall 4 F_letter_at (eCons (eC (.str [97])) (eCons (eLst dNil) (eCons (eC (.int 40)) (eCons (eVar 2) eNil)))))) (eCall 1 F__law_due_of (eCons (eC (.int 4)) eNil))))
      (sRetR (eC (.bl false)))
      sNx)
def RT (i1 i2 i3 : M (List D × Option Nat)) : M Fl := sSeq (sFor i1 (gN 2) bdA) (sSeq (sFor i2 (gN 2) bdB) (sSeq (sFor i3 (gN 2) bdC) (sRetR (eC (.bl true)))))
theorem rt_eq : B__law_right = RT itA itB itC := rfl
def sL (k : Nat) : List D := [.non, .str [49], .bl true, .bl false, .lst [.int 1], .tup [.int 1], .dic [] [], .int (-1), .int (.negSucc (k + 1))]
def sM (k : Nat) : List D := sL k ++ [.int 41, .int (.ofNat (k + 41))]
def p0 (far : Int) : List S := startT 4 [false] tsL [.int far]
def pA (far : Int) (l : List D) : List S := stOf (sFor (cst l) (gN 2) bdA (p0 far))
def pB (far : Int) (k : Nat) (l : List D) : List S := stOf (sFor (cst (sM k)) (gN 2) bdB (pA far l))
theorem sFor_it {it it' : M (List D × Option Nat)} {tg : D → M Unit} {b : M Fl} {ρ : List S} (h : it ρ = it' ρ) : sFor it tg b ρ = sFor it' tg b ρ := by
  unfold sFor; rw [M.bind_run, M.bind_run, h]
theorem sSeq_it {f f' g g' : M Fl} {ρ ρ1 : List S} (h : f ρ = f' ρ) (h1 : f' ρ = .ok .nx ρ1) (h2 : g ρ1 = g' ρ1) : sSeq f g ρ = sSeq f' g' ρ := by
  unfold sSeq; rw [M.bind_run, M.bind_run, h, h1]; exact h2
theorem ra0 (far : Int) : sFor (cst (TX 30 0)) (gN 2) bdA (p0 far) = .ok .nx (pA far (TX 30 0)) := by kernel_rfl
theorem rb0 (far : Int) (k : Nat) : sFor (cst (sM k)) (gN 2) bdB (pA far (TX 30 0)) = .ok .nx (pB far k (TX 30 0)) := by kernel_rfl
theorem rc0 (far : Int) (k : Nat) : endT [false] tsL (RT (cst (TX 30 0)) (cst (sM k)) (cst (sL k)) (p0 far)) = .ret (.bl true) [.non] := by kernel_rfl
theorem rd0 (far : Int) : at_ (pA far (TX 30 0)) 0 = .fr (.int far) := by kernel_rfl
theorem re0 (far : Int) (k : Nat) : at_ (pB far k (TX 30 0)) 0 = .fr (.int far) := by kernel_rfl
theorem ra1 (far : Int) : sFor (cst (TX 30 1)) (gN 2) bdA (p0 far) = .ok .nx (pA far (TX 30 1)) := by kernel_rfl
theorem rb1 (far : Int) (k : Nat) : sFor (cst (sM k)) (gN 2) bdB (pA far (TX 30 1)) = .ok .nx (pB far k (TX 30 1)) := by kernel_rfl
theorem rc1 (far : Int) (k : Nat) : endT [false] tsL (RT (cst (TX 30 1)) (cst (sM k)) (cst (sL k)) (p0 far)) = .ret (.bl true) [.non] := by kernel_rfl
theorem rd1 (far : Int) : at_ (pA far (TX 30 1)) 0 = .fr (.int far) := by kernel_rfl
theorem re1 (far : Int) (k : Nat) : at_ (pB far k (TX 30 1)) 0 = .fr (.int far) := by kernel_rfl
theorem ra2 (far : Int) : sFor (cst (TX 30 2)) (gN 2) bdA (p0 far) = .ok .nx (pA far (TX 30 2)) := by kernel_rfl
theorem rb2 (far : Int) (k : Nat) : sFor (cst (sM k)) (gN 2) bdB (pA far (TX 30 2)) = .ok .nx (pB far k (TX 30 2)) := by kernel_rfl
theorem rc2 (far : Int) (k : Nat) : endT [false] tsL (RT (cst (TX 30 2)) (cst (sM k)) (cst (sL k)) (p0 far)) = .ret (.bl true) [.non] := by kernel_rfl
theorem rd2 (far : Int) : at_ (pA far (TX 30 2)) 0 = .fr (.int far) := by kernel_rfl
theorem re2 (far : Int) (k : Nat) : at_ (pB far k (TX 30 2)) 0 = .fr (.int far) := by kernel_rfl
theorem ra3 (far : Int) : sFor (cst (TX 30 3)) (gN 2) bdA (p0 far) = .ok .nx (pA far (TX 30 3)) := by kernel_rfl
theorem rb3 (far : Int) (k : Nat) : sFor (cst (sM k)) (gN 2) bdB (pA far (TX 30 3)) = .ok .nx (pB far k (TX 30 3)) := by kernel_rfl
theorem rc3 (far : Int) (k : Nat) : endT [false] tsL (RT (cst (TX 30 3)) (cst (sM k)) (cst (sL k)) (p0 far)) = .ret (.bl true) [.non] := by kernel_rfl
theorem rd3 (far : Int) : at_ (pA far (TX 30 3)) 0 = .fr (.int far) := by kernel_rfl
theorem re3 (far : Int) (k : Nat) : at_ (pB far k (TX 30 3)) 0 = .fr (.int far) := by kernel_rfl
theorem ra4 (far : Int) : sFor (cst (TX 30 4)) (gN 2) bdA (p0 far) = .ok .nx (pA far (TX 30 4)) := by kernel_rfl
theorem rb4 (far : Int) (k : Nat) : sFor (cst (sM k)) (gN 2) bdB (pA far (TX 30 4)) = .ok .nx (pB far k (TX 30 4)) := by kernel_rfl
theorem rc4 (far : Int) (k : Nat) : endT [false] tsL (RT (cst (TX 30 4)) (cst (sM k)) (cst (sL k)) (p0 far)) = .ret (.bl true) [.non] := by kernel_rfl
theorem rd4 (far : Int) : at_ (pA far (TX 30 4)) 0 = .fr (.int far) := by kernel_rfl
theorem re4 (far : Int) (k : Nat) : at_ (pB far k (TX 30 4)) 0 = .fr (.int far) := by kernel_rfl
theorem ra5 (far : Int) : sFor (cst (TX 30 5)) (gN 2) bdA (p0 far) = .ok .nx (pA far (TX 30 5)) := by kernel_rfl
theorem rb5 (far : Int) (k : Nat) : sFor (cst (sM k)) (gN 2) bdB (pA far (TX 30 5)) = .ok .nx (pB far k (TX 30 5)) := by kernel_rfl
theorem rc5 (far : Int) (k : Nat) : endT [false] tsL (RT (cst (TX 30 5)) (cst (sM k)) (cst (sL k)) (p0 far)) = .ret (.bl true) [.non] := by kernel_rfl
theorem rd5 (far : Int) : at_ (pA far (TX 30 5)) 0 = .fr (.int far) := by kernel_rfl
theorem re5 (far : Int) (k : Nat) : at_ (pB far k (TX 30 5)) 0 = .fr (.int far) := by kernel_rfl
theorem ra6 (far : Int) : sFor (cst (TX 30 6)) (gN 2) bdA (p0 far) = .ok .nx (pA far (TX 30 6)) := by kernel_rfl
theorem rb6 (far : Int) (k : Nat) : sFor (cst (sM k)) (gN 2) bdB (pA far (TX 30 6)) = .ok .nx (pB far k (TX 30 6)) := by kernel_rfl
theorem rc6 (far : Int) (k : Nat) : endT [false] tsL (RT (cst (TX 30 6)) (cst (sM k)) (cst (sL k)) (p0 far)) = .ret (.bl true) [.non] := by kernel_rfl
theorem rd6 (far : Int) : at_ (pA far (TX 30 6)) 0 = .fr (.int far) := by kernel_rfl
theorem re6 (far : Int) (k : Nat) : at_ (pB far k (TX 30 6)) 0 = .fr (.int far) := by kernel_rfl
theorem ra7 (far : Int) : sFor (cst (TX 30 7)) (gN 2) bdA (p0 far) = .ok .nx (pA far (TX 30 7)) := by kernel_rfl
theorem rb7 (far : Int) (k : Nat) : sFor (cst (sM k)) (gN 2) bdB (pA far (TX 30 7)) = .ok .nx (pB far k (TX 30 7)) := by kernel_rfl
theorem rc7 (far : Int) (k : Nat) : endT [false] tsL (RT (cst (TX 30 7)) (cst (sM k)) (cst (sL k)) (p0 far)) = .ret (.bl true) [.non] := by kernel_rfl
theorem rd7 (far : Int) : at_ (pA far (TX 30 7)) 0 = .fr (.int far) := by kernel_rfl
theorem re7 (far : Int) (k : Nat) : at_ (pB far k (TX 30 7)) 0 = .fr (.int far) := by kernel_rfl
theorem ra8 (far : Int) : sFor (cst (TX 30 8)) (gN 2) bdA (p0 far) = .ok .nx (pA far (TX 30 8)) := by kernel_rfl
theorem rb8 (far : Int) (k : Nat) : sFor (cst (sM k)) (gN 2) bdB (pA far (TX 30 8)) = .ok .nx (pB far k (TX 30 8)) := by kernel_rfl
theorem rc8 (far : Int) (k : Nat) : endT [false] tsL (RT (cst (TX 30 8)) (cst (sM k)) (cst (sL k)) (p0 far)) = .ret (.bl true) [.non] := by kernel_rfl
theorem rd8 (far : Int) : at_ (pA far (TX 30 8)) 0 = .fr (.int far) := by kernel_rfl
theorem re8 (far : Int) (k : Nat) : at_ (pB far k (TX 30 8)) 0 = .fr (.int far) := by kernel_rfl
end G

/-! ## Q_k10c -/
set_option Elab.async false
set_option linter.all false
set_option maxRecDepth 100000
set_option maxHeartbeats 400000
namespace G
open PySem L2 Vi
theorem sSeq_l {f f' g : M Fl} {ρ : List S} (h : f ρ = f' ρ) : sSeq f g ρ = sSeq f' g ρ := by
  unfold sSeq; rw [M.bind_run, M.bind_run, h]
theorem strange (far : Int) : F__law_strange [.int far] = .ret (.own (.lst [.non, .str [49], .bl true, .bl false, .lst [.int 1], .tup [.int 1], .dic [] [], .int (-1), .int (-1 - far)])) := by kernel_rfl
theorem right_of (far : Int) (k j : Nat) (hf : far = (k : Int) + 1) (hj : j < 9) (h : far % 9 = (j : Int))
    (a : sFor (cst (TX 30 j)) (gN 2) bdA (p0 far) = .ok .nx (pA far (TX 30 j))) (b : sFor (cst (sM k)) (gN 2) bdB (pA far (TX 30 j)) = .ok .nx (pB far k (TX 30 j))) (c : endT [false] tsL (RT (cst (TX 30 j)) (cst (sM k)) (cst (sL k)) (p0 far)) = .ret (.bl true) [.non])
    (d : at_ (pA far (TX 30 j)) 0 = .fr (.int far)) (e : at_ (pB far k (TX 30 j)) 0 = .fr (.int far)) : F__law_right [.int far] = .ret (.bl true) [.non] := by
  have z : F__law_right [.int far] = endT [false] tsL (B__law_right (p0 far)) := rfl
  have n1 : F__law_no_texts [.int far, .int 30] = .ret (.own (.lst (TX 30 j))) := no_texts far 30 j hj (.inl rfl) h
  have s1 := strange far
  have e1 : -1 - far = Int.negSucc (k + 1) := by rw [Int.negSucc_eq]; omega
  have e2 : 40 + far = Int.ofNat (k + 41) := by show 40 + far = ((k + 41 : Nat) : Int); omega
  rw [e1] at s1
  have hp : at_ (p0 far) 0 = .fr (.int far) := rfl
  rw [z, rt_eq, ← c]
  refine congrArg _ (sSeq_it (sFor_it ?_) a (sSeq_it (sFor_it ?_) b (sSeq_l (sFor_it ?_))))
  · simp [itA, hp, n1, cst]
  · simp [itB, d, s1, cst, sM, sL, e2, aPlus_lN]
  · simp [itC, e, s1, cst, sL]

theorem right (far : Int) (hf : 1 ≤ far) : F__law_right [.int far] = .ret (.bl true) [.non] := by
  obtain ⟨k, hk⟩ : ∃ k : Nat, far = (k : Int) + 1 := ⟨(far - 1).toNat, by omega⟩
  obtain ⟨j, h, hj⟩ : ∃ j : Nat, far % 9 = (j : Int) ∧ j < 9 := ⟨(far % 9).toNat, by have := Int.emod_nonneg far (b := 9) (by omega); omega, by have := Int.emod_lt_of_pos far (b := 9) (by omega); have := Int.emod_nonneg far (b := 9) (by omega); omega⟩
  match j, hj, h with
  | 0, hj, h => exact right_of far k 0 hk hj h (ra0 far) (rb0 far k) (rc0 far k) (rd0 far) (re0 far k)
  | 1, hj, h => exact right_of far k 1 hk hj h (ra1 far) (rb1 far k) (rc1 far k) (rd1 far) (re1 far k)
  | 2, hj, h => exact right_of far k 2 hk hj h (ra2 far) (rb2 far k) (rc2 far k) (rd2 far) (re2 far k)
  | 3, hj, h => exact right_of far k 3 hk hj h (ra3 far) (rb3 far k) (rc3 far k) (rd3 far) (re3 far k)
  | 4, hj, h => exact right_of far k 4 hk hj h (ra4 far) (rb4 far k) (rc4 far k) (rd4 far) (re4 far k)
  | 5, hj, h => exact right_of far k 5 hk hj h (ra5 far) (rb5 far k) (rc5 far k) (rd5 far) (re5 far k)
  | 6, hj, h => exact right_of far k 6 hk hj h (ra6 far) (rb6 far k) (rc6 far k) (rd6 far) (re6 far k)
  | 7, hj, h => exact right_of far k 7 hk hj h (ra7 far) (rb7 far k) (rc7 far k) (rd7 far) (re7 far k)
  | 8, hj, h => exact right_of far k 8 hk hj h (ra8 far) (rb8 far k) (rc8 far k) (rd8 far) (re8 far k)
  | j + 9, hj, h => exact absurd hj (by omega)
end G

/-! ## Q_k10d -/
set_option Elab.async false
set_option linter.all false
set_option maxRecDepth 100000
set_option maxHeartbeats 400000
namespace G
open PySem L2 Vi
theorem callT1 {t : Nat} {ts : List (Nat × Str)} {φ : List D → OutR} {f : M (List Hd)} {ρ : List S} {d r : D} (h1 : at_ ρ t = .tab ts) (h2 : f ρ = .ok [.val d] ρ) (h3 : φ [d] = .ret r [.non]) : eCallT t ts [false] φ f ρ = .ok (.val r) ρ := by
  have e : callR [false] φ [.val d] ρ = .ok (.val r) ρ := by
    unfold callR
    rw [M.bind_run]
    show guardM true (argsD [none] [.val d] >>= fun ds => outR [none] (φ ds)) ρ = _
    show (argsD [none] [.val d] >>= fun ds => outR [none] (φ ds)) ρ = _
    rw [M.bind_run]
    show outR [none] (φ [d]) ρ = _
    rw [h3]; rfl
  unfold eCallT
  rw [M.bind_run, h2]
  refine (if_pos ?_).trans e
  rw [h1]; exact decide_eq_true rfl
theorem endT_rr (ts : List (Nat × Str)) (a : S) (d : D) (r : List S) : endT [false] ts (.ok (.rr (.fr d)) (a :: .tab ts :: r)) = .ret d [.non] := by
  show endRs (if ts = ts then some [D.non] else none) (OutR.ret d) = _
  rw [if_pos rfl]; rfl
def lawBody : M Fl :=
    (sSeq (sSet 3 (eOp aPlus (eC (.int 1)) (eOp aMod (eCall 2 F__law_value (eCons (eCall 2 F__law_cell_at (eCons (eVar 0) (eCons (eVar 2) eNil))) (eCons (eC (.int 7)) eNil))) (eOp aPow (eC (.int 10)) (eC (.int 20))))))
    (sIf (eOr (eNot (eTest (eCallT 1 tsL [false] F__law_rules_right (eCons (eVar 3) eNil)))) (eNot (eTest (eCallT 1 tsL [false] F__law_right (eCons (eVar 3) eNil)))))
      (sRetR (eC (.bl false)))
      sNx))
theorem law_eq : B_law = (sSeq (sSet 0 (eSl (eVar 0) oNone (oSome (eC (.int 63)))))
  (sSeq (sFor (itAny (eTup (dCons (eC (.int 0)) (dCons (eC (.int 3)) dNil)))) (gN 2) lawBody)
  (sSeq (sIf (eOr (eTest (eOp cNe (eCall 2 F_gone_round (eCons (eOp aTimes (eC (.str [97])) (eC (.int 30))) (eCons (eLst (dCons (eTup (dCons (eC (.str [97])) (dCons (eC (.str [122, 122, 122])) dNil))) dNil)) eNil))) (eOp aTimes (eC (.str [122])) (eC (.int 90))))) (eTest (eOp cNe (eCall 4 F_letter_at (eCons (eC (.str [97])) (eCons (eLst dNil) (eCons (eC (.int 40)) (eCons (eC (.int 0)) eNil))))) (eC (.str [97])))))
    (sRetR (eC (.bl false)))
    sNx)
  (sSeq (sIf (eTest (eOp cNe (eOp aIx (eCall 1 F_vanishing (eCons (eLst (dCons (eTup (dCons (eC (.str [97])) (dCons (eC (.str [])) dNil))) (dCons (eTup (dCons (eC (.str [98])) (dCons (eC (.str [97])) dNil))) (dCons (eTup (dCons (eC (.str [99])) (dCons (eC (.str [98])) dNil))) (dCons (eTup (dCons (eC (.str [122])) (dCons (eC (.str [99])) dNil))) dNil))))) eNil)) (eC (.int 3))) (eTup (dCons (eC (.str [122])) (dCons (eC (.int 4)) dNil)))))
    (sRetR (eC (.bl false)))
    sNx)
  (sRetR (eOp cIsN (eCall 4 F_letter_at (eCons (eC (.str [])) (eCons (eLst dNil) (eCons (eC (.int 0)) (eCons (eOp aPow (eC (.int 10)) (eC (.int 20))) eNil))))) (eC .non))))))) := rfl
theorem pow20 : aPow (.int 10) (.int 20) = some (.val (.int 100000000000000000000)) := by kernel_rfl
theorem law_turn (ns : List Int) (hc : Cells ns) (b : Nat) (x3 : S) : ∃ y3, lawBody [.own (.lst (ns.map .int)), .tab tsL, .fr (.int (b : Int)), x3] = .ok .nx [.own (.lst (ns.map .int)), .tab tsL, .fr (.int (b : Int)), y3] := by
  obtain ⟨z, e1, hz, bz⟩ := law_value (ns.getD b 0) 7 (Bd.mono (hc b) (by decide)) (by decide)
  have e1 : F__law_value [.int (ns.getD b 0), .int 7] = .ret (.fr (.int z)) := e1
  have c0 := cell_at ns b
  generalize ns.getD b 0 = c at c0 e1
  have m1 : aMod (.int z) (.int 100000000000000000000) = some (.val (.int (z % 100000000000000000000))) := aMod_i (by decide)
  have hf : 1 ≤ 1 + z % 100000000000000000000 := by have := Int.emod_nonneg z (b := 100000000000000000000) (by decide); omega
  have t1 : eCallT 1 tsL [false] F__law_rules_right (eCons (eVar 3) eNil) [.own (.lst (ns.map .int)), .tab tsL, .fr (.int (b : Int)), .fr (.int (1 + z % 100000000000000000000))] = .ok (.val (.bl true)) _ := callT1 (d := .int (1 + z % 100000000000000000000)) rfl (by simp) (rules_right _)
  have t2 : eCallT 1 tsL [false] F__law_right (eCons (eVar 3) eNil) [.own (.lst (ns.map .int)), .tab tsL, .fr (.int (b : Int)), .fr (.int (1 + z % 100000000000000000000))] = .ok (.val (.bl true)) _ := callT1 (d := .int (1 + z % 100000000000000000000)) rfl (by simp) (right _ hf)
  refine ⟨.fr (.int (1 + z % 100000000000000000000)), ?_⟩
  unfold lawBody
  simp [c0, e1, m1, pow20, t1, t2]
theorem lawTrue (ns : List Int) (h : ns.length ≤ 63) (hb : ∀ z ∈ ns, Builtin.Int.intBits z ≤ 1048576) : F_law [.scr ns] = .ret (.bl true) [.non] := by
  have hc := cell_bits hb
  have p := slD_scr ns h
  have w0 := law_turn ns hc 0
  have w3 := law_turn ns hc 3
  have e : F_law [.scr ns] = endT [false] tsL (B_law (startT 4 [false] tsL [.scr ns])) := rfl
  obtain ⟨y0, r0⟩ := w0 .un
  obtain ⟨y3, r3⟩ := w3 y0
  have r0 : lawBody [.own (.lst (ns.map .int)), .tab tsL, .fr (.int 0), .un] = .ok .nx [.own (.lst (ns.map .int)), .tab tsL, .fr (.int 0), y0] := r0
  have r3 : lawBody [.own (.lst (ns.map .int)), .tab tsL, .fr (.int 3), y0] = .ok .nx [.own (.lst (ns.map .int)), .tab tsL, .fr (.int 3), y3] := r3
  rw [e, law_eq]
  have st : startT 4 [false] tsL [.scr ns] = [.fr (.scr ns), .tab tsL, .un, .un] := rfl
  rw [st]
  have f1 : F_gone_round [.str (List.replicate 30 97), .lst [.tup [.str [97], .str [122, 122, 122]]]] = .ret (.fr (.str (List.replicate 90 122))) := by kernel_rfl
  have f2 : F_letter_at [.str [97], .lst [], .int 40, .int 0] = .ret (.fr (.str [97])) := by kernel_rfl
  have f3 : F_vanishing [.lst [.tup [.str [97], .str []], .tup [.str [98], .str [97]], .tup [.str [99], .str [98]], .tup [.str [122], .str [99]]]] = .ret (.own (.lst [.tup [.str [97], .int 1], .tup [.str [98], .int 2], .tup [.str [99], .int 3], .tup [.str [122], .int 4]])) := by kernel_rfl
  have f4 : F_letter_at [.str [], .lst [], .int 0, .int 100000000000000000000] = .ret (.fr .non) := by kernel_rfl
  have g1 : aTimes (.str [97]) (.int 30) = some (.val (.str (List.replicate 30 97))) := by kernel_rfl
  have g2 : aTimes (.str [122]) (.int 90) = some (.val (.str (List.replicate 90 122))) := by kernel_rfl
  generalize List.replicate 30 97 = s30 at f1 g1
  generalize hs90 : List.replicate 90 122 = s90 at f1 g2
  have n1 : cNe (.str s90) (.str s90) = some (.val (.bl false)) := by subst hs90; kernel_rfl
  have n2 : cNe (.str [97]) (.str [97]) = some (.val (.bl false)) := by kernel_rfl
  have n3 : cNe (.tup [.str [122], .int 4]) (.tup [.str [122], .int 4]) = some (.val (.bl false)) := by kernel_rfl
  have f5 : aIx (.lst [.tup [.str [97], .int 1], .tup [.str [98], .int 2], .tup [.str [99], .int 3], .tup [.str [122], .int 4]]) (.int 3) = some (.val (.tup [.str [122], .int 4])) := by kernel_rfl
  have n4 : cIsN .non .non = some (.val (.bl true)) := by kernel_rfl
  simp [sFor_r, loop_cons, loop_nil, p, r0, n4, r3, f1, f2, f3, f4, f5, g1, g2, n1, n2, n3, pow20, endT_rr, truD]
end G

/-! ## W10 -/
set_option Elab.async false
set_option linter.all false
set_option maxRecDepth 100000
set_option maxHeartbeats 400000
namespace G
open PySem L2 Vi
/-! ### the text by places -/
def top (i : Nat) : Stmt := PySem.Challenge.pw_replaceall_k10_refused_rounds.main.body.getD i (.Pass ⟨0, 0, 0, 0⟩)
abbrev st_is_whole : Stmt := top 13
def N_is_whole : List Str := ["thing"]
theorem sc_is_whole : FnScope N_is_whole ["thing"] (defScope st_is_whole) := ⟨rfl, rfl, rfl, by decide +kernel, rfl, by decide +kernel, by decide +kernel⟩
abbrev st_is_letters : Stmt := top 14
def N_is_letters : List Str := ["thing", "least", "most", "sign"]
theorem sc_is_letters : FnScope N_is_letters ["thing", "least", "most"] (defScope st_is_letters) := ⟨rfl, rfl, rfl, by decide +kernel, rfl, by decide +kernel, by decide +kernel⟩
abbrev st_check_text : Stmt := top 15
def N_check_text : List Str := ["text", "most"]
theorem sc_check_text : FnScope N_check_text ["text", "most"] (defScope st_check_text) := ⟨rfl, rfl, rfl, by decide +kernel, rfl, by decide +kernel, by decide +kernel⟩
abbrev st_is_rule : Stmt := top 19
def N_is_rule : List Str := ["thing"]
theorem sc_is_rule : FnScope N_is_rule ["thing"] (defScope st_is_rule) := ⟨rfl, rfl, rfl, by decide +kernel, rfl, by decide +kernel, by decide +kernel⟩
abbrev st_check_rules : Stmt := top 20
def N_check_rules : List Str := ["rules", "one", "other", "rule"]
theorem sc_check_rules : FnScope N_check_rules ["rules"] (defScope st_check_rules) := ⟨rfl, rfl, rfl, by decide +kernel, rfl, by decide +kernel, by decide +kernel⟩
abbrev st_round_of : Stmt := top 21
def N_round_of : List Str := ["text", "rules", "puts", "sign"]
theorem sc_round_of : FnScope N_round_of ["text", "rules"] (defScope st_round_of) := ⟨rfl, rfl, rfl, by decide +kernel, rfl, by decide +kernel, by decide +kernel⟩
abbrev st_vanishing_by : Stmt := top 22
def N_vanishing_by : List Str := ["rules", "found", "many", "more", "letter", "put", "one", "sign"]
theorem sc_vanishing_by : FnScope N_vanishing_by ["rules"] (defScope st_vanishing_by) := ⟨rfl, rfl, rfl, by decide +kernel, rfl, by decide +kernel, by decide +kernel⟩
abbrev st_lasts : Stmt := top 23
def N_lasts : List Str := ["rules", "text", "gone", "sign"]
theorem sc_lasts : FnScope N_lasts ["rules", "text"] (defScope st_lasts) := ⟨rfl, rfl, rfl, by decide +kernel, rfl, by decide +kernel, by decide +kernel⟩
abbrev st_reached : Stmt := top 24
def N_reached : List Str := ["text", "rules", "found", "more", "behind", "sign"]
theorem sc_reached : FnScope N_reached ["text", "rules"] (defScope st_reached) := ⟨rfl, rfl, rfl, by decide +kernel, rfl, by decide +kernel, by decide +kernel⟩
abbrev st_makes_more : Stmt := top 25
def N_makes_more : List Str := ["letter", "rules", "rounds", "text", "turn"]
theorem sc_makes_more : FnScope N_makes_more ["letter", "rules", "rounds"] (defScope st_makes_more) := ⟨rfl, rfl, rfl, by decide +kernel, rfl, by decide +kernel, by decide +kernel⟩
abbrev st_growing : Stmt := top 26
def N_growing : List Str := ["text", "rules", "letter", "rounds", "rule"]
theorem sc_growing : FnScope N_growing ["text", "rules"] (defScope st_growing) := ⟨rfl, rfl, rfl, by decide +kernel, rfl, by decide +kernel, by decide +kernel⟩
abbrev st_round_again : Stmt := top 27
def N_round_again : List Str := ["text", "rules", "met"]
theorem sc_round_again : FnScope N_round_again ["text", "rules"] (defScope st_round_again) := ⟨rfl, rfl, rfl, by decide +kernel, rfl, by decide +kernel, by decide +kernel⟩
abbrev st_gone_round : Stmt := top 33
def N_gone_round : List Str := ["text", "rules"]
theorem sc_gone_round : FnScope N_gone_round ["text", "rules"] (defScope st_gone_round) := ⟨rfl, rfl, rfl, by decide +kernel, rfl, by decide +kernel, by decide +kernel⟩
abbrev st_vanishing : Stmt := top 34
def N_vanishing : List Str := ["rules", "found", "letter"]
theorem sc_vanishing : FnScope N_vanishing ["rules"] (defScope st_vanishing) := ⟨rfl, rfl, rfl, by decide +kernel, rfl, by decide +kernel, by decide +kernel⟩
abbrev st_judged : Stmt := top 35
def N_judged : List Str := ["text", "rules", "found", "first", "many"]
theorem sc_judged : FnScope N_judged ["text", "rules"] (defScope st_judged) := ⟨rfl, rfl, rfl, by decide +kernel, rfl, by decide +kernel, by decide +kernel⟩
abbrev st_sizes_of : Stmt := top 38
def N_sizes_of : List Str := ["rules", "many", "puts", "found", "turn", "last", "letter", "sign"]
theorem sc_sizes_of : FnScope N_sizes_of ["rules", "many"] (defScope st_sizes_of) := ⟨rfl, rfl, rfl, by decide +kernel, rfl, by decide +kernel, by decide +kernel⟩
abbrev st_check_far : Stmt := top 39
def N_check_far : List Str := ["text", "rules", "many"]
theorem sc_check_far : FnScope N_check_far ["text", "rules", "many"] (defScope st_check_far) := ⟨rfl, rfl, rfl, by decide +kernel, rfl, by decide +kernel, by decide +kernel⟩
abbrev st_long_behind : Stmt := top 40
def N_long_behind : List Str := ["text", "rules", "many", "sizes", "sign"]
theorem sc_long_behind : FnScope N_long_behind ["text", "rules", "many"] (defScope st_long_behind) := ⟨rfl, rfl, rfl, by decide +kernel, rfl, by decide +kernel, by decide +kernel⟩
abbrev st_letter_at : Stmt := top 41
def N_letter_at : List Str := ["text", "rules", "many", "place", "puts", "sizes", "left", "turn", "found", "sign"]
theorem sc_letter_at : FnScope N_letter_at ["text", "rules", "many", "place"] (defScope st_letter_at) := ⟨rfl, rfl, rfl, by decide +kernel, rfl, by decide +kernel, by decide +kernel⟩
abbrev st__law_cell_at : Stmt := top 43
def N__law_cell_at : List Str := ["_law_script", "_law_k"]
theorem sc__law_cell_at : FnScope N__law_cell_at ["_law_script", "_law_k"] (defScope st__law_cell_at) := ⟨rfl, rfl, rfl, by decide +kernel, rfl, by decide +kernel, by decide +kernel⟩
abbrev st__law_draw : Stmt := top 44
def N__law_draw : List Str := ["_law_cell", "_law_k", "_law_many", "_law_primes"]
theorem sc__law_draw : FnScope N__law_draw ["_law_cell", "_law_k", "_law_many"] (defScope st__law_draw) := ⟨rfl, rfl, rfl, by decide +kernel, rfl, by decide +kernel, by decide +kernel⟩
abbrev st__law_value : Stmt := top 45
def N__law_value : List Str := ["_law_cell", "_law_turn", "_law_blend"]
theorem sc__law_value : FnScope N__law_value ["_law_cell", "_law_turn"] (defScope st__law_value) := ⟨rfl, rfl, rfl, by decide +kernel, rfl, by decide +kernel, by decide +kernel⟩
abbrev st__law_kinds : Stmt := top 46
def N__law_kinds : List Str := ["_law_ask", "_law_found", "error"]
theorem sc__law_kinds : FnScope N__law_kinds ["_law_ask"] (defScope st__law_kinds) := ⟨rfl, rfl, rfl, by decide +kernel, rfl, by decide +kernel, by decide +kernel⟩
abbrev st__law_due_of : Stmt := top 47
def N__law_due_of : List Str := ["_law_at", "_law_one"]
theorem sc__law_due_of : FnScope N__law_due_of ["_law_at"] (defScope st__law_due_of) := ⟨rfl, rfl, rfl, by decide +kernel, rfl, by decide +kernel, by decide +kernel⟩
abbrev st__law_strange : Stmt := top 48
def N__law_strange : List Str := ["_law_far"]
theorem sc__law_strange : FnScope N__law_strange ["_law_far"] (defScope st__law_strange) := ⟨rfl, rfl, rfl, by decide +kernel, rfl, by decide +kernel, by decide +kernel⟩
abbrev st__law_no_texts : Stmt := top 49
def N__law_no_texts : List Str := ["_law_far", "_law_most", "_law_bad"]
theorem sc__law_no_texts : FnScope N__law_no_texts ["_law_far", "_law_most"] (defScope st__law_no_texts) := ⟨rfl, rfl, rfl, by decide +kernel, rfl, by decide +kernel, by decide +kernel⟩
abbrev st__law_rules_right : Stmt := top 50
def N__law_rules_right : List Str := ["_law_far", "$t", "_law_bad", "_law_rules", "_law_ask", "_law_letter"]
theorem sc__law_rules_right : FnScope N__law_rules_right ["_law_far"] (defScope st__law_rules_right) := ⟨rfl, rfl, rfl, by decide +kernel, rfl, by decide +kernel, by decide +kernel⟩
abbrev st__law_right : Stmt := top 51
def N__law_right : List Str := ["_law_far", "$t", "_law_bad", "_law_ask"]
theorem sc__law_right : FnScope N__law_right ["_law_far"] (defScope st__law_right) := ⟨rfl, rfl, rfl, by decide +kernel, rfl, by decide +kernel, by decide +kernel⟩
abbrev st_law : Stmt := top 52
def N_law : List Str := ["_law_script", "$t", "_law_by", "_law_far"]
theorem sc_law : FnScope N_law ["_law_script"] (defScope st_law) := ⟨rfl, rfl, rfl, by decide +kernel, rfl, by decide +kernel, by decide +kernel⟩
abbrev st_Round_shows : Stmt := inClass (top 30) 1
def N_Round_shows : List Str := ["self", "text", "rules"]
theorem sc_Round_shows : FnScope N_Round_shows ["self", "text", "rules"] (defScope st_Round_shows) := ⟨rfl, rfl, rfl, by decide +kernel, rfl, by decide +kernel, by decide +kernel⟩
abbrev st_Grows_shows : Stmt := inClass (top 31) 1
def N_Grows_shows : List Str := ["self", "text", "rules"]
theorem sc_Grows_shows : FnScope N_Grows_shows ["self", "text", "rules"] (defScope st_Grows_shows) := ⟨rfl, rfl, rfl, by decide +kernel, rfl, by decide +kernel, by decide +kernel⟩
abbrev st_Round___init__ : Stmt := inClass (top 30) 0
theorem sc_Round___init__ : FnScope ["self", "first", "many"] ["self", "first", "many"] (defScope st_Round___init__) := ⟨rfl, rfl, rfl, by decide +kernel, rfl, by decide +kernel, by decide +kernel⟩
abbrev st_Grows___init__ : Stmt := inClass (top 31) 0
theorem sc_Grows___init__ : FnScope ["self", "letter", "rounds"] ["self", "letter", "rounds"] (defScope st_Grows___init__) := ⟨rfl, rfl, rfl, by decide +kernel, rfl, by decide +kernel, by decide +kernel⟩
/-! ### what the top has left -/
structure Txt (K : PySem.W.Frag) (mg : Str → Option Value) (cm : Nat → Addr) : Prop where
  b_BadMany : PySem.W.subIn K (.ref (cm 8)) (.type "BaseException") = some true
  b_BadPlace : PySem.W.subIn K (.ref (cm 6)) (.type "BaseException") = some true
  b_BadRules : PySem.W.subIn K (.ref (cm 7)) (.type "BaseException") = some true
  b_BadText : PySem.W.subIn K (.ref (cm 2)) (.type "BaseException") = some true
  b_ChangeError : PySem.W.subIn K (.ref (cm 1)) (.type "BaseException") = some true
  c_BadMany : mg "BadMany" = some (.ref (cm 8))
  c_BadPlace : mg "BadPlace" = some (.ref (cm 6))
  c_BadPut : mg "BadPut" = some (.ref (cm 4))
  c_BadRows : mg "BadRows" = some (.ref (cm 5))
  c_BadRules : mg "BadRules" = some (.ref (cm 7))
  c_BadText : mg "BadText" = some (.ref (cm 2))
  c_BadWord : mg "BadWord" = some (.ref (cm 3))
  c_ChangeError : mg "ChangeError" = some (.ref (cm 1))
  c_Grows : mg "Grows" = some (.ref (cm 12))
  c_Round : mg "Round" = some (.ref (cm 11))
  c_TooLong : mg "TooLong" = some (.ref (cm 9))
  d_gone_round : mg "gone_round" = some (.ref (cm 13))
  d_judged : mg "judged" = some (.ref (cm 14))
  excs : ∀ k ∈ exL, ExcC K (cm k)
  g_LETTERS : ∃ t, mg "LETTERS" = some (.str "abcdefghijklmnopqrstuvwxyz" t)
  g_LONGEST : ∃ t, mg "LONGEST" = some (.int (30) t)
  g_MOST_PUT : ∃ t, mg "MOST_PUT" = some (.int (3) t)
  g_MOST_ROUNDS : ∃ t, mg "MOST_ROUNDS" = some (.int (40) t)
  g_MOST_RULES : ∃ t, mg "MOST_RULES" = some (.int (4) t)
  k_BadMany : PySem.W.keepIn K (.ref (cm 8)) = true
  k_BadPlace : PySem.W.keepIn K (.ref (cm 6)) = true
  k_BadRules : PySem.W.keepIn K (.ref (cm 7)) = true
  k_BadText : PySem.W.keepIn K (.ref (cm 2)) = true
  ob_Grows : Cls K (cm 12) ∧ NoAttr K (cm 12) "letter" ∧ NoAttr K (cm 12) "rounds"
  ob_Round : Cls K (cm 11) ∧ NoAttr K (cm 11) "first" ∧ NoAttr K (cm 11) "many"
  subs : ∀ p ∈ subL, SubP K cm p
  t_BadMany : PySem.W.typeIn K (.ref (cm 8)) = some (.type "type")
  t_BadPlace : PySem.W.typeIn K (.ref (cm 6)) = some (.type "type")
  t_BadRules : PySem.W.typeIn K (.ref (cm 7)) = some (.type "type")
  t_BadText : PySem.W.typeIn K (.ref (cm 2)) = some (.type "type")
  tys : ∀ p ∈ tyL, TyP K cm p
  x_BadMany : PySem.W.excIn K (cm 8) [.type "ValueError", .type "Exception", .type "BaseException", .type "object"] "ValueError.__new__" = true
  x_BadPlace : PySem.W.excIn K (cm 6) [.type "ValueError", .type "Exception", .type "BaseException", .type "object"] "ValueError.__new__" = true
  x_BadRules : PySem.W.excIn K (cm 7) [.type "ValueError", .type "Exception", .type "BaseException", .type "object"] "ValueError.__new__" = true
  x_BadText : PySem.W.excIn K (cm 2) [.type "ValueError", .type "Exception", .type "BaseException", .type "object"] "ValueError.__new__" = true
  z_ValueError : mg "ValueError" = none
  z_all : mg "all" = none
  z_any : mg "any" = none
  z_bool : mg "bool" = none
  z_dict : mg "dict" = none
  z_int : mg "int" = none
  z_isinstance : mg "isinstance" = none
  z_len : mg "len" = none
  z_list : mg "list" = none
  z_range : mg "range" = none
  z_set : mg "set" = none
  z_sorted : mg "sorted" = none
  z_str : mg "str" = none
  z_sum : mg "sum" = none
  z_tuple : mg "tuple" = none
  z_zip : mg "zip" = none
section
theorem fld_two {H : Hp} {C x dx : Addr} {a b : Str} {y z : V} (ne : ¬ a = b) : upd (upd H x (.ins C dx (L2.putF a y []))) x (.ins C dx (L2.putF b z (L2.putF a y []))) = upd H x (.ins C dx ([a, b].zip [y, z])) := by
  rw [upd_upd]
  have : L2.putF b z (L2.putF a y []) = [a, b].zip [y, z] := by
    show (if a = b then [(a, z)] else (a, y) :: L2.putF b z []) = _
    rw [if_neg ne]; rfl
  rw [this]
variable {P : Program} {w : World} {K : PySem.W.Frag} {mg : Str → Option Value} {base : Heap} {cm : Nat → Addr}
theorem ok_Round___init__ {f : Addr} {fd : FuncData} (T : Txt K mg cm) (F : Fun K "__init__" "Round.__init__" st_Round___init__ f fd) : FnOk P w K mg base (L2.CX P w) 1 f fd ["self", "first", "many"] (spIni (cm 11) ["first", "many"]) := by
  refine F.okX sc_Round___init__ (fun vs H Q E h => ?_) (fun cdv A outer s H vs Q E hr h => ?_)
  · obtain ⟨p, dx, ys, e, hl, _, _⟩ := h
    subst e
    show ys.length + 1 = 3; rw [hl]; rfl
  · obtain ⟨p, dx, ys, e, hl, hp, q⟩ := h
    subst e
    match ys, hl, q with
    | [y, z], _, q =>
    refine ⟨_, pss_cons (ps_fld (pv 0) (pv 1) rfl) (pss_one (ps_fld (pv 0) (pv 2) rfl)), ?_⟩
    refine ⟨y, rfl, _, rfl, p, cm 11, dx, [], rfl, hp, T.ob_Round.1, T.ob_Round.2.1, (by show 0 < 1000; decide), z, rfl, _, rfl, p, cm 11, dx, _, rfl, upd_same, T.ob_Round.1, T.ob_Round.2.2, (by show 1 < 1000; decide), ?_⟩
    show Q .non (upd (upd H p _) p _)
    rw [fld_two (by decide +kernel)]
    exact q
theorem ok_Grows___init__ {f : Addr} {fd : FuncData} (T : Txt K mg cm) (F : Fun K "__init__" "Grows.__init__" st_Grows___init__ f fd) : FnOk P w K mg base (L2.CX P w) 1 f fd ["self", "letter", "rounds"] (spIni (cm 12) ["letter", "rounds"]) := by
  refine F.okX sc_Grows___init__ (fun vs H Q E h => ?_) (fun cdv A outer s H vs Q E hr h => ?_)
  · obtain ⟨p, dx, ys, e, hl, _, _⟩ := h
    subst e
    show ys.length + 1 = 3; rw [hl]; rfl
  · obtain ⟨p, dx, ys, e, hl, hp, q⟩ := h
    subst e
    match ys, hl, q with
    | [y, z], _, q =>
    refine ⟨_, pss_cons (ps_fld (pv 0) (pv 1) rfl) (pss_one (ps_fld (pv 0) (pv 2) rfl)), ?_⟩
    refine ⟨y, rfl, _, rfl, p, cm 12, dx, [], rfl, hp, T.ob_Grows.1, T.ob_Grows.2.1, (by show 0 < 1000; decide), z, rfl, _, rfl, p, cm 12, dx, _, rfl, upd_same, T.ob_Grows.1, T.ob_Grows.2.2, (by show 1 < 1000; decide), ?_⟩
    show Q .non (upd (upd H p _) p _)
    rw [fld_two (by decide +kernel)]
    exact q
set_option maxHeartbeats 4000000 in
theorem ok__law_kinds {g : Addr} {oc kV doc pm cdv ct : Value} {od an : Option Addr} {osl : Array (Option Value)} (T : Txt K mg cm) (hm : mg "_law_kinds" = some (.ref g)) (kp : PySem.W.keepIn K (.ref g) = true)
    (lk : K.lookup g = some ⟨oc, od, .func (PySem.W.fnOf "_law_kinds" "_law_kinds" (defArgs st__law_kinds) (defBody st__law_kinds) (defScope st__law_kinds) .none kV doc pm an cdv ct), osl⟩) (hcd : PySem.W.codeIn K cdv "_law_kinds" = true)
    (hb : L2.Binds K (PySem.W.fnOf "_law_kinds" "_law_kinds" (defArgs st__law_kinds) (defBody st__law_kinds) (defScope st__law_kinds) .none kV doc pm an cdv ct) ["_law_ask"] []) : KFn P w K mg base cm "_law_kinds" 1 kHd KS__law_kinds :=
  ⟨g, oc, od, .none, kV, doc, pm, an, cdv, ct, osl, _, _, _, "_law_ask", "_law_found", "error", "ChangeError", _, _, _, _, _, _, _, _, _, _, _, _, _, hm, kp, lk, hcd, hb, sc__law_kinds, rfl, exm_of T.b_ChangeError T.subs, by first | exact Or.inl rfl | exact Or.inr (Or.inl rfl), by decide, by decide, by first | exact Or.inl rfl | exact Or.inr (Or.inl rfl), by decide, by decide,
    fun A stack s H => ⟨⟨rfl, by decide, .inl T.c_ChangeError⟩, rfl, ps_set (i := 1) sc__law_kinds.nd rfl (.inl rfl) (pe_lst pa_nil), rfl, _, fun k hk a oe pn hz hf => (vss_cons (vs_set 1 sc__law_kinds.nd (ve_lst (vd_cons (wcb K (s_isE k (kit_of T.subs k) (kty_of T.tys k)) (call_isE (exc_of T.excs (c := 1) (by decide) k hk) hz hf) T.z_isinstance (va_cons (ve_var 2) (va_cons (ve_cls T.c_BadText) va_nil))) (vd_cons (wcb K (s_isE k (kit_of T.subs k) (kty_of T.tys k)) (call_isE (exc_of T.excs (c := 1) (by decide) k hk) hz hf) T.z_isinstance (va_cons (ve_var 2) (va_cons (ve_cls T.c_BadWord) va_nil))) (vd_cons (wcb K (s_isE k (kit_of T.subs k) (kty_of T.tys k)) (call_isE (exc_of T.excs (c := 1) (by decide) k hk) hz hf) T.z_isinstance (va_cons (ve_var 2) (va_cons (ve_cls T.c_BadPut) va_nil))) vd_nil)))))
    (vss_cons (vs_set 1 sc__law_kinds.nd (wop K s_plus o_add (ve_var 1) (ve_lst (vd_cons (wcb K (s_isE k (kit_of T.subs k) (kty_of T.tys k)) (call_isE (exc_of T.excs (c := 1) (by decide) k hk) hz hf) T.z_isinstance (va_cons (ve_var 2) (va_cons (ve_cls T.c_BadRows) va_nil))) (vd_cons (wcb K (s_isE k (kit_of T.subs k) (kty_of T.tys k)) (call_isE (exc_of T.excs (c := 1) (by decide) k hk) hz hf) T.z_isinstance (va_cons (ve_var 2) (va_cons (ve_cls T.c_BadPlace) va_nil))) (vd_cons (wcb K (s_isE k (kit_of T.subs k) (kty_of T.tys k)) (call_isE (exc_of T.excs (c := 1) (by decide) k hk) hz hf) T.z_isinstance (va_cons (ve_var 2) (va_cons (ve_cls T.c_BadRules) va_nil))) vd_nil))))))
    (vss_one (vs_set 1 sc__law_kinds.nd (wop K s_plus o_add (ve_var 1) (ve_lst (vd_cons (wcb K (s_isE k (kit_of T.subs k) (kty_of T.tys k)) (call_isE (exc_of T.excs (c := 1) (by decide) k hk) hz hf) T.z_isinstance (va_cons (ve_var 2) (va_cons (ve_cls T.c_BadMany) va_nil))) (vd_cons (wcb K (s_isE k (kit_of T.subs k) (kty_of T.tys k)) (call_isE (exc_of T.excs (c := 1) (by decide) k hk) hz hf) T.z_isinstance (va_cons (ve_var 2) (va_cons (ve_cls T.c_TooLong) va_nil))) (vd_cons (wcb K (s_isE k (kit_of T.subs k) (kty_of T.tys k)) (call_isE (exc_of T.excs (c := 1) (by decide) k hk) hz hf) T.z_isinstance (va_cons (ve_var 2) (va_cons (ve_ty T.z_ValueError) va_nil))) vd_nil)))))))))⟩⟩
set_option maxHeartbeats 4000000 in
theorem ok_is_whole {f : Addr} {fd : FuncData} (T : Txt K mg cm) (F : Fun K "is_whole" "is_whole" st_is_whole f fd) : FnOk P w K mg base (L2.CX P w) 1 f fd ["thing"] (spV cm K 1 F_is_whole) :=
  fn_ok (k := 0) (N := N_is_whole) B_is_whole F sc_is_whole (by decide) fun cdv A outer s H E hr => ⟨_,
  (vss_one (vs_ret (wandT K (wcb K s_isi call_isi T.z_isinstance (va_cons (ve_var 0) (va_cons (ve_ty T.z_int) va_nil))) (ve_boolOne (wnotT K (wcb K s_isi call_isi T.z_isinstance (va_cons (ve_var 0) (va_cons (ve_ty T.z_bool) va_nil))))))))⟩
set_option maxHeartbeats 4000000 in
theorem ok_is_letters {f : Addr} {fd : FuncData} (T : Txt K mg cm) (F : Fun K "is_letters" "is_letters" st_is_letters f fd) : FnOk P w K mg base (L2.CX P w) 1 f fd ["thing", "least", "most"] (spV cm K 3 F_is_letters) :=
  fn_ok (k := 0) (N := N_is_letters) B_is_letters F sc_is_letters (by decide) fun cdv A outer s H E hr => ⟨_,
  (vss_cons (vs_if (VW.vt (vw_or (vt_not (vt_val (wcb K s_isi call_isi T.z_isinstance (va_cons (ve_var 0) (va_cons (ve_ty T.z_str) va_nil))))) (vw_or1 (vt_not (wchainT K s_le s_le op_le op_le (ve_var 1) (wcb K s_len call_len T.z_len (va_cons (ve_var 0) va_nil)) (ve_var 2))))))
    (vss_one (vs_ret ve_bl))
    vss_nil)
  (vss_one (vs_ret (wcb K s_all (cr_all rfl) T.z_all (va_cons (ve_lc [("sign", 3)] rfl sc_is_letters.nd (wany K (ve_var 0)) (fun _ _ _ _ _ => (vg_name 3 sc_is_letters.nd)) (fun _ _ _ _ _ => vts_nil) (fun _ _ _ _ _ => (wcmp K s_in (o_in (o_units hr)) rfl (ve_var 3) (ve_gStr [97, 98, 99, 100, 101, 102, 103, 104, 105, 106, 107, 108, 109, 110, 111, 112, 113, 114, 115, 116, 117, 118, 119, 120, 121, 122] T.g_LETTERS.choose_spec))) (ok := by kernel_rfl)) va_nil)))))⟩
set_option maxHeartbeats 4000000 in
theorem ok_round_of {f : Addr} {fd : FuncData} (T : Txt K mg cm) (F : Fun K "round_of" "round_of" st_round_of f fd) : FnOk P w K mg base (L2.CX P w) 1 f fd ["text", "rules"] (spV cm K 2 F_round_of) :=
  fn_ok (k := 0) (N := N_round_of) B_round_of F sc_round_of (by decide) fun cdv A outer s H E hr => ⟨_,
  (vss_cons (vs_set 2 sc_round_of.nd (wct K s_dict (cd_dict rfl) T.z_dict (va_cons (ve_var 1) va_nil)))
  (vss_one (vs_ret (ve_join K (ve_str []) (ve_lc [("sign", 3)] rfl sc_round_of.nd (wany K (ve_var 0)) (fun _ _ _ _ _ => (vg_name 3 sc_round_of.nd)) (fun _ _ _ _ _ => vts_nil) (fun _ _ _ _ _ => (ve_get2 (o_units hr) (ve_var 2) (ve_var 3) (ve_var 3))) (ok := by kernel_rfl))))))⟩
set_option maxHeartbeats 4000000 in
theorem ok_vanishing_by {f : Addr} {fd : FuncData} (T : Txt K mg cm) (F : Fun K "vanishing_by" "vanishing_by" st_vanishing_by f fd) : FnOk P w K mg base (L2.CX P w) 1 f fd ["rules"] (spV cm K 1 F_vanishing_by) :=
  fn_ok (k := 0) (N := N_vanishing_by) B_vanishing_by F sc_vanishing_by (by decide) fun cdv A outer s H E hr => ⟨_,
  (vss_cons (vs_asgT rfl (vns_cons 1 sc_vanishing_by.nd (vns_cons 2 sc_vanishing_by.nd vns_nil)) (vp_cons ve_dnew (vp_cons ve_int vp_nil)))
  (vss_cons (vs_setLc 3 [("letter", 4), ("put", 5)] rfl sc_vanishing_by.nd (wany K (ve_var 0)) (fun _ _ _ _ _ => (vg_tupK K rfl (vgs_cons (vg_name 4 sc_vanishing_by.nd) (vgs_cons (vg_name 5 sc_vanishing_by.nd) vgs_nil)))) (fun _ _ _ _ _ => (vts_one (wcmpT K s_eq (o_eq (o_units hr)) (nomark _) (ve_var 5) (ve_str [])))) (fun _ _ _ _ _ => (ve_var 4)) (ok := by kernel_rfl))
  (vss_cons (vs_while 100 PassesOwn.leaving (wcmpT K s_ne (o_ne (o_units hr)) (nomark _) (ve_var 3) (ve_lst vd_nil))
    (vss_cons (vs_aug 2 sc_vanishing_by.nd ip_add ve_int)
    (vss_cons (vs_for PassesOwn.leaving rfl (wany K (ve_var 3)) (vg_name 4 sc_vanishing_by.nd)
      (vss_one (wsetK K 1 (o_units hr) (ve_var 2) (ve_var 4))))
    (vss_one (vs_setLc 3 [("one", 6), ("put", 5)] rfl sc_vanishing_by.nd (wany K (ve_var 0)) (fun _ _ _ _ _ => (vg_tupK K rfl (vgs_cons (vg_name 6 sc_vanishing_by.nd) (vgs_cons (vg_name 5 sc_vanishing_by.nd) vgs_nil)))) (fun _ _ _ _ _ => (vts_one (VW.vt (vw_and (wcmpT K s_notIn (o_notIn (o_units hr)) rfl (ve_var 6) (ve_var 1)) (vw_and1 (vt_val (wcb K s_all (cr_all rfl) T.z_all (va_cons (ve_lc [("sign", 7)] rfl sc_vanishing_by.nd (wany K (ve_var 5)) (fun _ _ _ _ _ => (vg_name 7 sc_vanishing_by.nd)) (fun _ _ _ _ _ => vts_nil) (fun _ _ _ _ _ => (wcmp K s_in (o_in (o_units hr)) rfl (ve_var 7) (ve_var 1))) (ok := by kernel_rfl)) va_nil)))))))) (fun _ _ _ _ _ => (ve_var 6)) (ok := by kernel_rfl))))))
  (vss_one (vs_ret (ve_var 1))))))⟩
set_option maxHeartbeats 4000000 in
theorem ok_sizes_of {f : Addr} {fd : FuncData} (T : Txt K mg cm) (F : Fun K "sizes_of" "sizes_of" st_sizes_of f fd) : FnOk P w K mg base (L2.CX P w) 1 f fd ["rules", "many"] (spV cm K 2 F_sizes_of) :=
  fn_ok (k := 0) (N := N_sizes_of) B_sizes_of F sc_sizes_of (by decide) fun cdv A outer s H E hr => ⟨_,
  (vss_cons (vs_set 2 sc_sizes_of.nd (wct K s_dict (cd_dict rfl) T.z_dict (va_cons (ve_var 0) va_nil)))
  (vss_cons (vs_set 3 sc_sizes_of.nd (ve_lst (vd_cons (wct K s_dict (cd_dict rfl) T.z_dict (va_cons (ve_lc [("letter", 6)] rfl sc_sizes_of.nd (wany K (ve_gStr [97, 98, 99, 100, 101, 102, 103, 104, 105, 106, 107, 108, 109, 110, 111, 112, 113, 114, 115, 116, 117, 118, 119, 120, 121, 122] T.g_LETTERS.choose_spec)) (fun _ _ _ _ _ => (vg_name 6 sc_sizes_of.nd)) (fun _ _ _ _ _ => vts_nil) (fun _ _ _ _ _ => (ve_tup (vd_cons (ve_var 6) (vd_cons ve_int vd_nil)))) (ok := by kernel_rfl)) va_nil)) vd_nil)))
  (vss_cons (vs_for PassesOwn.leaving rfl (vi_range1 T.z_range (va_cons (ve_var 1) va_nil)) (vg_name 4 sc_sizes_of.nd)
    (vss_cons (vs_set 5 sc_sizes_of.nd (wix K (o_units hr) (ve_var 3) (ve_neg ve_int)))
    (vss_one (vs_expr (wappK K 3 (wct K s_dict (cd_dict rfl) T.z_dict (va_cons (ve_lc [("letter", 6)] rfl sc_sizes_of.nd (wany K (ve_gStr [97, 98, 99, 100, 101, 102, 103, 104, 105, 106, 107, 108, 109, 110, 111, 112, 113, 114, 115, 116, 117, 118, 119, 120, 121, 122] T.g_LETTERS.choose_spec)) (fun _ _ _ _ _ => (vg_name 6 sc_sizes_of.nd)) (fun _ _ _ _ _ => vts_nil) (fun _ _ _ _ _ => (ve_tup (vd_cons (ve_var 6) (vd_cons (wcb K s_sum (cr_sum rfl) T.z_sum (va_cons (ve_lc [("sign", 7)] rfl sc_sizes_of.nd (wany K (ve_get2 (o_units hr) (ve_var 2) (ve_var 6) (ve_var 6))) (fun _ _ _ _ _ => (vg_name 7 sc_sizes_of.nd)) (fun _ _ _ _ _ => vts_nil) (fun _ _ _ _ _ => (wix K (o_units hr) (ve_var 5) (ve_var 7))) (ok := by kernel_rfl)) va_nil)) vd_nil)))) (ok := by kernel_rfl)) va_nil)))))))
  (vss_one (vs_ret (ve_var 3))))))⟩
set_option maxHeartbeats 4000000 in
theorem ok__law_cell_at {f : Addr} {fd : FuncData} (T : Txt K mg cm) (F : Fun K "_law_cell_at" "_law_cell_at" st__law_cell_at f fd) : FnOk P w K mg base (L2.CX P w) 1 f fd ["_law_script", "_law_k"] (spV cm K 2 F__law_cell_at) :=
  fn_ok (k := 0) (N := N__law_cell_at) B__law_cell_at F sc__law_cell_at (by decide) fun cdv A outer s H E hr => ⟨_,
  (vss_cons (vs_if (wcmpT K s_lt op_lt (nomark _) (ve_var 1) (wcb K s_len call_len T.z_len (va_cons (ve_var 0) va_nil)))
    (vss_one (vs_ret (wix K (o_units hr) (ve_var 0) (ve_var 1))))
    vss_nil)
  (vss_one (vs_ret ve_int)))⟩
set_option maxHeartbeats 4000000 in
theorem ok__law_draw {f : Addr} {fd : FuncData} (T : Txt K mg cm) (F : Fun K "_law_draw" "_law_draw" st__law_draw f fd) : FnOk P w K mg base (L2.CX P w) 1 f fd ["_law_cell", "_law_k", "_law_many"] (spV cm K 3 F__law_draw) :=
  fn_ok (k := 0) (N := N__law_draw) B__law_draw F sc__law_draw (by decide) fun cdv A outer s H E hr => ⟨_,
  (vss_cons (vs_set 3 sc__law_draw.nd (ve_tup (vd_cons ve_int (vd_cons ve_int (vd_cons ve_int (vd_cons ve_int (vd_cons ve_int (vd_cons ve_int (vd_cons ve_int (vd_cons ve_int (vd_cons ve_int (vd_cons ve_int (vd_cons ve_int (vd_cons ve_int (vd_cons ve_int (vd_cons ve_int (vd_cons ve_int (vd_cons ve_int vd_nil))))))))))))))))))
  (vss_one (vs_ret (wop K s_mod op_mod (wop K s_mod op_mod (wop K s_plus o_add (wop K s_mul o_mul (ve_var 0) ve_int) (wop K s_mul o_mul (ve_var 1) ve_int)) (wix K (o_units hr) (ve_var 3) (wop K s_mod op_mod (ve_var 1) ve_int))) (ve_var 2)))))⟩
set_option maxHeartbeats 4000000 in
theorem ok__law_due_of {f : Addr} {fd : FuncData} (T : Txt K mg cm) (F : Fun K "_law_due_of" "_law_due_of" st__law_due_of f fd) : FnOk P w K mg base (L2.CX P w) 1 f fd ["_law_at"] (spV cm K 1 F__law_due_of) :=
  fn_ok (k := 0) (N := N__law_due_of) B__law_due_of F sc__law_due_of (by decide) fun cdv A outer s H E hr => ⟨_,
  (vss_one (vs_ret (wop K s_plus o_add (ve_lc [("_law_one", 1)] rfl sc__law_due_of.nd (vi_range1 T.z_range (va_cons ve_int va_nil)) (fun _ _ _ _ _ => (vg_name 1 sc__law_due_of.nd)) (fun _ _ _ _ _ => vts_nil) (fun _ _ _ _ _ => (wcmp K s_eq (o_eq (o_units hr)) (nomark _) (ve_var 0) (ve_var 1))) (ok := by kernel_rfl)) (ve_lst (vd_cons ve_bl vd_nil)))))⟩
set_option maxHeartbeats 4000000 in
theorem ok__law_strange {f : Addr} {fd : FuncData} (T : Txt K mg cm) (F : Fun K "_law_strange" "_law_strange" st__law_strange f fd) : FnOk P w K mg base (L2.CX P w) 1 f fd ["_law_far"] (spV cm K 1 F__law_strange) :=
  fn_ok (k := 0) (N := N__law_strange) B__law_strange F sc__law_strange (by decide) fun cdv A outer s H E hr => ⟨_,
  (vss_one (vs_ret (ve_lst (vd_cons ve_non (vd_cons (ve_str [49]) (vd_cons ve_bl (vd_cons ve_bl (vd_cons (ve_lst (vd_cons ve_int vd_nil)) (vd_cons (ve_tup (vd_cons ve_int vd_nil)) (vd_cons ve_dnew (vd_cons (ve_neg ve_int) (vd_cons (wop K s_sub op_sub (ve_neg ve_int) (ve_var 0)) vd_nil))))))))))))⟩
set_option maxHeartbeats 4000000 in
theorem ok__law_no_texts {f : Addr} {fd : FuncData} (T : Txt K mg cm) (F : Fun K "_law_no_texts" "_law_no_texts" st__law_no_texts f fd) : FnOk P w K mg base (L2.CX P w) 1 f fd ["_law_far", "_law_most"] (spV cm K 2 F__law_no_texts) :=
  fn_ok (k := 0) (N := N__law_no_texts) B__law_no_texts F sc__law_no_texts (by decide) fun cdv A outer s H E hr => ⟨_,
  (vss_cons (vs_set 2 sc__law_no_texts.nd (ve_lst (vd_cons ve_non (vd_cons ve_int (vd_cons (ve_lst (vd_cons (ve_str [97]) vd_nil)) (vd_cons (ve_tup (vd_cons (ve_str [97]) vd_nil)) (vd_cons ve_dnew (vd_cons ve_bl (vd_cons (ve_str [65]) (vd_cons (ve_str [97, 32, 98]) (vd_cons (ve_str [97, 49]) (vd_cons (wop K s_mul o_mul (ve_str [97]) (wop K s_plus o_add (ve_var 1) ve_int)) (vd_cons (wop K s_mul o_mul (ve_str [122]) (wop K s_plus o_add (wop K s_plus o_add (ve_var 1) ve_int) (wop K s_mod op_mod (ve_var 0) ve_int))) vd_nil)))))))))))))
  (vss_one (vs_ret (wop K s_plus o_add (ve_var 2) (ve_lst (vd_cons (ve_str [97, 45]) (vd_cons (ve_str [10]) (vd_cons (wop K s_plus o_add (wop K s_mul o_mul (ve_str [97, 98]) (ve_var 1)) (ve_str [99])) vd_nil))))))))⟩
set_option maxHeartbeats 4000000 in
theorem ok_check_text {f : Addr} {fd : FuncData} (T : Txt K mg cm) (F : Fun K "check_text" "check_text" st_check_text f fd) (c_is_letters : Fn P w K mg base cm 1 "is_letters" 3 F_is_letters) : FnOk P w K mg base (L2.CX P w) 2 f fd ["text", "most"] (spV cm K 2 F_check_text) :=
  fn_ok (k := 1) (N := N_check_text) B_check_text F sc_check_text (by decide) fun cdv A outer s H E hr => ⟨_,
  (vss_one (vs_if (vt_not (vt_val (wcall K c_is_letters (hr.mono (by decide)) (passAt (takes_of rfl rfl rfl rfl)) (va_cons (ve_var 0) (va_cons ve_int (va_cons (ve_var 1) va_nil))))))
    (vss_one (vs_raise 2 rfl (takes_of rfl rfl rfl rfl) PySem.F.excBase_ValueError T.x_BadText T.c_BadText T.k_BadText (raises_own T.b_BadText T.t_BadText)))
    vss_nil))⟩
set_option maxHeartbeats 4000000 in
theorem ok_is_rule {f : Addr} {fd : FuncData} (T : Txt K mg cm) (F : Fun K "is_rule" "is_rule" st_is_rule f fd) (c_is_letters : Fn P w K mg base cm 1 "is_letters" 3 F_is_letters) : FnOk P w K mg base (L2.CX P w) 2 f fd ["thing"] (spV cm K 1 F_is_rule) :=
  fn_ok (k := 1) (N := N_is_rule) B_is_rule F sc_is_rule (by decide) fun cdv A outer s H E hr => ⟨_,
  (vss_cons (vs_if (VW.vt (vw_or (vt_not (vt_val (wcb K s_isi call_isi T.z_isinstance (va_cons (ve_var 0) (va_cons (ve_ty T.z_tuple) va_nil))))) (vw_or1 (wcmpT K s_ne (o_ne (o_units hr)) (nomark _) (wcb K s_len call_len T.z_len (va_cons (ve_var 0) va_nil)) ve_int))))
    (vss_one (vs_ret ve_bl))
    vss_nil)
  (vss_one (vs_ret (wandT K (wcall K c_is_letters (hr.mono (by decide)) (passAt (takes_of rfl rfl rfl rfl)) (va_cons (wix K (o_units hr) (ve_var 0) ve_int) (va_cons ve_int (va_cons ve_int va_nil)))) (ve_boolOne (wcall K c_is_letters (hr.mono (by decide)) (passAt (takes_of rfl rfl rfl rfl)) (va_cons (wix K (o_units hr) (ve_var 0) ve_int) (va_cons ve_int (va_cons (ve_gInt T.g_MOST_PUT.choose_spec) va_nil)))))))))⟩
set_option maxHeartbeats 4000000 in
theorem ok_lasts {f : Addr} {fd : FuncData} (T : Txt K mg cm) (F : Fun K "lasts" "lasts" st_lasts f fd) (c_vanishing_by : Fn P w K mg base cm 1 "vanishing_by" 1 F_vanishing_by) : FnOk P w K mg base (L2.CX P w) 2 f fd ["rules", "text"] (spV cm K 2 F_lasts) :=
  fn_ok (k := 1) (N := N_lasts) B_lasts F sc_lasts (by decide) fun cdv A outer s H E hr => ⟨_,
  (vss_cons (vs_set 2 sc_lasts.nd (wcall K c_vanishing_by (hr.mono (by decide)) (passAt (takes_of rfl rfl rfl rfl)) (va_cons (ve_var 0) va_nil)))
  (vss_one (vs_ret (wcb K s_len call_len T.z_len (va_cons (ve_lc [("sign", 3)] rfl sc_lasts.nd (wany K (ve_var 1)) (fun _ _ _ _ _ => (vg_name 3 sc_lasts.nd)) (fun _ _ _ _ _ => (vts_one (wcmpT K s_notIn (o_notIn (o_units hr)) rfl (ve_var 3) (ve_var 2)))) (fun _ _ _ _ _ => (ve_var 3)) (ok := by kernel_rfl)) va_nil)))))⟩
set_option maxHeartbeats 4000000 in
theorem ok_reached {f : Addr} {fd : FuncData} (T : Txt K mg cm) (F : Fun K "reached" "reached" st_reached f fd) (c_round_of : Fn P w K mg base cm 1 "round_of" 2 F_round_of) : FnOk P w K mg base (L2.CX P w) 2 f fd ["text", "rules"] (spV cm K 2 F_reached) :=
  fn_ok (k := 1) (N := N_reached) B_reached F sc_reached (by decide) fun cdv A outer s H E hr => ⟨_,
  (vss_cons (vs_set 2 sc_reached.nd (ve_sortSetA (K := K) rfl T.z_sorted T.z_set (ve_var 0)))
  (vss_cons (vs_set 3 sc_reached.nd (ve_var 2))
  (vss_cons (vs_while 100 PassesOwn.leaving (wcmpT K s_ne (o_ne (o_units hr)) (nomark _) (ve_var 3) (ve_lst vd_nil))
    (vss_cons (vs_set 4 sc_reached.nd (wcall K c_round_of (hr.mono (by decide)) (passAt (takes_of rfl rfl rfl rfl)) (va_cons (ve_join K (ve_str []) (ve_var 3)) (va_cons (ve_var 1) va_nil))))
    (vss_cons (vs_set 3 sc_reached.nd (ve_sortSetA (K := K) rfl T.z_sorted T.z_set (ve_lc [("sign", 5)] rfl sc_reached.nd (wany K (ve_var 4)) (fun _ _ _ _ _ => (vg_name 5 sc_reached.nd)) (fun _ _ _ _ _ => (vts_one (wcmpT K s_notIn (o_notIn (o_units hr)) rfl (ve_var 5) (ve_var 2)))) (fun _ _ _ _ _ => (ve_var 5)) (ok := by kernel_rfl))))
    (vss_one (vs_set 2 sc_reached.nd (wcb K s_sorted (cr_sortedA rfl) T.z_sorted (va_cons (wop K s_plus o_add (ve_var 2) (ve_var 3)) va_nil)))))))
  (vss_one (vs_ret (ve_var 2))))))⟩
set_option maxHeartbeats 4000000 in
theorem ok_round_again {f : Addr} {fd : FuncData} (T : Txt K mg cm) (F : Fun K "round_again" "round_again" st_round_again f fd) (c_round_of : Fn P w K mg base cm 1 "round_of" 2 F_round_of) : FnOk P w K mg base (L2.CX P w) 2 f fd ["text", "rules"] (spV cm K 2 F_round_again) :=
  fn_ok (k := 1) (N := N_round_again) B_round_again F sc_round_again (by decide) fun cdv A outer s H E hr => ⟨_,
  (vss_cons (vs_set 2 sc_round_again.nd (ve_lst (vd_cons (ve_var 0) vd_nil)))
  (vss_one (vs_while 100 PassesOwn.leaving (vt_val ve_bl)
    (vss_cons (vs_set 0 sc_round_again.nd (wcall K c_round_of (hr.mono (by decide)) (passAt (takes_of rfl rfl rfl rfl)) (va_cons (ve_var 0) (va_cons (ve_var 1) va_nil))))
    (vss_cons (vs_if (wcmpT K s_in (o_in (o_units hr)) rfl (ve_var 0) (ve_var 2))
      (vss_one (vs_ret (ve_tup (vd_cons (ve_idxL (K := K) (ve_var 2) (ve_var 0)) (vd_cons (wop K s_sub op_sub (wcb K s_len call_len T.z_len (va_cons (ve_var 2) va_nil)) (ve_idxL (K := K) (ve_var 2) (ve_var 0))) vd_nil)))))
      vss_nil)
    (vss_one (vs_expr (wappK K 2 (ve_var 0)))))))))⟩
set_option maxHeartbeats 4000000 in
theorem ok__law_value {f : Addr} {fd : FuncData} (T : Txt K mg cm) (F : Fun K "_law_value" "_law_value" st__law_value f fd) (c__law_draw : Fn P w K mg base cm 1 "_law_draw" 3 F__law_draw) : FnOk P w K mg base (L2.CX P w) 2 f fd ["_law_cell", "_law_turn"] (spV cm K 2 F__law_value) :=
  fn_ok (k := 1) (N := N__law_value) B__law_value F sc__law_value (by decide) fun cdv A outer s H E hr => ⟨_,
  (vss_cons (vs_if (wcmpT K s_ge o_ge (nomark _) (ve_var 0) (wop K s_pow op_pow ve_int ve_int))
    (vss_one (vs_ret (wop K s_shr op_shr (wop K s_sub op_sub (ve_var 0) (wop K s_pow op_pow ve_int ve_int)) (wop K s_mul o_mul ve_int (ve_var 1)))))
    vss_nil)
  (vss_cons (vs_set 2 sc__law_value.nd (wcall K c__law_draw (hr.mono (by decide)) (passAt (takes_of rfl rfl rfl rfl)) (va_cons (wop K s_mul o_mul (wop K s_plus o_add (ve_var 0) (wop K s_mul o_mul ve_int (ve_var 1))) (wop K s_plus o_add (wop K s_plus o_add (ve_var 0) (wop K s_mul o_mul ve_int (ve_var 1))) ve_int)) (va_cons (wop K s_plus o_add (wop K s_mod op_mod (ve_var 1) ve_int) ve_int) (va_cons ve_int va_nil)))))
  (vss_one (vs_ret (wop K s_plus o_add (wop K s_mul o_mul (ve_var 2) ve_int) (wcall K c__law_draw (hr.mono (by decide)) (passAt (takes_of rfl rfl rfl rfl)) (va_cons (wop K s_plus o_add (wop K s_mul o_mul (wop K s_plus o_add (ve_var 0) (wop K s_mul o_mul ve_int (ve_var 1))) (wop K s_plus o_add (ve_var 0) ve_int)) (wop K s_mul o_mul ve_int (ve_var 1))) (va_cons (wop K s_plus o_add (wop K s_mod op_mod (ve_var 1) ve_int) ve_int) (va_cons ve_int va_nil)))))))))⟩
set_option maxHeartbeats 4000000 in
theorem ok_check_rules {f : Addr} {fd : FuncData} (T : Txt K mg cm) (F : Fun K "check_rules" "check_rules" st_check_rules f fd) (c_is_rule : Fn P w K mg base cm 2 "is_rule" 1 F_is_rule) : FnOk P w K mg base (L2.CX P w) 3 f fd ["rules"] (spV cm K 1 F_check_rules) :=
  fn_ok (k := 2) (N := N_check_rules) B_check_rules F sc_check_rules (by decide) fun cdv A outer s H E hr => ⟨_,
  (vss_cons (vs_if (VW.vt (vw_or (vt_not (vt_val (wcb K s_isi call_isi T.z_isinstance (va_cons (ve_var 0) (va_cons (ve_ty T.z_list) va_nil))))) (vw_or (wcmpT K s_gt op_gt (nomark _) (wcb K s_len call_len T.z_len (va_cons (ve_var 0) va_nil)) (ve_gInt T.g_MOST_RULES.choose_spec)) (vw_or1 (vt_not (vt_val (wcb K s_all (cr_all rfl) T.z_all (va_cons (ve_lc [("rule", 3)] rfl sc_check_rules.nd (wany K (ve_var 0)) (fun _ _ _ _ _ => (vg_name 3 sc_check_rules.nd)) (fun _ _ _ _ _ => vts_nil) (fun _ _ _ _ _ => (wcall K c_is_rule (hr.mono (by decide)) pass0At (va_cons (ve_var 3) va_nil))) (ok := by kernel_rfl)) va_nil))))))))
    (vss_one (vs_raise 7 rfl (takes_of rfl rfl rfl rfl) PySem.F.excBase_ValueError T.x_BadRules T.c_BadRules T.k_BadRules (raises_own T.b_BadRules T.t_BadRules)))
    vss_nil)
  (vss_one (vs_if (vt_val (wcb K s_any (cr_any rfl) T.z_any (va_cons (ve_lc [("one", 1), ("other", 2)] rfl sc_check_rules.nd (vi_zip K T.z_zip (ve_var 0) (wslice K (ve_var 0) (vo_some ve_int) vo_none)) (fun _ _ _ _ _ => (vg_tupK K rfl (vgs_cons (vg_name 1 sc_check_rules.nd) (vgs_cons (vg_name 2 sc_check_rules.nd) vgs_nil)))) (fun _ _ _ _ _ => vts_nil) (fun _ _ _ _ _ => (wcmp K s_ge o_ge (nomark _) (wix K (o_units hr) (ve_var 1) ve_int) (wix K (o_units hr) (ve_var 2) ve_int))) (ok := by kernel_rfl)) va_nil)))
    (vss_one (vs_raise 7 rfl (takes_of rfl rfl rfl rfl) PySem.F.excBase_ValueError T.x_BadRules T.c_BadRules T.k_BadRules (raises_own T.b_BadRules T.t_BadRules)))
    vss_nil)))⟩
set_option maxHeartbeats 4000000 in
theorem ok_makes_more {f : Addr} {fd : FuncData} (T : Txt K mg cm) (F : Fun K "makes_more" "makes_more" st_makes_more f fd) (c_round_of : Fn P w K mg base cm 1 "round_of" 2 F_round_of) (c_lasts : Fn P w K mg base cm 2 "lasts" 2 F_lasts) : FnOk P w K mg base (L2.CX P w) 3 f fd ["letter", "rules", "rounds"] (spV cm K 3 F_makes_more) :=
  fn_ok (k := 2) (N := N_makes_more) B_makes_more F sc_makes_more (by decide) fun cdv A outer s H E hr => ⟨_,
  (vss_cons (vs_set 3 sc_makes_more.nd (ve_var 0))
  (vss_cons (vs_for PassesOwn.leaving rfl (vi_range1 T.z_range (va_cons (ve_var 2) va_nil)) (vg_name 4 sc_makes_more.nd)
    (vss_one (vs_set 3 sc_makes_more.nd (wcall K c_round_of (hr.mono (by decide)) (passAt (takes_of rfl rfl rfl rfl)) (va_cons (ve_var 3) (va_cons (ve_var 1) va_nil))))))
  (vss_one (vs_ret (wandT K (wcmp K s_in (o_in (o_units hr)) rfl (ve_var 0) (ve_var 3)) (wandT K (wcmp K s_eq (o_eq (o_units hr)) (nomark _) (wcall K c_lasts (hr.mono (by decide)) (passAt (takes_of rfl rfl rfl rfl)) (va_cons (ve_var 1) (va_cons (ve_var 0) va_nil))) ve_int) (ve_boolOne (wcmp K s_gt op_gt (nomark _) (wcall K c_lasts (hr.mono (by decide)) (passAt (takes_of rfl rfl rfl rfl)) (va_cons (ve_var 1) (va_cons (ve_var 3) va_nil))) ve_int))))))))⟩
set_option maxHeartbeats 4000000 in
theorem ok_growing {f : Addr} {fd : FuncData} (T : Txt K mg cm) (F : Fun K "growing" "growing" st_growing f fd) (c_reached : Fn P w K mg base cm 2 "reached" 2 F_reached) (c_makes_more : Fn P w K mg base cm 3 "makes_more" 3 F_makes_more) : FnOk P w K mg base (L2.CX P w) 4 f fd ["text", "rules"] (spV cm K 2 F_growing) :=
  fn_ok (k := 3) (N := N_growing) B_growing F sc_growing (by decide) fun cdv A outer s H E hr => ⟨_,
  (vss_cons (vs_for PassesOwn.leaving rfl (wany K (wcall K c_reached (hr.mono (by decide)) (passAt (takes_of rfl rfl rfl rfl)) (va_cons (ve_var 0) (va_cons (ve_var 1) va_nil)))) (vg_name 2 sc_growing.nd)
    (vss_one (vs_for PassesOwn.leaving rfl (vi_range2 T.z_range (va_cons ve_int (va_cons (wop K s_plus o_add (ve_gInt T.g_MOST_RULES.choose_spec) ve_int) va_nil))) (vg_name 3 sc_growing.nd)
      (vss_one (vs_if (VW.vt (vw_and (wcmpT K s_in (o_in (o_units hr)) rfl (ve_var 2) (ve_lc [("rule", 4)] rfl sc_growing.nd (wany K (ve_var 1)) (fun _ _ _ _ _ => (vg_name 4 sc_growing.nd)) (fun _ _ _ _ _ => vts_nil) (fun _ _ _ _ _ => (wix K (o_units hr) (ve_var 4) ve_int)) (ok := by kernel_rfl))) (vw_and1 (vt_val (wcall K c_makes_more (hr.mono (by decide)) (passAt (takes_of rfl rfl rfl rfl)) (va_cons (ve_var 2) (va_cons (ve_var 1) (va_cons (ve_var 3) va_nil))))))))
        (vss_one (vs_ret (ve_tup (vd_cons (ve_var 2) (vd_cons (ve_var 3) vd_nil)))))
        vss_nil)))))
  (vss_one (vs_ret ve_non)))⟩
set_option maxHeartbeats 4000000 in
theorem ok_gone_round {f : Addr} {fd : FuncData} (T : Txt K mg cm) (F : Fun K "gone_round" "gone_round" st_gone_round f fd) (c_check_text : Fn P w K mg base cm 2 "check_text" 2 F_check_text) (c_check_rules : Fn P w K mg base cm 3 "check_rules" 1 F_check_rules) (c_round_of : Fn P w K mg base cm 1 "round_of" 2 F_round_of) : FnOk P w K mg base (L2.CX P w) 4 f fd ["text", "rules"] (spV cm K 2 F_gone_round) :=
  fn_ok (k := 3) (N := N_gone_round) B_gone_round F sc_gone_round (by decide) fun cdv A outer s H E hr => ⟨_,
  (vss_cons (vs_expr (wcall K c_check_text (hr.mono (by decide)) (passAt (takes_of rfl rfl rfl rfl)) (va_cons (ve_var 0) (va_cons (ve_gInt T.g_LONGEST.choose_spec) va_nil))))
  (vss_cons (vs_expr (wcall K c_check_rules (hr.mono (by decide)) (passAt (takes_of rfl rfl rfl rfl)) (va_cons (ve_var 1) va_nil)))
  (vss_one (vs_ret (wcall K c_round_of (hr.mono (by decide)) (passAt (takes_of rfl rfl rfl rfl)) (va_cons (ve_var 0) (va_cons (ve_var 1) va_nil)))))))⟩
set_option maxHeartbeats 4000000 in
theorem ok_vanishing {f : Addr} {fd : FuncData} (T : Txt K mg cm) (F : Fun K "vanishing" "vanishing" st_vanishing f fd) (c_check_rules : Fn P w K mg base cm 3 "check_rules" 1 F_check_rules) (c_vanishing_by : Fn P w K mg base cm 1 "vanishing_by" 1 F_vanishing_by) : FnOk P w K mg base (L2.CX P w) 4 f fd ["rules"] (spV cm K 1 F_vanishing) :=
  fn_ok (k := 3) (N := N_vanishing) B_vanishing F sc_vanishing (by decide) fun cdv A outer s H E hr => ⟨_,
  (vss_cons (vs_expr (wcall K c_check_rules (hr.mono (by decide)) (passAt (takes_of rfl rfl rfl rfl)) (va_cons (ve_var 0) va_nil)))
  (vss_cons (vs_set 1 sc_vanishing.nd (wcall K c_vanishing_by (hr.mono (by decide)) (passAt (takes_of rfl rfl rfl rfl)) (va_cons (ve_var 0) va_nil)))
  (vss_one (vs_ret (ve_lc [("letter", 2)] rfl sc_vanishing.nd (wany K (wcb K s_sorted (cr_sortedA rfl) T.z_sorted (va_cons (ve_var 1) va_nil))) (fun _ _ _ _ _ => (vg_name 2 sc_vanishing.nd)) (fun _ _ _ _ _ => vts_nil) (fun _ _ _ _ _ => (ve_tup (vd_cons (ve_var 2) (vd_cons (wix K (o_units hr) (ve_var 1) (ve_var 2)) vd_nil)))) (ok := by kernel_rfl))))))⟩
set_option maxHeartbeats 4000000 in
theorem ok_check_far {f : Addr} {fd : FuncData} (T : Txt K mg cm) (F : Fun K "check_far" "check_far" st_check_far f fd) (c_check_text : Fn P w K mg base cm 2 "check_text" 2 F_check_text) (c_check_rules : Fn P w K mg base cm 3 "check_rules" 1 F_check_rules) (c_is_whole : Fn P w K mg base cm 1 "is_whole" 1 F_is_whole) : FnOk P w K mg base (L2.CX P w) 4 f fd ["text", "rules", "many"] (spV cm K 3 F_check_far) :=
  fn_ok (k := 3) (N := N_check_far) B_check_far F sc_check_far (by decide) fun cdv A outer s H E hr => ⟨_,
  (vss_cons (vs_expr (wcall K c_check_text (hr.mono (by decide)) (passAt (takes_of rfl rfl rfl rfl)) (va_cons (ve_var 0) (va_cons (ve_gInt T.g_LONGEST.choose_spec) va_nil))))
  (vss_cons (vs_expr (wcall K c_check_rules (hr.mono (by decide)) (passAt (takes_of rfl rfl rfl rfl)) (va_cons (ve_var 1) va_nil)))
  (vss_one (vs_if (VW.vt (vw_or (vt_not (vt_val (wcall K c_is_whole (hr.mono (by decide)) (passAt (takes_of rfl rfl rfl rfl)) (va_cons (ve_var 2) va_nil)))) (vw_or1 (vt_not (wchainT K s_le s_le op_le op_le ve_int (ve_var 2) (ve_gInt T.g_MOST_ROUNDS.choose_spec))))))
    (vss_one (vs_raise 8 rfl (takes_of rfl rfl rfl rfl) PySem.F.excBase_ValueError T.x_BadMany T.c_BadMany T.k_BadMany (raises_own T.b_BadMany T.t_BadMany)))
    vss_nil))))⟩
set_option maxHeartbeats 4000000 in
theorem ok_Grows_shows {f : Addr} {fd : FuncData} (T : Txt K mg cm) (F : Fun K "shows" "Grows.shows" st_Grows_shows f fd) (c_reached : Fn P w K mg base cm 2 "reached" 2 F_reached) (c_makes_more : Fn P w K mg base cm 3 "makes_more" 3 F_makes_more) : FnOk P w K mg base (L2.CX P w) 4 f fd ["self", "text", "rules"] (spV cm K 3 F_Grows_shows) :=
  fn_ok (k := 3) (N := N_Grows_shows) B_Grows_shows F sc_Grows_shows (by decide) fun cdv A outer s H E hr => ⟨_,
  (vss_cons (vs_if (VW.vt (vw_or (vt_not (wchainT K s_le s_le op_le op_le ve_int (ve_fld (K := K) (List.forall_mem_cons.mpr ⟨⟨T.ob_Grows.1, T.ob_Grows.2.2⟩, (fun _ h => nomatch h)⟩) (ve_var 0)) (ve_gInt T.g_MOST_RULES.choose_spec))) (vw_or1 (wcmpT K s_notIn (o_notIn (o_units hr)) rfl (ve_fld (K := K) (List.forall_mem_cons.mpr ⟨⟨T.ob_Grows.1, T.ob_Grows.2.1⟩, (fun _ h => nomatch h)⟩) (ve_var 0)) (wcall K c_reached (hr.mono (by decide)) (passAt (takes_of rfl rfl rfl rfl)) (va_cons (ve_var 1) (va_cons (ve_var 2) va_nil)))))))
    (vss_one (vs_ret ve_bl))
    vss_nil)
  (vss_one (vs_ret (wcall K c_makes_more (hr.mono (by decide)) (passAt (takes_of rfl rfl rfl rfl)) (va_cons (ve_fld (K := K) (List.forall_mem_cons.mpr ⟨⟨T.ob_Grows.1, T.ob_Grows.2.1⟩, (fun _ h => nomatch h)⟩) (ve_var 0)) (va_cons (ve_var 2) (va_cons (ve_fld (K := K) (List.forall_mem_cons.mpr ⟨⟨T.ob_Grows.1, T.ob_Grows.2.2⟩, (fun _ h => nomatch h)⟩) (ve_var 0)) va_nil)))))))⟩
set_option maxHeartbeats 4000000 in
theorem ok_judged {f : Addr} {fd : FuncData} (T : Txt K mg cm) (F : Fun K "judged" "judged" st_judged f fd) (c_check_text : Fn P w K mg base cm 2 "check_text" 2 F_check_text) (c_check_rules : Fn P w K mg base cm 3 "check_rules" 1 F_check_rules) (c_growing : Fn P w K mg base cm 4 "growing" 2 F_growing) (c_Grows : Kls P w K mg base cm 1 12 "Grows" ["letter", "rounds"]) (c_round_again : Fn P w K mg base cm 2 "round_again" 2 F_round_again) (c_Round : Kls P w K mg base cm 1 11 "Round" ["first", "many"]) : FnOk P w K mg base (L2.CX P w) 5 f fd ["text", "rules"] (spV cm K 2 F_judged) :=
  fn_ok (k := 4) (N := N_judged) B_judged F sc_judged (by decide) fun cdv A outer s H E hr => ⟨_,
  (vss_cons (vs_expr (wcall K c_check_text (hr.mono (by decide)) (passAt (takes_of rfl rfl rfl rfl)) (va_cons (ve_var 0) (va_cons (ve_gInt T.g_LONGEST.choose_spec) va_nil))))
  (vss_cons (vs_expr (wcall K c_check_rules (hr.mono (by decide)) (passAt (takes_of rfl rfl rfl rfl)) (va_cons (ve_var 1) va_nil)))
  (vss_cons (vs_set 2 sc_judged.nd (wcall K c_growing (hr.mono (by decide)) (passAt (takes_of rfl rfl rfl rfl)) (va_cons (ve_var 0) (va_cons (ve_var 1) va_nil))))
  (vss_cons (vs_if (wcmpT K s_notN o_notN (nomark _) (ve_var 2) ve_non)
    (vss_one (vs_ret (ve_mk (K := K) c_Grows (hr.mono (by decide)) (vd_cons (wix K (o_units hr) (ve_var 2) ve_int) (vd_cons (wix K (o_units hr) (ve_var 2) ve_int) vd_nil)))))
    vss_nil)
  (vss_cons (vs_unp (wcall K c_round_again (hr.mono (by decide)) (passAt (takes_of rfl rfl rfl rfl)) (va_cons (ve_var 0) (va_cons (ve_var 1) va_nil))) (vg_tupK K rfl (vgs_cons (vg_name 3 sc_judged.nd) (vgs_cons (vg_name 4 sc_judged.nd) vgs_nil))))
  (vss_one (vs_ret (ve_mk (K := K) c_Round (hr.mono (by decide)) (vd_cons (ve_var 3) (vd_cons (ve_var 4) vd_nil))))))))))⟩
set_option maxHeartbeats 4000000 in
theorem ok_long_behind {f : Addr} {fd : FuncData} (T : Txt K mg cm) (F : Fun K "long_behind" "long_behind" st_long_behind f fd) (c_check_far : Fn P w K mg base cm 4 "check_far" 3 F_check_far) (c_sizes_of : Fn P w K mg base cm 1 "sizes_of" 2 F_sizes_of) : FnOk P w K mg base (L2.CX P w) 5 f fd ["text", "rules", "many"] (spV cm K 3 F_long_behind) :=
  fn_ok (k := 4) (N := N_long_behind) B_long_behind F sc_long_behind (by decide) fun cdv A outer s H E hr => ⟨_,
  (vss_cons (vs_expr (wcall K c_check_far (hr.mono (by decide)) (passAt (takes_of rfl rfl rfl rfl)) (va_cons (ve_var 0) (va_cons (ve_var 1) (va_cons (ve_var 2) va_nil)))))
  (vss_cons (vs_set 3 sc_long_behind.nd (wix K (o_units hr) (wcall K c_sizes_of (hr.mono (by decide)) (passAt (takes_of rfl rfl rfl rfl)) (va_cons (ve_var 1) (va_cons (ve_var 2) va_nil))) (ve_var 2)))
  (vss_one (vs_ret (wcb K s_sum (cr_sum rfl) T.z_sum (va_cons (ve_lc [("sign", 4)] rfl sc_long_behind.nd (wany K (ve_var 0)) (fun _ _ _ _ _ => (vg_name 4 sc_long_behind.nd)) (fun _ _ _ _ _ => vts_nil) (fun _ _ _ _ _ => (wix K (o_units hr) (ve_var 3) (ve_var 4))) (ok := by kernel_rfl)) va_nil))))))⟩
set_option maxHeartbeats 4000000 in
theorem ok_letter_at {f : Addr} {fd : FuncData} (T : Txt K mg cm) (F : Fun K "letter_at" "letter_at" st_letter_at f fd) (c_check_far : Fn P w K mg base cm 4 "check_far" 3 F_check_far) (c_is_whole : Fn P w K mg base cm 1 "is_whole" 1 F_is_whole) (c_sizes_of : Fn P w K mg base cm 1 "sizes_of" 2 F_sizes_of) : FnOk P w K mg base (L2.CX P w) 5 f fd ["text", "rules", "many", "place"] (spV cm K 4 F_letter_at) :=
  fn_ok (k := 4) (N := N_letter_at) B_letter_at F sc_letter_at (by decide) fun cdv A outer s H E hr => ⟨_,
  (vss_cons (vs_expr (wcall K c_check_far (hr.mono (by decide)) (passAt (takes_of rfl rfl rfl rfl)) (va_cons (ve_var 0) (va_cons (ve_var 1) (va_cons (ve_var 2) va_nil)))))
  (vss_cons (vs_if (VW.vt (vw_or (vt_not (vt_val (wcall K c_is_whole (hr.mono (by decide)) (passAt (takes_of rfl rfl rfl rfl)) (va_cons (ve_var 3) va_nil)))) (vw_or1 (wcmpT K s_lt op_lt (nomark _) (ve_var 3) ve_int))))
    (vss_one (vs_raise 6 rfl (takes_of rfl rfl rfl rfl) PySem.F.excBase_ValueError T.x_BadPlace T.c_BadPlace T.k_BadPlace (raises_own T.b_BadPlace T.t_BadPlace)))
    vss_nil)
  (vss_cons (vs_par3 4 5 6 rfl sc_letter_at.nd (vp_cons (wct K s_dict (cd_dict rfl) T.z_dict (va_cons (ve_var 1) va_nil)) (vp_cons (wcall K c_sizes_of (hr.mono (by decide)) (passAt (takes_of rfl rfl rfl rfl)) (va_cons (ve_var 1) (va_cons (ve_var 2) va_nil))) (vp_cons (ve_var 3) vp_nil))))
  (vss_cons (vs_for PassesOwn.leaving rfl (vi_range3 T.z_range (va_cons (ve_var 2) (va_cons (ve_neg ve_int) (va_cons (ve_neg ve_int) va_nil)))) (vg_name 7 sc_letter_at.nd)
    (vss_cons (vs_set 8 sc_letter_at.nd ve_non)
    (vss_cons (vs_for PassesOwn.leaving rfl (wany K (ve_var 0)) (vg_name 9 sc_letter_at.nd)
      (vss_one (vs_if (VW.vt (vw_and (wcmpT K s_isN o_isN (nomark _) (ve_var 8) ve_non) (vw_and1 (wcmpT K s_lt op_lt (nomark _) (ve_var 6) (wix K (o_units hr) (wix K (o_units hr) (ve_var 5) (ve_var 7)) (ve_var 9))))))
        (vss_one (vs_set 8 sc_letter_at.nd (ve_var 9)))
        (vss_one (vs_if (wcmpT K s_isN o_isN (nomark _) (ve_var 8) ve_non)
          (vss_one (vs_aug 6 sc_letter_at.nd ip_sub (wix K (o_units hr) (wix K (o_units hr) (ve_var 5) (ve_var 7)) (ve_var 9))))
          vss_nil)))))
    (vss_cons (vs_if (VW.vt (vw_or (wcmpT K s_isN o_isN (nomark _) (ve_var 8) ve_non) (vw_or1 (wcmpT K s_eq (o_eq (o_units hr)) (nomark _) (ve_var 7) ve_int))))
      (vss_one (vs_ret (ve_var 8)))
      vss_nil)
    (vss_one (vs_set 0 sc_letter_at.nd (ve_get2 (o_units hr) (ve_var 4) (ve_var 8) (ve_var 8))))))))
  (vss_one (vs_ret ve_non))))))⟩
set_option maxHeartbeats 4000000 in
theorem ok_Round_shows {f : Addr} {fd : FuncData} (T : Txt K mg cm) (F : Fun K "shows" "Round.shows" st_Round_shows f fd) (c_growing : Fn P w K mg base cm 4 "growing" 2 F_growing) (c_round_again : Fn P w K mg base cm 2 "round_again" 2 F_round_again) : FnOk P w K mg base (L2.CX P w) 5 f fd ["self", "text", "rules"] (spV cm K 3 F_Round_shows) :=
  fn_ok (k := 4) (N := N_Round_shows) B_Round_shows F sc_Round_shows (by decide) fun cdv A outer s H E hr => ⟨_,
  (vss_one (vs_ret (wandT K (wcmp K s_isN o_isN (nomark _) (wcall K c_growing (hr.mono (by decide)) (passAt (takes_of rfl rfl rfl rfl)) (va_cons (ve_var 1) (va_cons (ve_var 2) va_nil))) ve_non) (ve_boolOne (wcmp K s_eq (o_eq (o_units hr)) (nomark _) (wcall K c_round_again (hr.mono (by decide)) (passAt (takes_of rfl rfl rfl rfl)) (va_cons (ve_var 1) (va_cons (ve_var 2) va_nil))) (ve_tup (vd_cons (ve_fld (K := K) (List.forall_mem_cons.mpr ⟨⟨T.ob_Round.1, T.ob_Round.2.1⟩, (fun _ h => nomatch h)⟩) (ve_var 0)) (vd_cons (ve_fld (K := K) (List.forall_mem_cons.mpr ⟨⟨T.ob_Round.1, T.ob_Round.2.2⟩, (fun _ h => nomatch h)⟩) (ve_var 0)) vd_nil))))))))⟩
set_option maxHeartbeats 4000000 in
theorem ok__law_rules_right {f : Addr} {oc dV kV doc pm ct : Value} {od an : Option Addr} {osl : Array (Option Value)} {cc : Addr} (T : Txt K mg cm) (lk : K.lookup f = some ⟨oc, od, .func (PySem.W.fnOf "_law_rules_right" "_law_rules_right" (defArgs st__law_rules_right) (defBody st__law_rules_right) (defScope st__law_rules_right) dV kV doc pm an (.ref cc) ct), osl⟩) (hcd : PySem.W.codeIn K (.ref cc) "_law_rules_right" = true) (TB : LamX.TabB base mg cc (cm 15)) (c__law_kinds : KFn P w K mg base cm "_law_kinds" 1 kHd KS__law_kinds) (c__law_due_of : Fn P w K mg base cm 1 "_law_due_of" 1 F__law_due_of) (c_vanishing : Fn P w K mg base cm 4 "vanishing" 1 F_vanishing) (c_long_behind : Fn P w K mg base cm 5 "long_behind" 3 F_long_behind) (c_letter_at : Fn P w K mg base cm 5 "letter_at" 4 F_letter_at) (l_judged : FnL P w K mg base cm 5 14 2 F_judged) (l_gone_round : FnL P w K mg base cm 4 13 2 F_gone_round) :
    FnOk P w K mg base (L2.CX P w) 8 f (PySem.W.fnOf "_law_rules_right" "_law_rules_right" (defArgs st__law_rules_right) (defBody st__law_rules_right) (defScope st__law_rules_right) dV kV doc pm an (.ref cc) ct) ["_law_far"] (spT cm K tsL [false] F__law_rules_right) :=
  fn_okT (k := 7) (N := N__law_rules_right) (mask := [false]) (ts := tsL) B__law_rules_right lk hcd sc__law_rules_right (by decide) rfl fun A outer s H E hr => ⟨_,
  (vss_cons (vs_set 2 sc__law_rules_right.nd (ve_lst (vd_cons ve_non (vd_cons ve_int (vd_cons (ve_str [97]) (vd_cons (ve_tup vd_nil) (vd_cons (ve_tup (vd_cons (ve_tup (vd_cons (ve_str [97]) (vd_cons (ve_str [98]) vd_nil))) vd_nil)) (vd_cons ve_dnew (vd_cons (ve_lst (vd_cons ve_non vd_nil)) (vd_cons (ve_lst (vd_cons (ve_tup vd_nil) vd_nil)) (vd_cons (ve_lst (vd_cons (ve_tup (vd_cons (ve_str [97]) vd_nil)) vd_nil)) (vd_cons (ve_lst (vd_cons (ve_tup (vd_cons (ve_str [97]) (vd_cons (ve_str [98]) (vd_cons (ve_str [99]) vd_nil)))) vd_nil)) (vd_cons (ve_lst (vd_cons (ve_lst (vd_cons (ve_str [97]) (vd_cons (ve_str [98]) vd_nil))) vd_nil)) (vd_cons (ve_lst (vd_cons (ve_tup (vd_cons (ve_str []) (vd_cons (ve_str [98]) vd_nil))) vd_nil)) vd_nil))))))))))))))
  (vss_cons (vs_set 2 sc__law_rules_right.nd (wop K s_plus o_add (ve_var 2) (ve_lst (vd_cons (ve_lst (vd_cons (ve_tup (vd_cons (ve_str [97, 98]) (vd_cons (ve_str [99]) vd_nil))) vd_nil)) (vd_cons (ve_lst (vd_cons (ve_tup (vd_cons (ve_str [65]) (vd_cons (ve_str [98]) vd_nil))) vd_nil)) (vd_cons (ve_lst (vd_cons (ve_tup (vd_cons (ve_str [97]) (vd_cons (ve_str [98, 98, 98, 98]) vd_nil))) vd_nil)) (vd_cons (ve_lst (vd_cons (ve_tup (vd_cons (ve_str [97]) (vd_cons ve_non vd_nil))) vd_nil)) (vd_cons (ve_lst (vd_cons (ve_tup (vd_cons (ve_str [97]) (vd_cons (ve_str [66]) vd_nil))) vd_nil)) (vd_cons (ve_lst (vd_cons (ve_tup (vd_cons ve_int (vd_cons (ve_str [97]) vd_nil))) vd_nil)) (vd_cons (ve_lst (vd_cons (ve_tup (vd_cons (ve_str [97]) (vd_cons ve_int vd_nil))) vd_nil)) vd_nil))))))))))
  (vss_cons (vs_set 2 sc__law_rules_right.nd (wop K s_plus o_add (ve_var 2) (ve_lst (vd_cons (ve_lst (vd_cons (ve_tup (vd_cons (ve_str [98]) (vd_cons (ve_str [97]) vd_nil))) (vd_cons (ve_tup (vd_cons (ve_str [97]) (vd_cons (ve_str [98]) vd_nil))) vd_nil))) (vd_cons (ve_lst (vd_cons (ve_tup (vd_cons (ve_str [97]) (vd_cons (ve_str [98]) vd_nil))) (vd_cons (ve_tup (vd_cons (ve_str [97]) (vd_cons (ve_str [99]) vd_nil))) vd_nil))) (vd_cons (ve_lc [("_law_letter", 5)] rfl sc__law_rules_right.nd (wany K (ve_str [97, 98, 99, 100, 101])) (fun _ _ _ _ _ => (vg_name 5 sc__law_rules_right.nd)) (fun _ _ _ _ _ => vts_nil) (fun _ _ _ _ _ => (ve_tup (vd_cons (ve_var 5) (vd_cons (ve_str []) vd_nil)))) (ok := by kernel_rfl)) vd_nil))))))
  (vss_cons (vs_for PassesOwn.leaving rfl (wany K (wop K s_plus o_add (ve_var 2) (ve_lst (vd_cons (ve_lst (vd_cons (ve_tup (vd_cons (ve_str [97]) (vd_cons (wop K s_mul o_mul (ve_str [122]) (wop K s_plus o_add ve_int (wop K s_mod op_mod (ve_var 0) ve_int))) vd_nil))) vd_nil)) vd_nil)))) (vg_name 3 sc__law_rules_right.nd)
    (vss_cons (vs_for PassesOwn.leaving rfl (wany K (ve_tup (vd_cons (ve_cls T.d_gone_round) (vd_cons (ve_cls T.d_judged) vd_nil)))) (vg_name 4 sc__law_rules_right.nd)
      (vss_one (vs_if (wcmpT K s_ne (o_ne (o_units hr)) (nomark _) (ve_kinds (K := K) 6 (t := 1) (kk := 15) (k := 5) (q := "_law_rules_right.<locals>.<lambda>") c__law_kinds (hr.mono (by decide)) TB rfl rfl (fun A outer s H E f c' hr => (ve_callL (K := K) (j := 5) (tab := lkL [(13, F_gone_round), (14, F_judged)]) 4 6 (lkL_ok (l := [(13, F_gone_round), (14, F_judged)]) (List.forall_mem_cons.mpr ⟨FnL.up l_gone_round (by decide), (List.forall_mem_cons.mpr ⟨FnL.up l_judged (by decide), (fun _ h => nomatch h)⟩)⟩)) (hr.mono (by decide)) (passAt (takes_of rfl rfl rfl rfl)) (va_cons (ve_str [97, 98]) (va_cons (ve_var 3) va_nil)))) (LamX.lamS_by (by kernel_rfl))) (wcall K c__law_due_of (hr.mono (by decide)) (passAt (takes_of rfl rfl rfl rfl)) (va_cons ve_int va_nil)))
        (vss_one (vs_retR ve_bl))
        vss_nil)))
    (vss_cons (vs_if (wcmpT K s_ne (o_ne (o_units hr)) (nomark _) (ve_kinds (K := K) 6 (t := 1) (kk := 15) (k := 5) (q := "_law_rules_right.<locals>.<lambda>") c__law_kinds (hr.mono (by decide)) TB rfl rfl (fun A outer s H E f c' hr => (wcall K c_vanishing (hr.mono (by decide)) (passAt (takes_of rfl rfl rfl rfl)) (va_cons (ve_var 3) va_nil))) (LamX.lamS_by (by kernel_rfl))) (wcall K c__law_due_of (hr.mono (by decide)) (passAt (takes_of rfl rfl rfl rfl)) (va_cons ve_int va_nil)))
      (vss_one (vs_retR ve_bl))
      vss_nil)
    (vss_cons (vs_if (wcmpT K s_ne (o_ne (o_units hr)) (nomark _) (ve_kinds (K := K) 6 (t := 1) (kk := 15) (k := 5) (q := "_law_rules_right.<locals>.<lambda>") c__law_kinds (hr.mono (by decide)) TB rfl rfl (fun A outer s H E f c' hr => (wcall K c_long_behind (hr.mono (by decide)) (passAt (takes_of rfl rfl rfl rfl)) (va_cons (ve_str [97, 98]) (va_cons (ve_var 3) (va_cons ve_non va_nil))))) (LamX.lamS_by (by kernel_rfl))) (wcall K c__law_due_of (hr.mono (by decide)) (passAt (takes_of rfl rfl rfl rfl)) (va_cons ve_int va_nil)))
      (vss_one (vs_retR ve_bl))
      vss_nil)
    (vss_one (vs_if (wcmpT K s_ne (o_ne (o_units hr)) (nomark _) (ve_kinds (K := K) 6 (t := 1) (kk := 15) (k := 5) (q := "_law_rules_right.<locals>.<lambda>") c__law_kinds (hr.mono (by decide)) TB rfl rfl (fun A outer s H E f c' hr => (wcall K c_letter_at (hr.mono (by decide)) (passAt (takes_of rfl rfl rfl rfl)) (va_cons (ve_str [97, 98]) (va_cons (ve_var 3) (va_cons ve_non (va_cons ve_non va_nil)))))) (LamX.lamS_by (by kernel_rfl))) (wcall K c__law_due_of (hr.mono (by decide)) (passAt (takes_of rfl rfl rfl rfl)) (va_cons ve_int va_nil)))
      (vss_one (vs_retR ve_bl))
      vss_nil))))))
  (vss_one (vs_retR ve_bl))))))⟩
set_option maxHeartbeats 4000000 in
theorem ok__law_right {f : Addr} {oc dV kV doc pm ct : Value} {od an : Option Addr} {osl : Array (Option Value)} {cc : Addr} (T : Txt K mg cm) (lk : K.lookup f = some ⟨oc, od, .func (PySem.W.fnOf "_law_right" "_law_right" (defArgs st__law_right) (defBody st__law_right) (defScope st__law_right) dV kV doc pm an (.ref cc) ct), osl⟩) (hcd : PySem.W.codeIn K (.ref cc) "_law_right" = true) (TB : LamX.TabB base mg cc (cm 16)) (c__law_no_texts : Fn P w K mg base cm 1 "_law_no_texts" 2 F__law_no_texts) (c__law_kinds : KFn P w K mg base cm "_law_kinds" 1 kHd KS__law_kinds) (c__law_due_of : Fn P w K mg base cm 1 "_law_due_of" 1 F__law_due_of) (c_long_behind : Fn P w K mg base cm 5 "long_behind" 3 F_long_behind) (c_letter_at : Fn P w K mg base cm 5 "letter_at" 4 F_letter_at) (c__law_strange : Fn P w K mg base cm 1 "_law_strange" 1 F__law_strange) (l_judged : FnL P w K mg base cm 5 14 2 F_judged) (l_gone_round : FnL P w K mg base cm 4 13 2 F_gone_round) :
    FnOk P w K mg base (L2.CX P w) 8 f (PySem.W.fnOf "_law_right" "_law_right" (defArgs st__law_right) (defBody st__law_right) (defScope st__law_right) dV kV doc pm an (.ref cc) ct) ["_law_far"] (spT cm K tsL [false] F__law_right) :=
  fn_okT (k := 7) (N := N__law_right) (mask := [false]) (ts := tsL) B__law_right lk hcd sc__law_right (by decide) rfl fun A outer s H E hr => ⟨_,
  (vss_cons (vs_for PassesOwn.leaving rfl (wany K (wcall K c__law_no_texts (hr.mono (by decide)) (passAt (takes_of rfl rfl rfl rfl)) (va_cons (ve_var 0) (va_cons ve_int va_nil)))) (vg_name 2 sc__law_right.nd)
    (vss_cons (vs_for PassesOwn.leaving rfl (wany K (ve_tup (vd_cons (ve_cls T.d_gone_round) (vd_cons (ve_cls T.d_judged) vd_nil)))) (vg_name 3 sc__law_right.nd)
      (vss_one (vs_if (wcmpT K s_ne (o_ne (o_units hr)) (nomark _) (ve_kinds (K := K) 4 (t := 1) (kk := 16) (k := 5) (q := "_law_right.<locals>.<lambda>") c__law_kinds (hr.mono (by decide)) TB rfl rfl (fun A outer s H E f c' hr => (ve_callL (K := K) (j := 5) (tab := lkL [(13, F_gone_round), (14, F_judged)]) 3 4 (lkL_ok (l := [(13, F_gone_round), (14, F_judged)]) (List.forall_mem_cons.mpr ⟨FnL.up l_gone_round (by decide), (List.forall_mem_cons.mpr ⟨FnL.up l_judged (by decide), (fun _ h => nomatch h)⟩)⟩)) (hr.mono (by decide)) (passAt (takes_of rfl rfl rfl rfl)) (va_cons (ve_var 2) (va_cons ve_non va_nil)))) (LamX.lamS_by (by kernel_rfl))) (wcall K c__law_due_of (hr.mono (by decide)) (passAt (takes_of rfl rfl rfl rfl)) (va_cons ve_int va_nil)))
        (vss_one (vs_retR ve_bl))
        vss_nil)))
    (vss_cons (vs_if (wcmpT K s_ne (o_ne (o_units hr)) (nomark _) (ve_kinds (K := K) 4 (t := 1) (kk := 16) (k := 5) (q := "_law_right.<locals>.<lambda>") c__law_kinds (hr.mono (by decide)) TB rfl rfl (fun A outer s H E f c' hr => (wcall K c_long_behind (hr.mono (by decide)) (passAt (takes_of rfl rfl rfl rfl)) (va_cons (ve_var 2) (va_cons ve_non (va_cons ve_non va_nil))))) (LamX.lamS_by (by kernel_rfl))) (wcall K c__law_due_of (hr.mono (by decide)) (passAt (takes_of rfl rfl rfl rfl)) (va_cons ve_int va_nil)))
      (vss_one (vs_retR ve_bl))
      vss_nil)
    (vss_one (vs_if (wcmpT K s_ne (o_ne (o_units hr)) (nomark _) (ve_kinds (K := K) 4 (t := 1) (kk := 16) (k := 5) (q := "_law_right.<locals>.<lambda>") c__law_kinds (hr.mono (by decide)) TB rfl rfl (fun A outer s H E f c' hr => (wcall K c_letter_at (hr.mono (by decide)) (passAt (takes_of rfl rfl rfl rfl)) (va_cons (ve_var 2) (va_cons ve_non (va_cons ve_non (va_cons ve_non va_nil)))))) (LamX.lamS_by (by kernel_rfl))) (wcall K c__law_due_of (hr.mono (by decide)) (passAt (takes_of rfl rfl rfl rfl)) (va_cons ve_int va_nil)))
      (vss_one (vs_retR ve_bl))
      vss_nil)))))
  (vss_cons (vs_for PassesOwn.leaving rfl (wany K (wop K s_plus o_add (wcall K c__law_strange (hr.mono (by decide)) (passAt (takes_of rfl rfl rfl rfl)) (va_cons (ve_var 0) va_nil)) (ve_lst (vd_cons ve_int (vd_cons (wop K s_plus o_add ve_int (ve_var 0)) vd_nil))))) (vg_name 2 sc__law_right.nd)
    (vss_cons (vs_if (wcmpT K s_ne (o_ne (o_units hr)) (nomark _) (ve_kinds (K := K) 4 (t := 1) (kk := 16) (k := 5) (q := "_law_right.<locals>.<lambda>") c__law_kinds (hr.mono (by decide)) TB rfl rfl (fun A outer s H E f c' hr => (wcall K c_long_behind (hr.mono (by decide)) (passAt (takes_of rfl rfl rfl rfl)) (va_cons (ve_str [97]) (va_cons (ve_lst vd_nil) (va_cons (ve_var 2) va_nil))))) (LamX.lamS_by (by kernel_rfl))) (wcall K c__law_due_of (hr.mono (by decide)) (passAt (takes_of rfl rfl rfl rfl)) (va_cons ve_int va_nil)))
      (vss_one (vs_retR ve_bl))
      vss_nil)
    (vss_one (vs_if (wcmpT K s_ne (o_ne (o_units hr)) (nomark _) (ve_kinds (K := K) 4 (t := 1) (kk := 16) (k := 5) (q := "_law_right.<locals>.<lambda>") c__law_kinds (hr.mono (by decide)) TB rfl rfl (fun A outer s H E f c' hr => (wcall K c_letter_at (hr.mono (by decide)) (passAt (takes_of rfl rfl rfl rfl)) (va_cons (ve_str [97]) (va_cons (ve_lst vd_nil) (va_cons (ve_var 2) (va_cons ve_non va_nil)))))) (LamX.lamS_by (by kernel_rfl))) (wcall K c__law_due_of (hr.mono (by decide)) (passAt (takes_of rfl rfl rfl rfl)) (va_cons ve_int va_nil)))
      (vss_one (vs_retR ve_bl))
      vss_nil))))
  (vss_cons (vs_for PassesOwn.leaving rfl (wany K (wcall K c__law_strange (hr.mono (by decide)) (passAt (takes_of rfl rfl rfl rfl)) (va_cons (ve_var 0) va_nil))) (vg_name 2 sc__law_right.nd)
    (vss_one (vs_if (wcmpT K s_ne (o_ne (o_units hr)) (nomark _) (ve_kinds (K := K) 4 (t := 1) (kk := 16) (k := 5) (q := "_law_right.<locals>.<lambda>") c__law_kinds (hr.mono (by decide)) TB rfl rfl (fun A outer s H E f c' hr => (wcall K c_letter_at (hr.mono (by decide)) (passAt (takes_of rfl rfl rfl rfl)) (va_cons (ve_str [97]) (va_cons (ve_lst vd_nil) (va_cons ve_int (va_cons (ve_var 2) va_nil)))))) (LamX.lamS_by (by kernel_rfl))) (wcall K c__law_due_of (hr.mono (by decide)) (passAt (takes_of rfl rfl rfl rfl)) (va_cons ve_int va_nil)))
      (vss_one (vs_retR ve_bl))
      vss_nil)))
  (vss_one (vs_retR ve_bl)))))⟩
set_option maxHeartbeats 4000000 in
theorem ok_law {f : Addr} {oc dV kV doc pm ct : Value} {od an : Option Addr} {osl : Array (Option Value)} {cdv : Value} (T : Txt K mg cm) (lk : K.lookup f = some ⟨oc, od, .func (PySem.W.fnOf "law" "law" (defArgs st_law) (defBody st_law) (defScope st_law) dV kV doc pm an cdv ct), osl⟩) (hcd : PySem.W.codeIn K cdv "law" = true) (c__law_value : Fn P w K mg base cm 2 "_law_value" 2 F__law_value) (c__law_cell_at : Fn P w K mg base cm 1 "_law_cell_at" 2 F__law_cell_at) (c__law_rules_right : FnT P w K mg base cm 8 "_law_rules_right" tsL [false] F__law_rules_right) (c__law_right : FnT P w K mg base cm 8 "_law_right" tsL [false] F__law_right) (c_gone_round : Fn P w K mg base cm 4 "gone_round" 2 F_gone_round) (c_letter_at : Fn P w K mg base cm 5 "letter_at" 4 F_letter_at) (c_vanishing : Fn P w K mg base cm 4 "vanishing" 1 F_vanishing) :
    FnOk P w K mg base (L2.CX P w) 9 f (PySem.W.fnOf "law" "law" (defArgs st_law) (defBody st_law) (defScope st_law) dV kV doc pm an cdv ct) ["_law_script"] (spT cm K tsL [false] F_law) :=
  fn_okT (k := 8) (N := N_law) (mask := [false]) (ts := tsL) B_law lk hcd sc_law (by decide) rfl fun A outer s H E hr => ⟨_,
  (vss_cons (vs_set 0 sc_law.nd (wslice K (ve_var 0) vo_none (vo_some ve_int)))
  (vss_cons (vs_for PassesOwn.leaving rfl (wany K (ve_tup (vd_cons ve_int (vd_cons ve_int vd_nil)))) (vg_name 2 sc_law.nd)
    (vss_cons (vs_set 3 sc_law.nd (wop K s_plus o_add ve_int (wop K s_mod op_mod (wcall K c__law_value (hr.mono (by decide)) (passAt (takes_of rfl rfl rfl rfl)) (va_cons (wcall K c__law_cell_at (hr.mono (by decide)) (passAt (takes_of rfl rfl rfl rfl)) (va_cons (ve_var 0) (va_cons (ve_var 2) va_nil))) (va_cons ve_int va_nil))) (wop K s_pow op_pow ve_int ve_int))))
    (vss_one (vs_if (VW.vt (vw_or (vt_not (vt_val (ve_callT (K := K) (tt := 1) c__law_rules_right (hr.mono (by decide)) (passAt (takes_of rfl rfl rfl rfl)) (va_cons (ve_var 3) va_nil)))) (vw_or1 (vt_not (vt_val (ve_callT (K := K) (tt := 1) c__law_right (hr.mono (by decide)) (passAt (takes_of rfl rfl rfl rfl)) (va_cons (ve_var 3) va_nil)))))))
      (vss_one (vs_retR ve_bl))
      vss_nil))))
  (vss_cons (vs_if (VW.vt (vw_or (wcmpT K s_ne (o_ne (o_units hr)) (nomark _) (wcall K c_gone_round (hr.mono (by decide)) (passAt (takes_of rfl rfl rfl rfl)) (va_cons (wop K s_mul o_mul (ve_str [97]) ve_int) (va_cons (ve_lst (vd_cons (ve_tup (vd_cons (ve_str [97]) (vd_cons (ve_str [122, 122, 122]) vd_nil))) vd_nil)) va_nil))) (wop K s_mul o_mul (ve_str [122]) ve_int)) (vw_or1 (wcmpT K s_ne (o_ne (o_units hr)) (nomark _) (wcall K c_letter_at (hr.mono (by decide)) (passAt (takes_of rfl rfl rfl rfl)) (va_cons (ve_str [97]) (va_cons (ve_lst vd_nil) (va_cons ve_int (va_cons ve_int va_nil))))) (ve_str [97])))))
    (vss_one (vs_retR ve_bl))
    vss_nil)
  (vss_cons (vs_if (wcmpT K s_ne (o_ne (o_units hr)) (nomark _) (wix K (o_units hr) (wcall K c_vanishing (hr.mono (by decide)) (passAt (takes_of rfl rfl rfl rfl)) (va_cons (ve_lst (vd_cons (ve_tup (vd_cons (ve_str [97]) (vd_cons (ve_str []) vd_nil))) (vd_cons (ve_tup (vd_cons (ve_str [98]) (vd_cons (ve_str [97]) vd_nil))) (vd_cons (ve_tup (vd_cons (ve_str [99]) (vd_cons (ve_str [98]) vd_nil))) (vd_cons (ve_tup (vd_cons (ve_str [122]) (vd_cons (ve_str [99]) vd_nil))) vd_nil))))) va_nil)) ve_int) (ve_tup (vd_cons (ve_str [122]) (vd_cons ve_int vd_nil))))
    (vss_one (vs_retR ve_bl))
    vss_nil)
  (vss_one (vs_retR (wcmp K s_isN o_isN (nomark _) (wcall K c_letter_at (hr.mono (by decide)) (passAt (takes_of rfl rfl rfl rfl)) (va_cons (ve_str []) (va_cons (ve_lst vd_nil) (va_cons ve_int (va_cons (wop K s_pow op_pow ve_int ve_int) va_nil))))) ve_non)))))))⟩
def spLaw (K : PySem.W.Frag) : Sp := fun vs H Q _ => ∃ (a : Addr) (ns : List Int), vs = [.ref a] ∧ SqL K H a (ns.map V.int) ∧ ns.length ≤ 63 ∧ (∀ z ∈ ns, Builtin.Int.intBits z ≤ 1048576) ∧ ∀ H', Q (.bl true) H'
def LawTrue : Prop := ∀ ns : List Int, ns.length ≤ 63 → (∀ z ∈ ns, Builtin.Int.intBits z ≤ 1048576) → F_law [.scr ns] = .ret (.bl true) [.non]
def cmOf (l : List Addr) (k : Nat) : Addr := l.getD k 0
set_option maxHeartbeats 4000000 in
theorem all_mk {h : Heap} {fa : Addr} (X : K.In h) (G : h.Ns mainGlobals mg) (hfa : mg "law" = some (.ref fa)) (hl : LawTrue)
    {C1 : Addr}
    {C2 : Addr}
    {C3 : Addr}
    {C4 : Addr}
    {C5 : Addr}
    {C6 : Addr}
    {C7 : Addr}
    {C8 : Addr}
    {C9 : Addr}
    {C11 : Addr}
    {C12 : Addr}
    {tk_LETTERS : Tok}
    {tk_LONGEST : Tok}
    {tk_MOST_PUT : Tok}
    {tk_MOST_ROUNDS : Tok}
    {tk_MOST_RULES : Tok}
    {fi11 : Addr} {odi11 ani11 : Option Addr} {sli11 : Array (Option Value)} {oci11 kVi11 dci11 pmi11 cdi11 cti11 : Value}
    {fi12 : Addr} {odi12 ani12 : Option Addr} {sli12 : Array (Option Value)} {oci12 kVi12 dci12 pmi12 cdi12 cti12 : Value}
    {f0 : Addr} {od0 an0 : Option Addr} {sl0 : Array (Option Value)} {oc0 kV0 dc0 pm0 cd0 ct0 : Value}
    {f1 : Addr} {od1 an1 : Option Addr} {sl1 : Array (Option Value)} {oc1 kV1 dc1 pm1 cd1 ct1 : Value}
    {f2 : Addr} {od2 an2 : Option Addr} {sl2 : Array (Option Value)} {oc2 kV2 dc2 pm2 cd2 ct2 : Value}
    {f3 : Addr} {od3 an3 : Option Addr} {sl3 : Array (Option Value)} {oc3 kV3 dc3 pm3 cd3 ct3 : Value}
    {f4 : Addr} {od4 an4 : Option Addr} {sl4 : Array (Option Value)} {oc4 kV4 dc4 pm4 cd4 ct4 : Value}
    {f5 : Addr} {od5 an5 : Option Addr} {sl5 : Array (Option Value)} {oc5 kV5 dc5 pm5 cd5 ct5 : Value}
    {f6 : Addr} {od6 an6 : Option Addr} {sl6 : Array (Option Value)} {oc6 kV6 dc6 pm6 cd6 ct6 : Value}
    {f7 : Addr} {od7 an7 : Option Addr} {sl7 : Array (Option Value)} {oc7 kV7 dc7 pm7 cd7 ct7 : Value}
    {f8 : Addr} {od8 an8 : Option Addr} {sl8 : Array (Option Value)} {oc8 kV8 dc8 pm8 cd8 ct8 : Value}
    {f9 : Addr} {od9 an9 : Option Addr} {sl9 : Array (Option Value)} {oc9 kV9 dc9 pm9 cd9 ct9 : Value}
    {f10 : Addr} {od10 an10 : Option Addr} {sl10 : Array (Option Value)} {oc10 kV10 dc10 pm10 cd10 ct10 : Value}
    {f11 : Addr} {od11 an11 : Option Addr} {sl11 : Array (Option Value)} {oc11 kV11 dc11 pm11 cd11 ct11 : Value}
    {f12 : Addr} {od12 an12 : Option Addr} {sl12 : Array (Option Value)} {oc12 kV12 dc12 pm12 cd12 ct12 : Value}
    {f13 : Addr} {od13 an13 : Option Addr} {sl13 : Array (Option Value)} {oc13 kV13 dc13 pm13 cd13 ct13 : Value}
    {f14 : Addr} {od14 an14 : Option Addr} {sl14 : Array (Option Value)} {oc14 kV14 dc14 pm14 cd14 ct14 : Value}
    {f15 : Addr} {od15 an15 : Option Addr} {sl15 : Array (Option Value)} {oc15 kV15 dc15 pm15 cd15 ct15 : Value}
    {f16 : Addr} {od16 an16 : Option Addr} {sl16 : Array (Option Value)} {oc16 kV16 dc16 pm16 cd16 ct16 : Value}
    {f17 : Addr} {od17 an17 : Option Addr} {sl17 : Array (Option Value)} {oc17 kV17 dc17 pm17 cd17 ct17 : Value}
    {f18 : Addr} {od18 an18 : Option Addr} {sl18 : Array (Option Value)} {oc18 kV18 dc18 pm18 cd18 ct18 : Value}
    {f19 : Addr} {od19 an19 : Option Addr} {sl19 : Array (Option Value)} {oc19 kV19 dc19 pm19 cd19 ct19 : Value}
    {f20 : Addr} {od20 an20 : Option Addr} {sl20 : Array (Option Value)} {oc20 kV20 dc20 pm20 cd20 ct20 : Value}
    {f21 : Addr} {od21 an21 : Option Addr} {sl21 : Array (Option Value)} {oc21 kV21 dc21 pm21 cd21 ct21 : Value}
    {f22 : Addr} {od22 an22 : Option Addr} {sl22 : Array (Option Value)} {oc22 kV22 dc22 pm22 cd22 ct22 : Value}
    {f23 : Addr} {od23 an23 : Option Addr} {sl23 : Array (Option Value)} {oc23 kV23 dc23 pm23 cd23 ct23 : Value}
    {f24 : Addr} {od24 an24 : Option Addr} {sl24 : Array (Option Value)} {oc24 kV24 dc24 pm24 cd24 ct24 : Value}
    {f25 : Addr} {od25 an25 : Option Addr} {sl25 : Array (Option Value)} {oc25 kV25 dc25 pm25 cd25 ct25 : Value}
    {f26 : Addr} {od26 an26 : Option Addr} {sl26 : Array (Option Value)} {oc26 kV26 dc26 pm26 cd26 ct26 : Value}
    {f27 : Addr} {od27 an27 : Option Addr} {sl27 : Array (Option Value)} {oc27 kV27 dc27 pm27 cd27 ct27 : Value}
    {f28 : Addr} {od28 an28 : Option Addr} {sl28 : Array (Option Value)} {oc28 kV28 dc28 pm28 ct28 : Value} {cc28 pp28 : Addr} {mo28 : Value} {md28 : Option Addr} {ms28 : Array (Option Value)} {vs28 : Array Value}
    {f29 : Addr} {od29 an29 : Option Addr} {sl29 : Array (Option Value)} {oc29 kV29 dc29 pm29 ct29 : Value} {cc29 pp29 : Addr} {mo29 : Value} {md29 : Option Addr} {ms29 : Array (Option Value)} {vs29 : Array Value}
    {f30 : Addr} {od30 an30 : Option Addr} {sl30 : Array (Option Value)} {oc30 kV30 dc30 pm30 cd30 ct30 : Value}
    (c_BadMany : PySem.W.nsIn K mainGlobals "BadMany" = some (some (.ref C8)))
    (c_BadPlace : PySem.W.nsIn K mainGlobals "BadPlace" = some (some (.ref C6)))
    (c_BadPut : PySem.W.nsIn K mainGlobals "BadPut" = some (some (.ref C4)))
    (c_BadRows : PySem.W.nsIn K mainGlobals "BadRows" = some (some (.ref C5)))
    (c_BadRules : PySem.W.nsIn K mainGlobals "BadRules" = some (some (.ref C7)))
    (c_BadText : PySem.W.nsIn K mainGlobals "BadText" = some (some (.ref C2)))
    (c_BadWord : PySem.W.nsIn K mainGlobals "BadWord" = some (some (.ref C3)))
    (c_ChangeError : PySem.W.nsIn K mainGlobals "ChangeError" = some (some (.ref C1)))
    (c_Grows : PySem.W.nsIn K mainGlobals "Grows" = some (some (.ref C12)))
    (c_Round : PySem.W.nsIn K mainGlobals "Round" = some (some (.ref C11)))
    (c_TooLong : PySem.W.nsIn K mainGlobals "TooLong" = some (some (.ref C9)))
    (g_LETTERS : PySem.W.nsIn K mainGlobals "LETTERS" = some (some (.str "abcdefghijklmnopqrstuvwxyz" tk_LETTERS)))
    (g_LONGEST : PySem.W.nsIn K mainGlobals "LONGEST" = some (some (.int (30) tk_LONGEST)))
    (g_MOST_PUT : PySem.W.nsIn K mainGlobals "MOST_PUT" = some (some (.int (3) tk_MOST_PUT)))
    (g_MOST_ROUNDS : PySem.W.nsIn K mainGlobals "MOST_ROUNDS" = some (some (.int (40) tk_MOST_ROUNDS)))
    (g_MOST_RULES : PySem.W.nsIn K mainGlobals "MOST_RULES" = some (some (.int (4) tk_MOST_RULES)))
    (z_ValueError : PySem.W.nsIn K mainGlobals "ValueError" = some none)
    (z_all : PySem.W.nsIn K mainGlobals "all" = some none)
    (z_any : PySem.W.nsIn K mainGlobals "any" = some none)
    (z_bool : PySem.W.nsIn K mainGlobals "bool" = some none)
    (z_dict : PySem.W.nsIn K mainGlobals "dict" = some none)
    (z_int : PySem.W.nsIn K mainGlobals "int" = some none)
    (z_isinstance : PySem.W.nsIn K mainGlobals "isinstance" = some none)
    (z_len : PySem.W.nsIn K mainGlobals "len" = some none)
    (z_list : PySem.W.nsIn K mainGlobals "list" = some none)
    (z_range : PySem.W.nsIn K mainGlobals "range" = some none)
    (z_set : PySem.W.nsIn K mainGlobals "set" = some none)
    (z_sorted : PySem.W.nsIn K mainGlobals "sorted" = some none)
    (z_str : PySem.W.nsIn K mainGlobals "str" = some none)
    (z_sum : PySem.W.nsIn K mainGlobals "sum" = some none)
    (z_tuple : PySem.W.nsIn K mainGlobals "tuple" = some none)
    (z_zip : PySem.W.nsIn K mainGlobals "zip" = some none)
    (b_BadMany : PySem.W.subIn K (.ref C8) (.type "BaseException") = some true)
    (b_BadPlace : PySem.W.subIn K (.ref C6) (.type "BaseException") = some true)
    (b_BadRules : PySem.W.subIn K (.ref C7) (.type "BaseException") = some true)
    (b_BadText : PySem.W.subIn K (.ref C2) (.type "BaseException") = some true)
    (b_ChangeError : PySem.W.subIn K (.ref C1) (.type "BaseException") = some true)
    (k_BadMany : PySem.W.keepIn K (.ref C8) = true)
    (k_BadPlace : PySem.W.keepIn K (.ref C6) = true)
    (k_BadRules : PySem.W.keepIn K (.ref C7) = true)
    (k_BadText : PySem.W.keepIn K (.ref C2) = true)
    (t_BadMany : PySem.W.typeIn K (.ref C8) = some (.type "type"))
    (t_BadPlace : PySem.W.typeIn K (.ref C6) = some (.type "type"))
    (t_BadRules : PySem.W.typeIn K (.ref C7) = some (.type "type"))
    (t_BadText : PySem.W.typeIn K (.ref C2) = some (.type "type"))
    (x_BadMany : PySem.W.excIn K C8 [.type "ValueError", .type "Exception", .type "BaseException", .type "object"] "ValueError.__new__" = true)
    (x_BadPlace : PySem.W.excIn K C6 [.type "ValueError", .type "Exception", .type "BaseException", .type "object"] "ValueError.__new__" = true)
    (x_BadRules : PySem.W.excIn K C7 [.type "ValueError", .type "Exception", .type "BaseException", .type "object"] "ValueError.__new__" = true)
    (x_BadText : PySem.W.excIn K C2 [.type "ValueError", .type "Exception", .type "BaseException", .type "object"] "ValueError.__new__" = true)
    (sb2_2 : PySem.W.subIn K (.ref C2) (.ref C2) = some true)
    (sb2_1 : PySem.W.subIn K (.ref C2) (.ref C1) = some true)
    (sb3_3 : PySem.W.subIn K (.ref C3) (.ref C3) = some true)
    (sb3_1 : PySem.W.subIn K (.ref C3) (.ref C1) = some true)
    (sb4_4 : PySem.W.subIn K (.ref C4) (.ref C4) = some true)
    (sb4_1 : PySem.W.subIn K (.ref C4) (.ref C1) = some true)
    (sb6_6 : PySem.W.subIn K (.ref C6) (.ref C6) = some true)
    (sb6_1 : PySem.W.subIn K (.ref C6) (.ref C1) = some true)
    (sb7_7 : PySem.W.subIn K (.ref C7) (.ref C7) = some true)
    (sb7_1 : PySem.W.subIn K (.ref C7) (.ref C1) = some true)
    (sb8_8 : PySem.W.subIn K (.ref C8) (.ref C8) = some true)
    (sb8_1 : PySem.W.subIn K (.ref C8) (.ref C1) = some true)
    (sb9_9 : PySem.W.subIn K (.ref C9) (.ref C9) = some true)
    (sb9_1 : PySem.W.subIn K (.ref C9) (.ref C1) = some true)
    (sb3_2 : PySem.W.subIn K (.ref C3) (.ref C2) = some false)
    (sb4_2 : PySem.W.subIn K (.ref C4) (.ref C2) = some false)
    (sb6_2 : PySem.W.subIn K (.ref C6) (.ref C2) = some false)
    (sb7_2 : PySem.W.subIn K (.ref C7) (.ref C2) = some false)
    (sb8_2 : PySem.W.subIn K (.ref C8) (.ref C2) = some false)
    (sb9_2 : PySem.W.subIn K (.ref C9) (.ref C2) = some false)
    (sb2_3 : PySem.W.subIn K (.ref C2) (.ref C3) = some false)
    (sb4_3 : PySem.W.subIn K (.ref C4) (.ref C3) = some false)
    (sb6_3 : PySem.W.subIn K (.ref C6) (.ref C3) = some false)
    (sb7_3 : PySem.W.subIn K (.ref C7) (.ref C3) = some false)
    (sb8_3 : PySem.W.subIn K (.ref C8) (.ref C3) = some false)
    (sb9_3 : PySem.W.subIn K (.ref C9) (.ref C3) = some false)
    (sb2_4 : PySem.W.subIn K (.ref C2) (.ref C4) = some false)
    (sb3_4 : PySem.W.subIn K (.ref C3) (.ref C4) = some false)
    (sb6_4 : PySem.W.subIn K (.ref C6) (.ref C4) = some false)
    (sb7_4 : PySem.W.subIn K (.ref C7) (.ref C4) = some false)
    (sb8_4 : PySem.W.subIn K (.ref C8) (.ref C4) = some false)
    (sb9_4 : PySem.W.subIn K (.ref C9) (.ref C4) = some false)
    (sb2_5 : PySem.W.subIn K (.ref C2) (.ref C5) = some false)
    (sb3_5 : PySem.W.subIn K (.ref C3) (.ref C5) = some false)
    (sb4_5 : PySem.W.subIn K (.ref C4) (.ref C5) = some false)
    (sb6_5 : PySem.W.subIn K (.ref C6) (.ref C5) = some false)
    (sb7_5 : PySem.W.subIn K (.ref C7) (.ref C5) = some false)
    (sb8_5 : PySem.W.subIn K (.ref C8) (.ref C5) = some false)
    (sb9_5 : PySem.W.subIn K (.ref C9) (.ref C5) = some false)
    (sb2_6 : PySem.W.subIn K (.ref C2) (.ref C6) = some false)
    (sb3_6 : PySem.W.subIn K (.ref C3) (.ref C6) = some false)
    (sb4_6 : PySem.W.subIn K (.ref C4) (.ref C6) = some false)
    (sb7_6 : PySem.W.subIn K (.ref C7) (.ref C6) = some false)
    (sb8_6 : PySem.W.subIn K (.ref C8) (.ref C6) = some false)
    (sb9_6 : PySem.W.subIn K (.ref C9) (.ref C6) = some false)
    (sb2_7 : PySem.W.subIn K (.ref C2) (.ref C7) = some false)
    (sb3_7 : PySem.W.subIn K (.ref C3) (.ref C7) = some false)
    (sb4_7 : PySem.W.subIn K (.ref C4) (.ref C7) = some false)
    (sb6_7 : PySem.W.subIn K (.ref C6) (.ref C7) = some false)
    (sb8_7 : PySem.W.subIn K (.ref C8) (.ref C7) = some false)
    (sb9_7 : PySem.W.subIn K (.ref C9) (.ref C7) = some false)
    (sb2_8 : PySem.W.subIn K (.ref C2) (.ref C8) = some false)
    (sb3_8 : PySem.W.subIn K (.ref C3) (.ref C8) = some false)
    (sb4_8 : PySem.W.subIn K (.ref C4) (.ref C8) = some false)
    (sb6_8 : PySem.W.subIn K (.ref C6) (.ref C8) = some false)
    (sb7_8 : PySem.W.subIn K (.ref C7) (.ref C8) = some false)
    (sb9_8 : PySem.W.subIn K (.ref C9) (.ref C8) = some false)
    (sb2_9 : PySem.W.subIn K (.ref C2) (.ref C9) = some false)
    (sb3_9 : PySem.W.subIn K (.ref C3) (.ref C9) = some false)
    (sb4_9 : PySem.W.subIn K (.ref C4) (.ref C9) = some false)
    (sb6_9 : PySem.W.subIn K (.ref C6) (.ref C9) = some false)
    (sb7_9 : PySem.W.subIn K (.ref C7) (.ref C9) = some false)
    (sb8_9 : PySem.W.subIn K (.ref C8) (.ref C9) = some false)
    (ic2 : PySem.W.isClsIn K C2 = true)
    (tc2 : PySem.W.typeIn K (.ref C2) = some (.type "type"))
    (ic1 : PySem.W.isClsIn K C1 = true)
    (tc1 : PySem.W.typeIn K (.ref C1) = some (.type "type"))
    (ic3 : PySem.W.isClsIn K C3 = true)
    (tc3 : PySem.W.typeIn K (.ref C3) = some (.type "type"))
    (ic4 : PySem.W.isClsIn K C4 = true)
    (tc4 : PySem.W.typeIn K (.ref C4) = some (.type "type"))
    (ic6 : PySem.W.isClsIn K C6 = true)
    (tc6 : PySem.W.typeIn K (.ref C6) = some (.type "type"))
    (ic7 : PySem.W.isClsIn K C7 = true)
    (tc7 : PySem.W.typeIn K (.ref C7) = some (.type "type"))
    (ic8 : PySem.W.isClsIn K C8 = true)
    (tc8 : PySem.W.typeIn K (.ref C8) = some (.type "type"))
    (ic9 : PySem.W.isClsIn K C9 = true)
    (tc9 : PySem.W.typeIn K (.ref C9) = some (.type "type"))
    (ic5 : PySem.W.isClsIn K C5 = true)
    (tc5 : PySem.W.typeIn K (.ref C5) = some (.type "type"))
    (st2_ValueError : PySem.W.subIn K (.ref C2) (.type "ValueError") = some true)
    (st3_ValueError : PySem.W.subIn K (.ref C3) (.type "ValueError") = some true)
    (st4_ValueError : PySem.W.subIn K (.ref C4) (.type "ValueError") = some true)
    (st6_ValueError : PySem.W.subIn K (.ref C6) (.type "ValueError") = some true)
    (st7_ValueError : PySem.W.subIn K (.ref C7) (.type "ValueError") = some true)
    (st8_ValueError : PySem.W.subIn K (.ref C8) (.type "ValueError") = some true)
    (st9_ValueError : PySem.W.subIn K (.ref C9) (.type "ValueError") = some true)
    (xn : PySem.W.specialIn K (.builtin "object.__class__") "__get__" = some (some (.builtin "getset_descriptor.__get__")))
    (xt : PySem.W.takesIn K (.builtin "object.__class__") = some true)
    (xg2 : PySem.W.findIn K (.ref C2) "__getattribute__" = some (some (.builtin "BaseException.__getattribute__")))
    (xk2 : PySem.W.findIn K (.ref C2) "__getattr__" = some none)
    (xs2 : PySem.W.subIn K (.ref C2) (.type "BaseException") = some true)
    (xd2 : PySem.W.hasDictIn K C2 = true)
    (xa2 : PySem.W.findIn K (.ref C2) "__class__" = some (some (.builtin "object.__class__")))
    (xm2 : PySem.W.mroIn K C2 (.type "object") = some true)
    (xg3 : PySem.W.findIn K (.ref C3) "__getattribute__" = some (some (.builtin "BaseException.__getattribute__")))
    (xk3 : PySem.W.findIn K (.ref C3) "__getattr__" = some none)
    (xs3 : PySem.W.subIn K (.ref C3) (.type "BaseException") = some true)
    (xd3 : PySem.W.hasDictIn K C3 = true)
    (xa3 : PySem.W.findIn K (.ref C3) "__class__" = some (some (.builtin "object.__class__")))
    (xm3 : PySem.W.mroIn K C3 (.type "object") = some true)
    (xg4 : PySem.W.findIn K (.ref C4) "__getattribute__" = some (some (.builtin "BaseException.__getattribute__")))
    (xk4 : PySem.W.findIn K (.ref C4) "__getattr__" = some none)
    (xs4 : PySem.W.subIn K (.ref C4) (.type "BaseException") = some true)
    (xd4 : PySem.W.hasDictIn K C4 = true)
    (xa4 : PySem.W.findIn K (.ref C4) "__class__" = some (some (.builtin "object.__class__")))
    (xm4 : PySem.W.mroIn K C4 (.type "object") = some true)
    (xg6 : PySem.W.findIn K (.ref C6) "__getattribute__" = some (some (.builtin "BaseException.__getattribute__")))
    (xk6 : PySem.W.findIn K (.ref C6) "__getattr__" = some none)
    (xs6 : PySem.W.subIn K (.ref C6) (.type "BaseException") = some true)
    (xd6 : PySem.W.hasDictIn K C6 = true)
    (xa6 : PySem.W.findIn K (.ref C6) "__class__" = some (some (.builtin "object.__class__")))
    (xm6 : PySem.W.mroIn K C6 (.type "object") = some true)
    (xg7 : PySem.W.findIn K (.ref C7) "__getattribute__" = some (some (.builtin "BaseException.__getattribute__")))
    (xk7 : PySem.W.findIn K (.ref C7) "__getattr__" = some none)
    (xs7 : PySem.W.subIn K (.ref C7) (.type "BaseException") = some true)
    (xd7 : PySem.W.hasDictIn K C7 = true)
    (xa7 : PySem.W.findIn K (.ref C7) "__class__" = some (some (.builtin "object.__class__")))
    (xm7 : PySem.W.mroIn K C7 (.type "object") = some true)
    (xg8 : PySem.W.findIn K (.ref C8) "__getattribute__" = some (some (.builtin "BaseException.__getattribute__")))
    (xk8 : PySem.W.findIn K (.ref C8) "__getattr__" = some none)
    (xs8 : PySem.W.subIn K (.ref C8) (.type "BaseException") = some true)
    (xd8 : PySem.W.hasDictIn K C8 = true)
    (xa8 : PySem.W.findIn K (.ref C8) "__class__" = some (some (.builtin "object.__class__")))
    (xm8 : PySem.W.mroIn K C8 (.type "object") = some true)
    (xg9 : PySem.W.findIn K (.ref C9) "__getattribute__" = some (some (.builtin "BaseException.__getattribute__")))
    (xk9 : PySem.W.findIn K (.ref C9) "__getattr__" = some none)
    (xs9 : PySem.W.subIn K (.ref C9) (.type "BaseException") = some true)
    (xd9 : PySem.W.hasDictIn K C9 = true)
    (xa9 : PySem.W.findIn K (.ref C9) "__class__" = some (some (.builtin "object.__class__")))
    (xm9 : PySem.W.mroIn K C9 (.type "object") = some true)
    (pg11 : PySem.W.plainGet K C11 Str.empty = true)
    (hd11 : PySem.W.hasDictIn K C11 = true)
    (po11 : PySem.W.plainOver K C11 = true)
    (sa11 : PySem.W.findIn K (.ref C11) "__setattr__" = some (some (.builtin "object.__setattr__")))
    (mk11 : PySem.W.makesIn K C11 = true)
    (kc11 : PySem.W.keepIn K (.ref C11) = true)
    (nf11_0 : PySem.W.findIn K (.ref C11) "first" = some none)
    (nf11_1 : PySem.W.findIn K (.ref C11) "many" = some none)
    (ai11 : PySem.W.findIn K (.ref C11) "__init__" = some (some (.ref fi11)))
    (ii11 : PySem.W.isFn K (.ref fi11) = true)
    (li11 : K.lookup fi11 = some ⟨oci11, odi11, .func (PySem.W.fnOf "__init__" "Round.__init__" (defArgs st_Round___init__) (defBody st_Round___init__) (defScope st_Round___init__) .none kVi11 dci11 pmi11 ani11 cdi11 cti11), sli11⟩)
    (di11 : PySem.W.codeIn K cdi11 "Round.__init__" = true)
    (ei11 : PySem.W.keepIn K (.ref fi11) = true)
    (pg12 : PySem.W.plainGet K C12 Str.empty = true)
    (hd12 : PySem.W.hasDictIn K C12 = true)
    (po12 : PySem.W.plainOver K C12 = true)
    (sa12 : PySem.W.findIn K (.ref C12) "__setattr__" = some (some (.builtin "object.__setattr__")))
    (mk12 : PySem.W.makesIn K C12 = true)
    (kc12 : PySem.W.keepIn K (.ref C12) = true)
    (nf12_0 : PySem.W.findIn K (.ref C12) "letter" = some none)
    (nf12_1 : PySem.W.findIn K (.ref C12) "rounds" = some none)
    (ai12 : PySem.W.findIn K (.ref C12) "__init__" = some (some (.ref fi12)))
    (ii12 : PySem.W.isFn K (.ref fi12) = true)
    (li12 : K.lookup fi12 = some ⟨oci12, odi12, .func (PySem.W.fnOf "__init__" "Grows.__init__" (defArgs st_Grows___init__) (defBody st_Grows___init__) (defScope st_Grows___init__) .none kVi12 dci12 pmi12 ani12 cdi12 cti12), sli12⟩)
    (di12 : PySem.W.codeIn K cdi12 "Grows.__init__" = true)
    (ei12 : PySem.W.keepIn K (.ref fi12) = true)
    (a0 : PySem.W.nsIn K mainGlobals "_law_kinds" = some (some (.ref f0)))
    (l0 : K.lookup f0 = some ⟨oc0, od0, .func (PySem.W.fnOf "_law_kinds" "_law_kinds" (defArgs st__law_kinds) (defBody st__law_kinds) (defScope st__law_kinds) .none kV0 dc0 pm0 an0 cd0 ct0), sl0⟩)
    (d0 : PySem.W.codeIn K cd0 "_law_kinds" = true)
    (e0 : PySem.W.keepIn K (.ref f0) = true)
    (a1 : PySem.W.nsIn K mainGlobals "is_whole" = some (some (.ref f1)))
    (l1 : K.lookup f1 = some ⟨oc1, od1, .func (PySem.W.fnOf "is_whole" "is_whole" (defArgs st_is_whole) (defBody st_is_whole) (defScope st_is_whole) .none kV1 dc1 pm1 an1 cd1 ct1), sl1⟩)
    (d1 : PySem.W.codeIn K cd1 "is_whole" = true)
    (e1 : PySem.W.keepIn K (.ref f1) = true)
    (a2 : PySem.W.nsIn K mainGlobals "is_letters" = some (some (.ref f2)))
    (l2 : K.lookup f2 = some ⟨oc2, od2, .func (PySem.W.fnOf "is_letters" "is_letters" (defArgs st_is_letters) (defBody st_is_letters) (defScope st_is_letters) .none kV2 dc2 pm2 an2 cd2 ct2), sl2⟩)
    (d2 : PySem.W.codeIn K cd2 "is_letters" = true)
    (e2 : PySem.W.keepIn K (.ref f2) = true)
    (a3 : PySem.W.nsIn K mainGlobals "round_of" = some (some (.ref f3)))
    (l3 : K.lookup f3 = some ⟨oc3, od3, .func (PySem.W.fnOf "round_of" "round_of" (defArgs st_round_of) (defBody st_round_of) (defScope st_round_of) .none kV3 dc3 pm3 an3 cd3 ct3), sl3⟩)
    (d3 : PySem.W.codeIn K cd3 "round_of" = true)
    (e3 : PySem.W.keepIn K (.ref f3) = true)
    (a4 : PySem.W.nsIn K mainGlobals "vanishing_by" = some (some (.ref f4)))
    (l4 : K.lookup f4 = some ⟨oc4, od4, .func (PySem.W.fnOf "vanishing_by" "vanishing_by" (defArgs st_vanishing_by) (defBody st_vanishing_by) (defScope st_vanishing_by) .none kV4 dc4 pm4 an4 cd4 ct4), sl4⟩)
    (d4 : PySem.W.codeIn K cd4 "vanishing_by" = true)
    (e4 : PySem.W.keepIn K (.ref f4) = true)
    (a5 : PySem.W.nsIn K mainGlobals "sizes_of" = some (some (.ref f5)))
    (l5 : K.lookup f5 = some ⟨oc5, od5, .func (PySem.W.fnOf "sizes_of" "sizes_of" (defArgs st_sizes_of) (defBody st_sizes_of) (defScope st_sizes_of) .none kV5 dc5 pm5 an5 cd5 ct5), sl5⟩)
    (d5 : PySem.W.codeIn K cd5 "sizes_of" = true)
    (e5 : PySem.W.keepIn K (.ref f5) = true)
    (a6 : PySem.W.nsIn K mainGlobals "_law_cell_at" = some (some (.ref f6)))
    (l6 : K.lookup f6 = some ⟨oc6, od6, .func (PySem.W.fnOf "_law_cell_at" "_law_cell_at" (defArgs st__law_cell_at) (defBody st__law_cell_at) (defScope st__law_cell_at) .none kV6 dc6 pm6 an6 cd6 ct6), sl6⟩)
    (d6 : PySem.W.codeIn K cd6 "_law_cell_at" = true)
    (e6 : PySem.W.keepIn K (.ref f6) = true)
    (a7 : PySem.W.nsIn K mainGlobals "_law_draw" = some (some (.ref f7)))
    (l7 : K.lookup f7 = some ⟨oc7, od7, .func (PySem.W.fnOf "_law_draw" "_law_draw" (defArgs st__law_draw) (defBody st__law_draw) (defScope st__law_draw) .none kV7 dc7 pm7 an7 cd7 ct7), sl7⟩)
    (d7 : PySem.W.codeIn K cd7 "_law_draw" = true)
    (e7 : PySem.W.keepIn K (.ref f7) = true)
    (a8 : PySem.W.nsIn K mainGlobals "_law_due_of" = some (some (.ref f8)))
    (l8 : K.lookup f8 = some ⟨oc8, od8, .func (PySem.W.fnOf "_law_due_of" "_law_due_of" (defArgs st__law_due_of) (defBody st__law_due_of) (defScope st__law_due_of) .none kV8 dc8 pm8 an8 cd8 ct8), sl8⟩)
    (d8 : PySem.W.codeIn K cd8 "_law_due_of" = true)
    (e8 : PySem.W.keepIn K (.ref f8) = true)
    (a9 : PySem.W.nsIn K mainGlobals "_law_strange" = some (some (.ref f9)))
    (l9 : K.lookup f9 = some ⟨oc9, od9, .func (PySem.W.fnOf "_law_strange" "_law_strange" (defArgs st__law_strange) (defBody st__law_strange) (defScope st__law_strange) .none kV9 dc9 pm9 an9 cd9 ct9), sl9⟩)
    (d9 : PySem.W.codeIn K cd9 "_law_strange" = true)
    (e9 : PySem.W.keepIn K (.ref f9) = true)
    (a10 : PySem.W.nsIn K mainGlobals "_law_no_texts" = some (some (.ref f10)))
    (l10 : K.lookup f10 = some ⟨oc10, od10, .func (PySem.W.fnOf "_law_no_texts" "_law_no_texts" (defArgs st__law_no_texts) (defBody st__law_no_texts) (defScope st__law_no_texts) .none kV10 dc10 pm10 an10 cd10 ct10), sl10⟩)
    (d10 : PySem.W.codeIn K cd10 "_law_no_texts" = true)
    (e10 : PySem.W.keepIn K (.ref f10) = true)
    (a11 : PySem.W.nsIn K mainGlobals "check_text" = some (some (.ref f11)))
    (l11 : K.lookup f11 = some ⟨oc11, od11, .func (PySem.W.fnOf "check_text" "check_text" (defArgs st_check_text) (defBody st_check_text) (defScope st_check_text) .none kV11 dc11 pm11 an11 cd11 ct11), sl11⟩)
    (d11 : PySem.W.codeIn K cd11 "check_text" = true)
    (e11 : PySem.W.keepIn K (.ref f11) = true)
    (a12 : PySem.W.nsIn K mainGlobals "is_rule" = some (some (.ref f12)))
    (l12 : K.lookup f12 = some ⟨oc12, od12, .func (PySem.W.fnOf "is_rule" "is_rule" (defArgs st_is_rule) (defBody st_is_rule) (defScope st_is_rule) .none kV12 dc12 pm12 an12 cd12 ct12), sl12⟩)
    (d12 : PySem.W.codeIn K cd12 "is_rule" = true)
    (e12 : PySem.W.keepIn K (.ref f12) = true)
    (a13 : PySem.W.nsIn K mainGlobals "lasts" = some (some (.ref f13)))
    (l13 : K.lookup f13 = some ⟨oc13, od13, .func (PySem.W.fnOf "lasts" "lasts" (defArgs st_lasts) (defBody st_lasts) (defScope st_lasts) .none kV13 dc13 pm13 an13 cd13 ct13), sl13⟩)
    (d13 : PySem.W.codeIn K cd13 "lasts" = true)
    (e13 : PySem.W.keepIn K (.ref f13) = true)
    (a14 : PySem.W.nsIn K mainGlobals "reached" = some (some (.ref f14)))
    (l14 : K.lookup f14 = some ⟨oc14, od14, .func (PySem.W.fnOf "reached" "reached" (defArgs st_reached) (defBody st_reached) (defScope st_reached) .none kV14 dc14 pm14 an14 cd14 ct14), sl14⟩)
    (d14 : PySem.W.codeIn K cd14 "reached" = true)
    (e14 : PySem.W.keepIn K (.ref f14) = true)
    (a15 : PySem.W.nsIn K mainGlobals "round_again" = some (some (.ref f15)))
    (l15 : K.lookup f15 = some ⟨oc15, od15, .func (PySem.W.fnOf "round_again" "round_again" (defArgs st_round_again) (defBody st_round_again) (defScope st_round_again) .none kV15 dc15 pm15 an15 cd15 ct15), sl15⟩)
    (d15 : PySem.W.codeIn K cd15 "round_again" = true)
    (e15 : PySem.W.keepIn K (.ref f15) = true)
    (a16 : PySem.W.nsIn K mainGlobals "_law_value" = some (some (.ref f16)))
    (l16 : K.lookup f16 = some ⟨oc16, od16, .func (PySem.W.fnOf "_law_value" "_law_value" (defArgs st__law_value) (defBody st__law_value) (defScope st__law_value) .none kV16 dc16 pm16 an16 cd16 ct16), sl16⟩)
    (d16 : PySem.W.codeIn K cd16 "_law_value" = true)
    (e16 : PySem.W.keepIn K (.ref f16) = true)
    (a17 : PySem.W.nsIn K mainGlobals "check_rules" = some (some (.ref f17)))
    (l17 : K.lookup f17 = some ⟨oc17, od17, .func (PySem.W.fnOf "check_rules" "check_rules" (defArgs st_check_rules) (defBody st_check_rules) (defScope st_check_rules) .none kV17 dc17 pm17 an17 cd17 ct17), sl17⟩)
    (d17 : PySem.W.codeIn K cd17 "check_rules" = true)
    (e17 : PySem.W.keepIn K (.ref f17) = true)
    (a18 : PySem.W.nsIn K mainGlobals "makes_more" = some (some (.ref f18)))
    (l18 : K.lookup f18 = some ⟨oc18, od18, .func (PySem.W.fnOf "makes_more" "makes_more" (defArgs st_makes_more) (defBody st_makes_more) (defScope st_makes_more) .none kV18 dc18 pm18 an18 cd18 ct18), sl18⟩)
    (d18 : PySem.W.codeIn K cd18 "makes_more" = true)
    (e18 : PySem.W.keepIn K (.ref f18) = true)
    (a19 : PySem.W.nsIn K mainGlobals "growing" = some (some (.ref f19)))
    (l19 : K.lookup f19 = some ⟨oc19, od19, .func (PySem.W.fnOf "growing" "growing" (defArgs st_growing) (defBody st_growing) (defScope st_growing) .none kV19 dc19 pm19 an19 cd19 ct19), sl19⟩)
    (d19 : PySem.W.codeIn K cd19 "growing" = true)
    (e19 : PySem.W.keepIn K (.ref f19) = true)
    (a20 : PySem.W.nsIn K mainGlobals "gone_round" = some (some (.ref f20)))
    (l20 : K.lookup f20 = some ⟨oc20, od20, .func (PySem.W.fnOf "gone_round" "gone_round" (defArgs st_gone_round) (defBody st_gone_round) (defScope st_gone_round) .none kV20 dc20 pm20 an20 cd20 ct20), sl20⟩)
    (d20 : PySem.W.codeIn K cd20 "gone_round" = true)
    (e20 : PySem.W.keepIn K (.ref f20) = true)
    (a21 : PySem.W.nsIn K mainGlobals "vanishing" = some (some (.ref f21)))
    (l21 : K.lookup f21 = some ⟨oc21, od21, .func (PySem.W.fnOf "vanishing" "vanishing" (defArgs st_vanishing) (defBody st_vanishing) (defScope st_vanishing) .none kV21 dc21 pm21 an21 cd21 ct21), sl21⟩)
    (d21 : PySem.W.codeIn K cd21 "vanishing" = true)
    (e21 : PySem.W.keepIn K (.ref f21) = true)
    (a22 : PySem.W.nsIn K mainGlobals "check_far" = some (some (.ref f22)))
    (l22 : K.lookup f22 = some ⟨oc22, od22, .func (PySem.W.fnOf "check_far" "check_far" (defArgs st_check_far) (defBody st_check_far) (defScope st_check_far) .none kV22 dc22 pm22 an22 cd22 ct22), sl22⟩)
    (d22 : PySem.W.codeIn K cd22 "check_far" = true)
    (e22 : PySem.W.keepIn K (.ref f22) = true)
    (a23 : PySem.W.findIn K (.ref C12) "shows" = some (some (.ref f23)))
    (i23 : PySem.W.isFn K (.ref f23) = true)
    (l23 : K.lookup f23 = some ⟨oc23, od23, .func (PySem.W.fnOf "shows" "Grows.shows" (defArgs st_Grows_shows) (defBody st_Grows_shows) (defScope st_Grows_shows) .none kV23 dc23 pm23 an23 cd23 ct23), sl23⟩)
    (d23 : PySem.W.codeIn K cd23 "Grows.shows" = true)
    (e23 : PySem.W.keepIn K (.ref f23) = true)
    (a24 : PySem.W.nsIn K mainGlobals "judged" = some (some (.ref f24)))
    (l24 : K.lookup f24 = some ⟨oc24, od24, .func (PySem.W.fnOf "judged" "judged" (defArgs st_judged) (defBody st_judged) (defScope st_judged) .none kV24 dc24 pm24 an24 cd24 ct24), sl24⟩)
    (d24 : PySem.W.codeIn K cd24 "judged" = true)
    (e24 : PySem.W.keepIn K (.ref f24) = true)
    (a25 : PySem.W.nsIn K mainGlobals "long_behind" = some (some (.ref f25)))
    (l25 : K.lookup f25 = some ⟨oc25, od25, .func (PySem.W.fnOf "long_behind" "long_behind" (defArgs st_long_behind) (defBody st_long_behind) (defScope st_long_behind) .none kV25 dc25 pm25 an25 cd25 ct25), sl25⟩)
    (d25 : PySem.W.codeIn K cd25 "long_behind" = true)
    (e25 : PySem.W.keepIn K (.ref f25) = true)
    (a26 : PySem.W.nsIn K mainGlobals "letter_at" = some (some (.ref f26)))
    (l26 : K.lookup f26 = some ⟨oc26, od26, .func (PySem.W.fnOf "letter_at" "letter_at" (defArgs st_letter_at) (defBody st_letter_at) (defScope st_letter_at) .none kV26 dc26 pm26 an26 cd26 ct26), sl26⟩)
    (d26 : PySem.W.codeIn K cd26 "letter_at" = true)
    (e26 : PySem.W.keepIn K (.ref f26) = true)
    (a27 : PySem.W.findIn K (.ref C11) "shows" = some (some (.ref f27)))
    (i27 : PySem.W.isFn K (.ref f27) = true)
    (l27 : K.lookup f27 = some ⟨oc27, od27, .func (PySem.W.fnOf "shows" "Round.shows" (defArgs st_Round_shows) (defBody st_Round_shows) (defScope st_Round_shows) .none kV27 dc27 pm27 an27 cd27 ct27), sl27⟩)
    (d27 : PySem.W.codeIn K cd27 "Round.shows" = true)
    (e27 : PySem.W.keepIn K (.ref f27) = true)
    (a28 : PySem.W.nsIn K mainGlobals "_law_rules_right" = some (some (.ref f28)))
    (l28 : K.lookup f28 = some ⟨oc28, od28, .func (PySem.W.fnOf "_law_rules_right" "_law_rules_right" (defArgs st__law_rules_right) (defBody st__law_rules_right) (defScope st__law_rules_right) .none kV28 dc28 pm28 an28 (.ref cc28) ct28), sl28⟩)
    (d28 : PySem.W.codeIn K (.ref cc28) "_law_rules_right" = true)
    (m28 : K.lookup cc28 = some ⟨mo28, md28, .fields vs28, ms28⟩)
    (q28 : (vs28[11]? : Option Value) = some (.ref pp28))
    (r28 : PySem.W.CodeHd h cc28 pp28)
    (t28 : h.get? pp28 = some { cls := .none, data := .fields #[] })
    (n28 : K.lookup pp28 = none)
    (e28 : PySem.W.keepIn K (.ref f28) = true)
    (a29 : PySem.W.nsIn K mainGlobals "_law_right" = some (some (.ref f29)))
    (l29 : K.lookup f29 = some ⟨oc29, od29, .func (PySem.W.fnOf "_law_right" "_law_right" (defArgs st__law_right) (defBody st__law_right) (defScope st__law_right) .none kV29 dc29 pm29 an29 (.ref cc29) ct29), sl29⟩)
    (d29 : PySem.W.codeIn K (.ref cc29) "_law_right" = true)
    (m29 : K.lookup cc29 = some ⟨mo29, md29, .fields vs29, ms29⟩)
    (q29 : (vs29[11]? : Option Value) = some (.ref pp29))
    (r29 : PySem.W.CodeHd h cc29 pp29)
    (t29 : h.get? pp29 = some { cls := .none, data := .fields #[] })
    (n29 : K.lookup pp29 = none)
    (e29 : PySem.W.keepIn K (.ref f29) = true)
    (a30 : PySem.W.nsIn K mainGlobals "law" = some (some (.ref f30)))
    (l30 : K.lookup f30 = some ⟨oc30, od30, .func (PySem.W.fnOf "law" "law" (defArgs st_law) (defBody st_law) (defScope st_law) .none kV30 dc30 pm30 an30 cd30 ct30), sl30⟩)
    (d30 : PySem.W.codeIn K cd30 "law" = true)
    (e30 : PySem.W.keepIn K (.ref f30) = true)
    (ndT : ([pp28, pp29] : List Addr).Nodup) :
    ∃ (fd : FuncData) (cs : List (Addr × Addr)), (∀ p ∈ cs, h.get? p.2 = some { cls := .none, data := .fields #[] }) ∧ (∀ p ∈ cs, K.lookup p.2 = none) ∧ (∀ p ∈ cs, PySem.W.CodeHd h p.1 p.2) ∧ (∀ (s : Shared) (v : Value), BindsTo s fd ⟨[v], []⟩ [("_law_script", v)]) ∧ ∀ base : Heap, K.In base → base.Ns mainGlobals mg → (∀ p ∈ cs, LamX.TabB base mg p.1 p.2) → FnOk P w K mg base (L2.CX P w) 9 fa fd ["_law_script"] (spLawT K cs) := by
  have e := hfa.symm.trans (PySem.W.mg_of X G a30)
  cases e
  let cm : Nat → Addr := cmOf [0, C1, C2, C3, C4, C5, C6, C7, C8, C9, 0, C11, C12, f20, f24, pp28, pp29]
  have T : Txt K mg cm := { b_BadMany := b_BadMany, b_BadPlace := b_BadPlace, b_BadRules := b_BadRules, b_BadText := b_BadText, b_ChangeError := b_ChangeError, c_BadMany := PySem.W.mg_of X G c_BadMany, c_BadPlace := PySem.W.mg_of X G c_BadPlace, c_BadPut := PySem.W.mg_of X G c_BadPut, c_BadRows := PySem.W.mg_of X G c_BadRows, c_BadRules := PySem.W.mg_of X G c_BadRules, c_BadText := PySem.W.mg_of X G c_BadText, c_BadWord := PySem.W.mg_of X G c_BadWord, c_ChangeError := PySem.W.mg_of X G c_ChangeError, c_Grows := PySem.W.mg_of X G c_Grows, c_Round := PySem.W.mg_of X G c_Round, c_TooLong := PySem.W.mg_of X G c_TooLong, d_gone_round := PySem.W.mg_of X G a20, d_judged := PySem.W.mg_of X G a24, excs := (List.forall_mem_cons.mpr ⟨excc_mk xg2 xk2 xs2 xd2 xa2 xn xt xm2, (List.forall_mem_cons.mpr ⟨excc_mk xg3 xk3 xs3 xd3 xa3 xn xt xm3, (List.forall_mem_cons.mpr ⟨excc_mk xg4 xk4 xs4 xd4 xa4 xn xt xm4, (List.forall_mem_cons.mpr ⟨excc_mk xg6 xk6 xs6 xd6 xa6 xn xt xm6, (List.forall_mem_cons.mpr ⟨excc_mk xg7 xk7 xs7 xd7 xa7 xn xt xm7, (List.forall_mem_cons.mpr ⟨excc_mk xg8 xk8 xs8 xd8 xa8 xn xt xm8, (List.forall_mem_cons.mpr ⟨excc_mk xg9 xk9 xs9 xd9 xa9 xn xt xm9, (fun _ h => nomatch h)⟩)⟩)⟩)⟩)⟩)⟩)⟩), g_LETTERS := ⟨_, PySem.W.mg_of X G g_LETTERS⟩, g_LONGEST := ⟨_, PySem.W.mg_of X G g_LONGEST⟩, g_MOST_PUT := ⟨_, PySem.W.mg_of X G g_MOST_PUT⟩, g_MOST_ROUNDS := ⟨_, PySem.W.mg_of X G g_MOST_ROUNDS⟩, g_MOST_RULES := ⟨_, PySem.W.mg_of X G g_MOST_RULES⟩, k_BadMany := k_BadMany, k_BadPlace := k_BadPlace, k_BadRules := k_BadRules, k_BadText := k_BadText, ob_Grows := ⟨⟨pg12, hd12, po12, sa12⟩, nf12_0, nf12_1⟩, ob_Round := ⟨⟨pg11, hd11, po11, sa11⟩, nf11_0, nf11_1⟩, subs := (List.forall_mem_cons.mpr ⟨⟨sb2_2, ic2, tc2, sb2_2⟩, (List.forall_mem_cons.mpr ⟨⟨sb2_1, ic1, tc1, sb2_2⟩, (List.forall_mem_cons.mpr ⟨⟨sb3_3, ic3, tc3, sb3_3⟩, (List.forall_mem_cons.mpr ⟨⟨sb3_1, ic1, tc1, sb3_3⟩, (List.forall_mem_cons.mpr ⟨⟨sb4_4, ic4, tc4, sb4_4⟩, (List.forall_mem_cons.mpr ⟨⟨sb4_1, ic1, tc1, sb4_4⟩, (List.forall_mem_cons.mpr ⟨⟨sb6_6, ic6, tc6, sb6_6⟩, (List.forall_mem_cons.mpr ⟨⟨sb6_1, ic1, tc1, sb6_6⟩, (List.forall_mem_cons.mpr ⟨⟨sb7_7, ic7, tc7, sb7_7⟩, (List.forall_mem_cons.mpr ⟨⟨sb7_1, ic1, tc1, sb7_7⟩, (List.forall_mem_cons.mpr ⟨⟨sb8_8, ic8, tc8, sb8_8⟩, (List.forall_mem_cons.mpr ⟨⟨sb8_1, ic1, tc1, sb8_8⟩, (List.forall_mem_cons.mpr ⟨⟨sb9_9, ic9, tc9, sb9_9⟩, (List.forall_mem_cons.mpr ⟨⟨sb9_1, ic1, tc1, sb9_9⟩, (List.forall_mem_cons.mpr ⟨⟨sb3_2, ic2, tc2, sb3_3⟩, (List.forall_mem_cons.mpr ⟨⟨sb4_2, ic2, tc2, sb4_4⟩, (List.forall_mem_cons.mpr ⟨⟨sb6_2, ic2, tc2, sb6_6⟩, (List.forall_mem_cons.mpr ⟨⟨sb7_2, ic2, tc2, sb7_7⟩, (List.forall_mem_cons.mpr ⟨⟨sb8_2, ic2, tc2, sb8_8⟩, (List.forall_mem_cons.mpr ⟨⟨sb9_2, ic2, tc2, sb9_9⟩, (List.forall_mem_cons.mpr ⟨⟨sb2_3, ic3, tc3, sb2_2⟩, (List.forall_mem_cons.mpr ⟨⟨sb4_3, ic3, tc3, sb4_4⟩, (List.forall_mem_cons.mpr ⟨⟨sb6_3, ic3, tc3, sb6_6⟩, (List.forall_mem_cons.mpr ⟨⟨sb7_3, ic3, tc3, sb7_7⟩, (List.forall_mem_cons.mpr ⟨⟨sb8_3, ic3, tc3, sb8_8⟩, (List.forall_mem_cons.mpr ⟨⟨sb9_3, ic3, tc3, sb9_9⟩, (List.forall_mem_cons.mpr ⟨⟨sb2_4, ic4, tc4, sb2_2⟩, (List.forall_mem_cons.mpr ⟨⟨sb3_4, ic4, tc4, sb3_3⟩, (List.forall_mem_cons.mpr ⟨⟨sb6_4, ic4, tc4, sb6_6⟩, (List.forall_mem_cons.mpr ⟨⟨sb7_4, ic4, tc4, sb7_7⟩, (List.forall_mem_cons.mpr ⟨⟨sb8_4, ic4, tc4, sb8_8⟩, (List.forall_mem_cons.mpr ⟨⟨sb9_4, ic4, tc4, sb9_9⟩, (List.forall_mem_cons.mpr ⟨⟨sb2_5, ic5, tc5, sb2_2⟩, (List.forall_mem_cons.mpr ⟨⟨sb3_5, ic5, tc5, sb3_3⟩, (List.forall_mem_cons.mpr ⟨⟨sb4_5, ic5, tc5, sb4_4⟩, (List.forall_mem_cons.mpr ⟨⟨sb6_5, ic5, tc5, sb6_6⟩, (List.forall_mem_cons.mpr ⟨⟨sb7_5, ic5, tc5, sb7_7⟩, (List.forall_mem_cons.mpr ⟨⟨sb8_5, ic5, tc5, sb8_8⟩, (List.forall_mem_cons.mpr ⟨⟨sb9_5, ic5, tc5, sb9_9⟩, (List.forall_mem_cons.mpr ⟨⟨sb2_6, ic6, tc6, sb2_2⟩, (List.forall_mem_cons.mpr ⟨⟨sb3_6, ic6, tc6, sb3_3⟩, (List.forall_mem_cons.mpr ⟨⟨sb4_6, ic6, tc6, sb4_4⟩, (List.forall_mem_cons.mpr ⟨⟨sb7_6, ic6, tc6, sb7_7⟩, (List.forall_mem_cons.mpr ⟨⟨sb8_6, ic6, tc6, sb8_8⟩, (List.forall_mem_cons.mpr ⟨⟨sb9_6, ic6, tc6, sb9_9⟩, (List.forall_mem_cons.mpr ⟨⟨sb2_7, ic7, tc7, sb2_2⟩, (List.forall_mem_cons.mpr ⟨⟨sb3_7, ic7, tc7, sb3_3⟩, (List.forall_mem_cons.mpr ⟨⟨sb4_7, ic7, tc7, sb4_4⟩, (List.forall_mem_cons.mpr ⟨⟨sb6_7, ic7, tc7, sb6_6⟩, (List.forall_mem_cons.mpr ⟨⟨sb8_7, ic7, tc7, sb8_8⟩, (List.forall_mem_cons.mpr ⟨⟨sb9_7, ic7, tc7, sb9_9⟩, (List.forall_mem_cons.mpr ⟨⟨sb2_8, ic8, tc8, sb2_2⟩, (List.forall_mem_cons.mpr ⟨⟨sb3_8, ic8, tc8, sb3_3⟩, (List.forall_mem_cons.mpr ⟨⟨sb4_8, ic8, tc8, sb4_4⟩, (List.forall_mem_cons.mpr ⟨⟨sb6_8, ic8, tc8, sb6_6⟩, (List.forall_mem_cons.mpr ⟨⟨sb7_8, ic8, tc8, sb7_7⟩, (List.forall_mem_cons.mpr ⟨⟨sb9_8, ic8, tc8, sb9_9⟩, (List.forall_mem_cons.mpr ⟨⟨sb2_9, ic9, tc9, sb2_2⟩, (List.forall_mem_cons.mpr ⟨⟨sb3_9, ic9, tc9, sb3_3⟩, (List.forall_mem_cons.mpr ⟨⟨sb4_9, ic9, tc9, sb4_4⟩, (List.forall_mem_cons.mpr ⟨⟨sb6_9, ic9, tc9, sb6_6⟩, (List.forall_mem_cons.mpr ⟨⟨sb7_9, ic9, tc9, sb7_7⟩, (List.forall_mem_cons.mpr ⟨⟨sb8_9, ic9, tc9, sb8_8⟩, (fun _ h => nomatch h)⟩)⟩)⟩)⟩)⟩)⟩)⟩)⟩)⟩)⟩)⟩)⟩)⟩)⟩)⟩)⟩)⟩)⟩)⟩)⟩)⟩)⟩)⟩)⟩)⟩)⟩)⟩)⟩)⟩)⟩)⟩)⟩)⟩)⟩)⟩)⟩)⟩)⟩)⟩)⟩)⟩)⟩)⟩)⟩)⟩)⟩)⟩)⟩)⟩)⟩)⟩)⟩)⟩)⟩)⟩)⟩)⟩)⟩)⟩)⟩)⟩)⟩)⟩), t_BadMany := t_BadMany, t_BadPlace := t_BadPlace, t_BadRules := t_BadRules, t_BadText := t_BadText, tys := (List.forall_mem_cons.mpr ⟨⟨by decide, st2_ValueError⟩, (List.forall_mem_cons.mpr ⟨⟨by decide, st3_ValueError⟩, (List.forall_mem_cons.mpr ⟨⟨by decide, st4_ValueError⟩, (List.forall_mem_cons.mpr ⟨⟨by decide, st6_ValueError⟩, (List.forall_mem_cons.mpr ⟨⟨by decide, st7_ValueError⟩, (List.forall_mem_cons.mpr ⟨⟨by decide, st8_ValueError⟩, (List.forall_mem_cons.mpr ⟨⟨by decide, st9_ValueError⟩, (fun _ h => nomatch h)⟩)⟩)⟩)⟩)⟩)⟩)⟩), x_BadMany := x_BadMany, x_BadPlace := x_BadPlace, x_BadRules := x_BadRules, x_BadText := x_BadText, z_ValueError := PySem.W.mg_none_of X G z_ValueError, z_all := PySem.W.mg_none_of X G z_all, z_any := PySem.W.mg_none_of X G z_any, z_bool := PySem.W.mg_none_of X G z_bool, z_dict := PySem.W.mg_none_of X G z_dict, z_int := PySem.W.mg_none_of X G z_int, z_isinstance := PySem.W.mg_none_of X G z_isinstance, z_len := PySem.W.mg_none_of X G z_len, z_list := PySem.W.mg_none_of X G z_list, z_range := PySem.W.mg_none_of X G z_range, z_set := PySem.W.mg_none_of X G z_set, z_sorted := PySem.W.mg_none_of X G z_sorted, z_str := PySem.W.mg_none_of X G z_str, z_sum := PySem.W.mg_none_of X G z_sum, z_tuple := PySem.W.mg_none_of X G z_tuple, z_zip := PySem.W.mg_none_of X G z_zip }
  refine ⟨PySem.W.fnOf "law" "law" (defArgs st_law) (defBody st_law) (defScope st_law) .none kV30 dc30 pm30 an30 cd30 ct30, [(cc28, pp28), (cc29, pp29)], (List.forall_mem_cons.mpr ⟨t28, (List.forall_mem_cons.mpr ⟨t29, (fun _ h => nomatch h)⟩)⟩), (List.forall_mem_cons.mpr ⟨n28, (List.forall_mem_cons.mpr ⟨n29, (fun _ h => nomatch h)⟩)⟩), (List.forall_mem_cons.mpr ⟨r28, (List.forall_mem_cons.mpr ⟨r29, (fun _ h => nomatch h)⟩)⟩), fun s v => .of_eq rfl, fun base _ _ tbs => ?_⟩
  have TB28 : LamX.TabB base mg cc28 pp28 := tbs (cc28, pp28) (by simp)
  have TB29 : LamX.TabB base mg cc29 pp29 := tbs (cc29, pp29) (by simp)
  have Fi11 := fun_mk (st := st_Round___init__) li11 di11 ei11
  have c_Round : Kls P w K mg base cm 1 11 "Round" ["first", "many"] := ⟨_, _, _, ⟨mk11, ai11, ii11, kc11⟩, ok_Round___init__ T Fi11, PySem.W.mg_of X G c_Round, Fi11.binds fun _ _ _ _ _ _ us hl => match us, hl with | [_, _, _], _ => rfl⟩
  have Fi12 := fun_mk (st := st_Grows___init__) li12 di12 ei12
  have c_Grows : Kls P w K mg base cm 1 12 "Grows" ["letter", "rounds"] := ⟨_, _, _, ⟨mk12, ai12, ii12, kc12⟩, ok_Grows___init__ T Fi12, PySem.W.mg_of X G c_Grows, Fi12.binds fun _ _ _ _ _ _ us hl => match us, hl with | [_, _, _], _ => rfl⟩
  have F0 := fun_mk (st := st__law_kinds) l0 d0 e0
  have c__law_kinds := ok__law_kinds (P := P) (w := w) (base := base) T (PySem.W.mg_of X G a0) e0 l0 d0 (F0.binds fun _ _ _ _ _ _ us hl => match us, hl with | [_], _ => rfl)
  have F1 := fun_mk (st := st_is_whole) l1 d1 e1
  have G1 : FnOk P w K mg base (L2.CX P w) 1 f1 _ ["thing"] (spV cm K 1 F_is_whole) := ok_is_whole T F1
  have c_is_whole : Fn P w K mg base cm 1 "is_whole" 1 F_is_whole := ⟨_, _, _, rfl, G1, PySem.W.mg_of X G a1, e1, F1.binds fun _ _ _ _ _ _ us hl => match us, hl with | [_], _ => rfl⟩
  have F2 := fun_mk (st := st_is_letters) l2 d2 e2
  have G2 : FnOk P w K mg base (L2.CX P w) 1 f2 _ ["thing", "least", "most"] (spV cm K 3 F_is_letters) := ok_is_letters T F2
  have c_is_letters : Fn P w K mg base cm 1 "is_letters" 3 F_is_letters := ⟨_, _, _, rfl, G2, PySem.W.mg_of X G a2, e2, F2.binds fun _ _ _ _ _ _ us hl => match us, hl with | [_, _, _], _ => rfl⟩
  have F3 := fun_mk (st := st_round_of) l3 d3 e3
  have G3 : FnOk P w K mg base (L2.CX P w) 1 f3 _ ["text", "rules"] (spV cm K 2 F_round_of) := ok_round_of T F3
  have c_round_of : Fn P w K mg base cm 1 "round_of" 2 F_round_of := ⟨_, _, _, rfl, G3, PySem.W.mg_of X G a3, e3, F3.binds fun _ _ _ _ _ _ us hl => match us, hl with | [_, _], _ => rfl⟩
  have F4 := fun_mk (st := st_vanishing_by) l4 d4 e4
  have G4 : FnOk P w K mg base (L2.CX P w) 1 f4 _ ["rules"] (spV cm K 1 F_vanishing_by) := ok_vanishing_by T F4
  have c_vanishing_by : Fn P w K mg base cm 1 "vanishing_by" 1 F_vanishing_by := ⟨_, _, _, rfl, G4, PySem.W.mg_of X G a4, e4, F4.binds fun _ _ _ _ _ _ us hl => match us, hl with | [_], _ => rfl⟩
  have F5 := fun_mk (st := st_sizes_of) l5 d5 e5
  have G5 : FnOk P w K mg base (L2.CX P w) 1 f5 _ ["rules", "many"] (spV cm K 2 F_sizes_of) := ok_sizes_of T F5
  have c_sizes_of : Fn P w K mg base cm 1 "sizes_of" 2 F_sizes_of := ⟨_, _, _, rfl, G5, PySem.W.mg_of X G a5, e5, F5.binds fun _ _ _ _ _ _ us hl => match us, hl with | [_, _], _ => rfl⟩
  have F6 := fun_mk (st := st__law_cell_at) l6 d6 e6
  have G6 : FnOk P w K mg base (L2.CX P w) 1 f6 _ ["_law_script", "_law_k"] (spV cm K 2 F__law_cell_at) := ok__law_cell_at T F6
  have c__law_cell_at : Fn P w K mg base cm 1 "_law_cell_at" 2 F__law_cell_at := ⟨_, _, _, rfl, G6, PySem.W.mg_of X G a6, e6, F6.binds fun _ _ _ _ _ _ us hl => match us, hl with | [_, _], _ => rfl⟩
  have F7 := fun_mk (st := st__law_draw) l7 d7 e7
  have G7 : FnOk P w K mg base (L2.CX P w) 1 f7 _ ["_law_cell", "_law_k", "_law_many"] (spV cm K 3 F__law_draw) := ok__law_draw T F7
  have c__law_draw : Fn P w K mg base cm 1 "_law_draw" 3 F__law_draw := ⟨_, _, _, rfl, G7, PySem.W.mg_of X G a7, e7, F7.binds fun _ _ _ _ _ _ us hl => match us, hl with | [_, _, _], _ => rfl⟩
  have F8 := fun_mk (st := st__law_due_of) l8 d8 e8
  have G8 : FnOk P w K mg base (L2.CX P w) 1 f8 _ ["_law_at"] (spV cm K 1 F__law_due_of) := ok__law_due_of T F8
  have c__law_due_of : Fn P w K mg base cm 1 "_law_due_of" 1 F__law_due_of := ⟨_, _, _, rfl, G8, PySem.W.mg_of X G a8, e8, F8.binds fun _ _ _ _ _ _ us hl => match us, hl with | [_], _ => rfl⟩
  have F9 := fun_mk (st := st__law_strange) l9 d9 e9
  have G9 : FnOk P w K mg base (L2.CX P w) 1 f9 _ ["_law_far"] (spV cm K 1 F__law_strange) := ok__law_strange T F9
  have c__law_strange : Fn P w K mg base cm 1 "_law_strange" 1 F__law_strange := ⟨_, _, _, rfl, G9, PySem.W.mg_of X G a9, e9, F9.binds fun _ _ _ _ _ _ us hl => match us, hl with | [_], _ => rfl⟩
  have F10 := fun_mk (st := st__law_no_texts) l10 d10 e10
  have G10 : FnOk P w K mg base (L2.CX P w) 1 f10 _ ["_law_far", "_law_most"] (spV cm K 2 F__law_no_texts) := ok__law_no_texts T F10
  have c__law_no_texts : Fn P w K mg base cm 1 "_law_no_texts" 2 F__law_no_texts := ⟨_, _, _, rfl, G10, PySem.W.mg_of X G a10, e10, F10.binds fun _ _ _ _ _ _ us hl => match us, hl with | [_, _], _ => rfl⟩
  have F11 := fun_mk (st := st_check_text) l11 d11 e11
  have G11 : FnOk P w K mg base (L2.CX P w) 2 f11 _ ["text", "most"] (spV cm K 2 F_check_text) := ok_check_text T F11 c_is_letters
  have c_check_text : Fn P w K mg base cm 2 "check_text" 2 F_check_text := ⟨_, _, _, rfl, G11, PySem.W.mg_of X G a11, e11, F11.binds fun _ _ _ _ _ _ us hl => match us, hl with | [_, _], _ => rfl⟩
  have F12 := fun_mk (st := st_is_rule) l12 d12 e12
  have G12 : FnOk P w K mg base (L2.CX P w) 2 f12 _ ["thing"] (spV cm K 1 F_is_rule) := ok_is_rule T F12 c_is_letters
  have c_is_rule : Fn P w K mg base cm 2 "is_rule" 1 F_is_rule := ⟨_, _, _, rfl, G12, PySem.W.mg_of X G a12, e12, F12.binds fun _ _ _ _ _ _ us hl => match us, hl with | [_], _ => rfl⟩
  have F13 := fun_mk (st := st_lasts) l13 d13 e13
  have G13 : FnOk P w K mg base (L2.CX P w) 2 f13 _ ["rules", "text"] (spV cm K 2 F_lasts) := ok_lasts T F13 c_vanishing_by
  have c_lasts : Fn P w K mg base cm 2 "lasts" 2 F_lasts := ⟨_, _, _, rfl, G13, PySem.W.mg_of X G a13, e13, F13.binds fun _ _ _ _ _ _ us hl => match us, hl with | [_, _], _ => rfl⟩
  have F14 := fun_mk (st := st_reached) l14 d14 e14
  have G14 : FnOk P w K mg base (L2.CX P w) 2 f14 _ ["text", "rules"] (spV cm K 2 F_reached) := ok_reached T F14 c_round_of
  have c_reached : Fn P w K mg base cm 2 "reached" 2 F_reached := ⟨_, _, _, rfl, G14, PySem.W.mg_of X G a14, e14, F14.binds fun _ _ _ _ _ _ us hl => match us, hl with | [_, _], _ => rfl⟩
  have F15 := fun_mk (st := st_round_again) l15 d15 e15
  have G15 : FnOk P w K mg base (L2.CX P w) 2 f15 _ ["text", "rules"] (spV cm K 2 F_round_again) := ok_round_again T F15 c_round_of
  have c_round_again : Fn P w K mg base cm 2 "round_again" 2 F_round_again := ⟨_, _, _, rfl, G15, PySem.W.mg_of X G a15, e15, F15.binds fun _ _ _ _ _ _ us hl => match us, hl with | [_, _], _ => rfl⟩
  have F16 := fun_mk (st := st__law_value) l16 d16 e16
  have G16 : FnOk P w K mg base (L2.CX P w) 2 f16 _ ["_law_cell", "_law_turn"] (spV cm K 2 F__law_value) := ok__law_value T F16 c__law_draw
  have c__law_value : Fn P w K mg base cm 2 "_law_value" 2 F__law_value := ⟨_, _, _, rfl, G16, PySem.W.mg_of X G a16, e16, F16.binds fun _ _ _ _ _ _ us hl => match us, hl with | [_, _], _ => rfl⟩
  have F17 := fun_mk (st := st_check_rules) l17 d17 e17
  have G17 : FnOk P w K mg base (L2.CX P w) 3 f17 _ ["rules"] (spV cm K 1 F_check_rules) := ok_check_rules T F17 c_is_rule
  have c_check_rules : Fn P w K mg base cm 3 "check_rules" 1 F_check_rules := ⟨_, _, _, rfl, G17, PySem.W.mg_of X G a17, e17, F17.binds fun _ _ _ _ _ _ us hl => match us, hl with | [_], _ => rfl⟩
  have F18 := fun_mk (st := st_makes_more) l18 d18 e18
  have G18 : FnOk P w K mg base (L2.CX P w) 3 f18 _ ["letter", "rules", "rounds"] (spV cm K 3 F_makes_more) := ok_makes_more T F18 c_round_of c_lasts
  have c_makes_more : Fn P w K mg base cm 3 "makes_more" 3 F_makes_more := ⟨_, _, _, rfl, G18, PySem.W.mg_of X G a18, e18, F18.binds fun _ _ _ _ _ _ us hl => match us, hl with | [_, _, _], _ => rfl⟩
  have F19 := fun_mk (st := st_growing) l19 d19 e19
  have G19 : FnOk P w K mg base (L2.CX P w) 4 f19 _ ["text", "rules"] (spV cm K 2 F_growing) := ok_growing T F19 c_reached c_makes_more
  have c_growing : Fn P w K mg base cm 4 "growing" 2 F_growing := ⟨_, _, _, rfl, G19, PySem.W.mg_of X G a19, e19, F19.binds fun _ _ _ _ _ _ us hl => match us, hl with | [_, _], _ => rfl⟩
  have F20 := fun_mk (st := st_gone_round) l20 d20 e20
  have G20 : FnOk P w K mg base (L2.CX P w) 4 f20 _ ["text", "rules"] (spV cm K 2 F_gone_round) := ok_gone_round T F20 c_check_text c_check_rules c_round_of
  have l_gone_round : FnL P w K mg base cm 4 13 2 F_gone_round := ⟨_, _, _, Nat.le_refl _, G20, e20, F20.binds fun _ _ _ _ _ _ us hl => match us, hl with | [_, _], _ => rfl⟩
  have c_gone_round : Fn P w K mg base cm 4 "gone_round" 2 F_gone_round := ⟨_, _, _, rfl, G20, PySem.W.mg_of X G a20, e20, F20.binds fun _ _ _ _ _ _ us hl => match us, hl with | [_, _], _ => rfl⟩
  have F21 := fun_mk (st := st_vanishing) l21 d21 e21
  have G21 : FnOk P w K mg base (L2.CX P w) 4 f21 _ ["rules"] (spV cm K 1 F_vanishing) := ok_vanishing T F21 c_check_rules c_vanishing_by
  have c_vanishing : Fn P w K mg base cm 4 "vanishing" 1 F_vanishing := ⟨_, _, _, rfl, G21, PySem.W.mg_of X G a21, e21, F21.binds fun _ _ _ _ _ _ us hl => match us, hl with | [_], _ => rfl⟩
  have F22 := fun_mk (st := st_check_far) l22 d22 e22
  have G22 : FnOk P w K mg base (L2.CX P w) 4 f22 _ ["text", "rules", "many"] (spV cm K 3 F_check_far) := ok_check_far T F22 c_check_text c_check_rules c_is_whole
  have c_check_far : Fn P w K mg base cm 4 "check_far" 3 F_check_far := ⟨_, _, _, rfl, G22, PySem.W.mg_of X G a22, e22, F22.binds fun _ _ _ _ _ _ us hl => match us, hl with | [_, _, _], _ => rfl⟩
  have F23 := fun_mk (st := st_Grows_shows) l23 d23 e23
  have G23 : FnOk P w K mg base (L2.CX P w) 4 f23 _ ["self", "text", "rules"] (spV cm K 3 F_Grows_shows) := ok_Grows_shows T F23 c_reached c_makes_more
  have c_Grows_shows : Mth P w K mg base cm 4 12 "shows" 2 F_Grows_shows := ⟨_, _, _, ⟨pg12, hd12, po12, sa12⟩, ⟨a23, i23, e23⟩, rfl, G23, F23.binds fun _ _ _ _ _ _ us hl => match us, hl with | [_, _, _], _ => rfl⟩
  have F24 := fun_mk (st := st_judged) l24 d24 e24
  have G24 : FnOk P w K mg base (L2.CX P w) 5 f24 _ ["text", "rules"] (spV cm K 2 F_judged) := ok_judged T F24 c_check_text c_check_rules c_growing c_Grows c_round_again c_Round
  have l_judged : FnL P w K mg base cm 5 14 2 F_judged := ⟨_, _, _, Nat.le_refl _, G24, e24, F24.binds fun _ _ _ _ _ _ us hl => match us, hl with | [_, _], _ => rfl⟩
  have c_judged : Fn P w K mg base cm 5 "judged" 2 F_judged := ⟨_, _, _, rfl, G24, PySem.W.mg_of X G a24, e24, F24.binds fun _ _ _ _ _ _ us hl => match us, hl with | [_, _], _ => rfl⟩
  have F25 := fun_mk (st := st_long_behind) l25 d25 e25
  have G25 : FnOk P w K mg base (L2.CX P w) 5 f25 _ ["text", "rules", "many"] (spV cm K 3 F_long_behind) := ok_long_behind T F25 c_check_far c_sizes_of
  have c_long_behind : Fn P w K mg base cm 5 "long_behind" 3 F_long_behind := ⟨_, _, _, rfl, G25, PySem.W.mg_of X G a25, e25, F25.binds fun _ _ _ _ _ _ us hl => match us, hl with | [_, _, _], _ => rfl⟩
  have F26 := fun_mk (st := st_letter_at) l26 d26 e26
  have G26 : FnOk P w K mg base (L2.CX P w) 5 f26 _ ["text", "rules", "many", "place"] (spV cm K 4 F_letter_at) := ok_letter_at T F26 c_check_far c_is_whole c_sizes_of
  have c_letter_at : Fn P w K mg base cm 5 "letter_at" 4 F_letter_at := ⟨_, _, _, rfl, G26, PySem.W.mg_of X G a26, e26, F26.binds fun _ _ _ _ _ _ us hl => match us, hl with | [_, _, _, _], _ => rfl⟩
  have F27 := fun_mk (st := st_Round_shows) l27 d27 e27
  have G27 : FnOk P w K mg base (L2.CX P w) 5 f27 _ ["self", "text", "rules"] (spV cm K 3 F_Round_shows) := ok_Round_shows T F27 c_growing c_round_again
  have c_Round_shows : Mth P w K mg base cm 5 11 "shows" 2 F_Round_shows := ⟨_, _, _, ⟨pg11, hd11, po11, sa11⟩, ⟨a27, i27, e27⟩, rfl, G27, F27.binds fun _ _ _ _ _ _ us hl => match us, hl with | [_, _, _], _ => rfl⟩
  have F28 := fun_mk (st := st__law_rules_right) l28 d28 e28
  have G28 := ok__law_rules_right (P := P) (w := w) (base := base) T l28 d28 TB28 c__law_kinds c__law_due_of c_vanishing c_long_behind c_letter_at l_judged l_gone_round
  have c__law_rules_right : FnT P w K mg base cm 8 "_law_rules_right" tsL [false] F__law_rules_right := ⟨_, _, _, G28, PySem.W.mg_of X G a28, e28, F28.binds fun _ _ _ _ _ _ us hl => match us, hl with | [_], _ => rfl⟩
  have F29 := fun_mk (st := st__law_right) l29 d29 e29
  have G29 := ok__law_right (P := P) (w := w) (base := base) T l29 d29 TB29 c__law_no_texts c__law_kinds c__law_due_of c_long_behind c_letter_at c__law_strange l_judged l_gone_round
  have c__law_right : FnT P w K mg base cm 8 "_law_right" tsL [false] F__law_right := ⟨_, _, _, G29, PySem.W.mg_of X G a29, e29, F29.binds fun _ _ _ _ _ _ us hl => match us, hl with | [_], _ => rfl⟩
  have F30 := fun_mk (st := st_law) l30 d30 e30
  have G30 := ok_law (P := P) (w := w) (base := base) T l30 d30 c__law_value c__law_cell_at c__law_rules_right c__law_right c_gone_round c_letter_at c_vanishing
  exact G30.imp fun vs H Q E q => law_impT (cm := cm) (ts := tsL) (φ := F_law) (List.forall_mem_cons.mpr ⟨(show pp28 ∈ _ by simp), (List.forall_mem_cons.mpr ⟨(show pp29 ∈ _ by simp), (fun _ h => nomatch h)⟩)⟩) (inj_nd (show (tsL.map fun p => cm p.1).Nodup from ndT)) (by decide) hl q
end
theorem walk {l : PySem.W.OpenLaw} {q : Program} {loose : List Str} {XP : (Str → Option Value) → Heap → Prop} {YP : World → Heap → Prop} {d : DefRec} {K : Params → PySem.W.Frag} (hn : l.most = some 63) (hdf : d.params.defaults = [])
    (hY : ∀ (w : World) (h : Heap), YP w h → (K w.params).In h)
    (F : ∀ (w : World) (mg : Str → Option Value) (fa : Addr) (h : Heap), YP w h → (K w.params).In h → h.Ns mainGlobals mg → mg d.name = some (.ref fa) →
      ∃ (fd : FuncData) (cs : List (Addr × Addr)), (∀ p ∈ cs, h.get? p.2 = some { cls := .none, data := .fields #[] }) ∧ (∀ p ∈ cs, (K w.params).lookup p.2 = none) ∧ (∀ p ∈ cs, PySem.W.CodeHd h p.1 p.2) ∧ (∀ (s : Shared) (u : Value), BindsTo s fd ⟨[u], []⟩ [("_law_script", u)]) ∧ ∀ base : Heap, (K w.params).In base → base.Ns mainGlobals mg → (∀ p ∈ cs, LamX.TabB base mg p.1 p.2) → FnOk l.prog w (K w.params) mg base (L2.CX l.prog w) 9 fa fd ["_law_script"] (spLawT (K w.params) cs)) :
    PySem.W.WalkO q loose XP YP l.row.toRowW d [] (fun f vs => PySem.call f vs) :=
  LamX.walk_ofTs (n := 63) (k := 9) (x := "_law_script") (CX := fun w => L2.CX l.prog w) hn (by decide) hdf ⟨rfl, by decide, by decide⟩ hY (fun w mg fa h Y KX GX hm => by
    obtain ⟨fd, cs, h1, h2, h3, hb, hF⟩ := F w mg fa h Y KX GX hm
    exact ⟨fd, cs, spLawT (K w.params) cs, h1, h2, h3, hb, fun H a ns l1 l2 hT hs => ⟨a, ns, rfl, hs, l1, l2, hT, fun _ => rfl⟩, hF⟩) fun w H s e s' h => by
    obtain ⟨_, _, _, _, _, _, _, _, _, _, _, _, f⟩ := h
    exact f
end G

/-! ## END10 -/
open PySem PySem.W PyProof.Rows in
set_option maxRecDepth 100000 in
set_option maxHeartbeats 0 in
theorem PySem.Challenge.cw_replaceall_k10_refused_rounds_holds : PySem.Challenge.rw_replaceall_k10_refused_rounds.Holds := by
  w_on; o_law; k_head; (case hw => w_witness2)
  k_fill
  refine G.walk (l := PySem.Challenge.rw_replaceall_k10_refused_rounds) rfl rfl (fun w h Y => PySem.W.km_in_of Y) ?F
  case F =>
    intro w mg fa h Y KX GX hmg
    have tb := PySem.W.km_tabs_of Y
    refine' G.all_mk KX GX hmg G.lawTrue ?c_BadMany ?c_BadPlace ?c_BadPut ?c_BadRows ?c_BadRules ?c_BadText ?c_BadWord ?c_ChangeError ?c_Grows ?c_Round ?c_TooLong ?g_LETTERS ?g_LONGEST ?g_MOST_PUT ?g_MOST_ROUNDS ?g_MOST_RULES ?z_ValueError ?z_all ?z_any ?z_bool ?z_dict ?z_int ?z_isinstance ?z_len ?z_list ?z_range ?z_set ?z_sorted ?z_str ?z_sum ?z_tuple ?z_zip ?b_BadMany ?b_BadPlace ?b_BadRules ?b_BadText ?b_ChangeError ?k_BadMany ?k_BadPlace ?k_BadRules ?k_BadText ?t_BadMany ?t_BadPlace ?t_BadRules ?t_BadText ?x_BadMany ?x_BadPlace ?x_BadRules ?x_BadText ?sb2_2 ?sb2_1 ?sb3_3 ?sb3_1 ?sb4_4 ?sb4_1 ?sb6_6 ?sb6_1 ?sb7_7 ?sb7_1 ?sb8_8 ?sb8_1 ?sb9_9 ?sb9_1 ?sb3_2 ?sb4_2 ?sb6_2 ?sb7_2 ?sb8_2 ?sb9_2 ?sb2_3 ?sb4_3 ?sb6_3 ?sb7_3 ?sb8_3 ?sb9_3 ?sb2_4 ?sb3_4 ?sb6_4 ?sb7_4 ?sb8_4 ?sb9_4 ?sb2_5 ?sb3_5 ?sb4_5 ?sb6_5 ?sb7_5 ?sb8_5 ?sb9_5 ?sb2_6 ?sb3_6 ?sb4_6 ?sb7_6 ?sb8_6 ?sb9_6 ?sb2_7 ?sb3_7 ?sb4_7 ?sb6_7 ?sb8_7 ?sb9_7 ?sb2_8 ?sb3_8 ?sb4_8 ?sb6_8 ?sb7_8 ?sb9_8 ?sb2_9 ?sb3_9 ?sb4_9 ?sb6_9 ?sb7_9 ?sb8_9 ?ic2 ?tc2 ?ic1 ?tc1 ?ic3 ?tc3 ?ic4 ?tc4 ?ic6 ?tc6 ?ic7 ?tc7 ?ic8 ?tc8 ?ic9 ?tc9 ?ic5 ?tc5 ?st2_ValueError ?st3_ValueError ?st4_ValueError ?st6_ValueError ?st7_ValueError ?st8_ValueError ?st9_ValueError ?xn ?xt ?xg2 ?xk2 ?xs2 ?xd2 ?xa2 ?xm2 ?xg3 ?xk3 ?xs3 ?xd3 ?xa3 ?xm3 ?xg4 ?xk4 ?xs4 ?xd4 ?xa4 ?xm4 ?xg6 ?xk6 ?xs6 ?xd6 ?xa6 ?xm6 ?xg7 ?xk7 ?xs7 ?xd7 ?xa7 ?xm7 ?xg8 ?xk8 ?xs8 ?xd8 ?xa8 ?xm8 ?xg9 ?xk9 ?xs9 ?xd9 ?xa9 ?xm9 ?pg11 ?hd11 ?po11 ?sa11 ?mk11 ?kc11 ?nf11_0 ?nf11_1 ?ai11 ?ii11 ?li11 ?di11 ?ei11 ?pg12 ?hd12 ?po12 ?sa12 ?mk12 ?kc12 ?nf12_0 ?nf12_1 ?ai12 ?ii12 ?li12 ?di12 ?ei12 ?a0 ?l0 ?d0 ?e0 ?a1 ?l1 ?d1 ?e1 ?a2 ?l2 ?d2 ?e2 ?a3 ?l3 ?d3 ?e3 ?a4 ?l4 ?d4 ?e4 ?a5 ?l5 ?d5 ?e5 ?a6 ?l6 ?d6 ?e6 ?a7 ?l7 ?d7 ?e7 ?a8 ?l8 ?d8 ?e8 ?a9 ?l9 ?d9 ?e9 ?a10 ?l10 ?d10 ?e10 ?a11 ?l11 ?d11 ?e11 ?a12 ?l12 ?d12 ?e12 ?a13 ?l13 ?d13 ?e13 ?a14 ?l14 ?d14 ?e14 ?a15 ?l15 ?d15 ?e15 ?a16 ?l16 ?d16 ?e16 ?a17 ?l17 ?d17 ?e17 ?a18 ?l18 ?d18 ?e18 ?a19 ?l19 ?d19 ?e19 ?a20 ?l20 ?d20 ?e20 ?a21 ?l21 ?d21 ?e21 ?a22 ?l22 ?d22 ?e22 ?a23 ?i23 ?l23 ?d23 ?e23 ?a24 ?l24 ?d24 ?e24 ?a25 ?l25 ?d25 ?e25 ?a26 ?l26 ?d26 ?e26 ?a27 ?i27 ?l27 ?d27 ?e27 ?a28 ?l28 ?d28 ?m28 ?q28 ?r28 ?t28 ?n28 ?e28 ?a29 ?l29 ?d29 ?m29 ?q29 ?r29 ?t29 ?n29 ?e29 ?a30 ?l30 ?d30 ?e30 ?ndT
    (case c_BadMany => k_is)
    (case c_BadPlace => k_is)
    (case c_BadPut => k_is)
    (case c_BadRows => k_is)
    (case c_BadRules => k_is)
    (case c_BadText => k_is)
    (case c_BadWord => k_is)
    (case c_ChangeError => k_is)
    (case c_Grows => k_is)
    (case c_Round => k_is)
    (case c_TooLong => k_is)
    (case g_LETTERS => k_is)
    (case g_LONGEST => k_is)
    (case g_MOST_PUT => k_is)
    (case g_MOST_ROUNDS => k_is)
    (case g_MOST_RULES => k_is)
    (case z_ValueError => k_is)
    (case z_all => k_is)
    (case z_any => k_is)
    (case z_bool => k_is)
    (case z_dict => k_is)
    (case z_int => k_is)
    (case z_isinstance => k_is)
    (case z_len => k_is)
    (case z_list => k_is)
    (case z_range => k_is)
    (case z_set => k_is)
    (case z_sorted => k_is)
    (case z_str => k_is)
    (case z_sum => k_is)
    (case z_tuple => k_is)
    (case z_zip => k_is)
    (case b_BadMany => k_is)
    (case b_BadPlace => k_is)
    (case b_BadRules => k_is)
    (case b_BadText => k_is)
    (case b_ChangeError => k_is)
    (case k_BadMany => k_is)
    (case k_BadPlace => k_is)
    (case k_BadRules => k_is)
    (case k_BadText => k_is)
    (case t_BadMany => k_is)
    (case t_BadPlace => k_is)
    (case t_BadRules => k_is)
    (case t_BadText => k_is)
    (case x_BadMany => k_exc)
    (case x_BadPlace => k_exc)
    (case x_BadRules => k_exc)
    (case x_BadText => k_exc)
    (case sb2_2 => k_is)
    (case sb2_1 => k_is)
    (case sb3_3 => k_is)
    (case sb3_1 => k_is)
    (case sb4_4 => k_is)
    (case sb4_1 => k_is)
    (case sb6_6 => k_is)
    (case sb6_1 => k_is)
    (case sb7_7 => k_is)
    (case sb7_1 => k_is)
    (case sb8_8 => k_is)
    (case sb8_1 => k_is)
    (case sb9_9 => k_is)
    (case sb9_1 => k_is)
    (case sb3_2 => k_is)
    (case sb4_2 => k_is)
    (case sb6_2 => k_is)
    (case sb7_2 => k_is)
    (case sb8_2 => k_is)
    (case sb9_2 => k_is)
    (case sb2_3 => k_is)
    (case sb4_3 => k_is)
    (case sb6_3 => k_is)
    (case sb7_3 => k_is)
    (case sb8_3 => k_is)
    (case sb9_3 => k_is)
    (case sb2_4 => k_is)
    (case sb3_4 => k_is)
    (case sb6_4 => k_is)
    (case sb7_4 => k_is)
    (case sb8_4 => k_is)
    (case sb9_4 => k_is)
    (case sb2_5 => k_is)
    (case sb3_5 => k_is)
    (case sb4_5 => k_is)
    (case sb6_5 => k_is)
    (case sb7_5 => k_is)
    (case sb8_5 => k_is)
    (case sb9_5 => k_is)
    (case sb2_6 => k_is)
    (case sb3_6 => k_is)
    (case sb4_6 => k_is)
    (case sb7_6 => k_is)
    (case sb8_6 => k_is)
    (case sb9_6 => k_is)
    (case sb2_7 => k_is)
    (case sb3_7 => k_is)
    (case sb4_7 => k_is)
    (case sb6_7 => k_is)
    (case sb8_7 => k_is)
    (case sb9_7 => k_is)
    (case sb2_8 => k_is)
    (case sb3_8 => k_is)
    (case sb4_8 => k_is)
    (case sb6_8 => k_is)
    (case sb7_8 => k_is)
    (case sb9_8 => k_is)
    (case sb2_9 => k_is)
    (case sb3_9 => k_is)
    (case sb4_9 => k_is)
    (case sb6_9 => k_is)
    (case sb7_9 => k_is)
    (case sb8_9 => k_is)
    (case ic2 => k_is)
    (case tc2 => k_is)
    (case ic1 => k_is)
    (case tc1 => k_is)
    (case ic3 => k_is)
    (case tc3 => k_is)
    (case ic4 => k_is)
    (case tc4 => k_is)
    (case ic6 => k_is)
    (case tc6 => k_is)
    (case ic7 => k_is)
    (case tc7 => k_is)
    (case ic8 => k_is)
    (case tc8 => k_is)
    (case ic9 => k_is)
    (case tc9 => k_is)
    (case ic5 => k_is)
    (case tc5 => k_is)
    (case st2_ValueError => k_is)
    (case st3_ValueError => k_is)
    (case st4_ValueError => k_is)
    (case st6_ValueError => k_is)
    (case st7_ValueError => k_is)
    (case st8_ValueError => k_is)
    (case st9_ValueError => k_is)
    (case xn => k_is)
    (case xt => k_is)
    (case xg2 => k_is)
    (case xk2 => k_is)
    (case xs2 => k_is)
    (case xd2 => k_is)
    (case xa2 => k_is)
    (case xm2 => k_is)
    (case xg3 => k_is)
    (case xk3 => k_is)
    (case xs3 => k_is)
    (case xd3 => k_is)
    (case xa3 => k_is)
    (case xm3 => k_is)
    (case xg4 => k_is)
    (case xk4 => k_is)
    (case xs4 => k_is)
    (case xd4 => k_is)
    (case xa4 => k_is)
    (case xm4 => k_is)
    (case xg6 => k_is)
    (case xk6 => k_is)
    (case xs6 => k_is)
    (case xd6 => k_is)
    (case xa6 => k_is)
    (case xm6 => k_is)
    (case xg7 => k_is)
    (case xk7 => k_is)
    (case xs7 => k_is)
    (case xd7 => k_is)
    (case xa7 => k_is)
    (case xm7 => k_is)
    (case xg8 => k_is)
    (case xk8 => k_is)
    (case xs8 => k_is)
    (case xd8 => k_is)
    (case xa8 => k_is)
    (case xm8 => k_is)
    (case xg9 => k_is)
    (case xk9 => k_is)
    (case xs9 => k_is)
    (case xd9 => k_is)
    (case xa9 => k_is)
    (case xm9 => k_is)
    (case pg11 => k_is)
    (case hd11 => k_is)
    (case po11 => k_is)
    (case sa11 => k_is)
    (case mk11 => k_is)
    (case kc11 => k_is)
    (case nf11_0 => k_is)
    (case nf11_1 => k_is)
    (case ai11 => k_is)
    (case ii11 => k_is)
    (case li11 => k_is)
    (case di11 => k_is)
    (case ei11 => k_is)
    (case pg12 => k_is)
    (case hd12 => k_is)
    (case po12 => k_is)
    (case sa12 => k_is)
    (case mk12 => k_is)
    (case kc12 => k_is)
    (case nf12_0 => k_is)
    (case nf12_1 => k_is)
    (case ai12 => k_is)
    (case ii12 => k_is)
    (case li12 => k_is)
    (case di12 => k_is)
    (case ei12 => k_is)
    (case a0 => k_is)
    (case l0 => k_is)
    (case d0 => k_is)
    (case e0 => k_is)
    (case a1 => k_is)
    (case l1 => k_is)
    (case d1 => k_is)
    (case e1 => k_is)
    (case a2 => k_is)
    (case l2 => k_is)
    (case d2 => k_is)
    (case e2 => k_is)
    (case a3 => k_is)
    (case l3 => k_is)
    (case d3 => k_is)
    (case e3 => k_is)
    (case a4 => k_is)
    (case l4 => k_is)
    (case d4 => k_is)
    (case e4 => k_is)
    (case a5 => k_is)
    (case l5 => k_is)
    (case d5 => k_is)
    (case e5 => k_is)
    (case a6 => k_is)
    (case l6 => k_is)
    (case d6 => k_is)
    (case e6 => k_is)
    (case a7 => k_is)
    (case l7 => k_is)
    (case d7 => k_is)
    (case e7 => k_is)
    (case a8 => k_is)
    (case l8 => k_is)
    (case d8 => k_is)
    (case e8 => k_is)
    (case a9 => k_is)
    (case l9 => k_is)
    (case d9 => k_is)
    (case e9 => k_is)
    (case a10 => k_is)
    (case l10 => k_is)
    (case d10 => k_is)
    (case e10 => k_is)
    (case a11 => k_is)
    (case l11 => k_is)
    (case d11 => k_is)
    (case e11 => k_is)
    (case a12 => k_is)
    (case l12 => k_is)
    (case d12 => k_is)
    (case e12 => k_is)
    (case a13 => k_is)
    (case l13 => k_is)
    (case d13 => k_is)
    (case e13 => k_is)
    (case a14 => k_is)
    (case l14 => k_is)
    (case d14 => k_is)
    (case e14 => k_is)
    (case a15 => k_is)
    (case l15 => k_is)
    (case d15 => k_is)
    (case e15 => k_is)
    (case a16 => k_is)
    (case l16 => k_is)
    (case d16 => k_is)
    (case e16 => k_is)
    (case a17 => k_is)
    (case l17 => k_is)
    (case d17 => k_is)
    (case e17 => k_is)
    (case a18 => k_is)
    (case l18 => k_is)
    (case d18 => k_is)
    (case e18 => k_is)
    (case a19 => k_is)
    (case l19 => k_is)
    (case d19 => k_is)
    (case e19 => k_is)
    (case a20 => k_is)
    (case l20 => k_is)
    (case d20 => k_is)
    (case e20 => k_is)
    (case a21 => k_is)
    (case l21 => k_is)
    (case d21 => k_is)
    (case e21 => k_is)
    (case a22 => k_is)
    (case l22 => k_is)
    (case d22 => k_is)
    (case e22 => k_is)
    (case a23 => k_is)
    (case i23 => k_is)
    (case l23 => k_is)
    (case d23 => k_is)
    (case e23 => k_is)
    (case a24 => k_is)
    (case l24 => k_is)
    (case d24 => k_is)
    (case e24 => k_is)
    (case a25 => k_is)
    (case l25 => k_is)
    (case d25 => k_is)
    (case e25 => k_is)
    (case a26 => k_is)
    (case l26 => k_is)
    (case d26 => k_is)
    (case e26 => k_is)
    (case a27 => k_is)
    (case i27 => k_is)
    (case l27 => k_is)
    (case d27 => k_is)
    (case e27 => k_is)
    (case a28 => k_is)
    (case l28 => k_is)
    (case d28 => k_is)
    (case m28 => k_is)
    (case q28 => rfl)
    (case r28 => exact PySem.W.codeHd_of_K KX (by kernel_rfl))
    (case t28 => exact tb _ (by k_mem))
    (case n28 => kernel_rfl)
    (case e28 => k_is)
    (case a29 => k_is)
    (case l29 => k_is)
    (case d29 => k_is)
    (case m29 => k_is)
    (case q29 => rfl)
    (case r29 => exact PySem.W.codeHd_of_K KX (by kernel_rfl))
    (case t29 => exact tb _ (by k_mem))
    (case n29 => kernel_rfl)
    (case e29 => k_is)
    (case a30 => k_is)
    (case l30 => k_is)
    (case d30 => k_is)
    (case e30 => k_is)
    (case ndT => decide)

