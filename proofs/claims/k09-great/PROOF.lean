import PyProof.Rows.All
import Wide.All
import OpenK.AllK
import Wide.FinOn
import PySem.Challenge.RW_coinsteps_k09_whole_great_purses
import HandS.ForMost
import HandS.IsInst
import HandS.TupAny
import HandS.TupMul
import HandS.Deep
import HandS.Wide
import HandS.Style
import HandS.Zip
import HandS.DictComp
import HandS.RevTup
import KE.SortData
import HandS.SortInts
import KE.GoesMore
import KE.GoesEnum
import HandS.SortRule
import KE.DataMinMax
import KE.KTupSum
import HandS.Comp
import HandS.WideMore
import HandS.TryOnly
import HandS.EndBits
set_option Elab.async false
set_option linter.all false
set_option maxRecDepth 100000
set_option maxHeartbeats 1000000
set_option autoImplicit false
/-! DvCore: plain data and owned cells over the layer's heap; what a reading computes. -/
namespace DV
open PySem L2
abbrev D := PySem.PyData
abbrev Kf := PySem.W.Frag

def keyD : Key → D
  | .inl i => .int i
  | .inr x => .str x

mutual
/-- the value v is the data d over the heap G -/
def Dv (K : Kf) (G : Hp) : D → V → Prop
  | .none, v => v = .non
  | .bool b, v => v = .bl b
  | .int i, v => v = .int i
  | .str s, v => v = .str s
  | .list ds, v => ∃ a vs, v = .ref a ∧ SqL K G a vs ∧ DvAll K G ds vs
  | .tuple ds, v => ∃ a vs, v = .ref a ∧ G a = some (.tup vs) ∧ DvAll K G ds vs
  | .dict kvs, v => ∃ a ks, v = .ref a ∧ G a = some (.dK ks) ∧ DvKs K G kvs ks
def DvAll (K : Kf) (G : Hp) : List D → List V → Prop
  | [], vs => vs = []
  | d :: ds, vs => ∃ v r, vs = v :: r ∧ Dv K G d v ∧ DvAll K G ds r
def DvKs (K : Kf) (G : Hp) : List (D × D) → List (Key × V) → Prop
  | [], ks => ks = []
  | (k, d) :: r, ks => ∃ q v r', ks = (q, v) :: r' ∧ k = keyD q ∧ Dv K G d v ∧ DvKs K G r r'
end

/-- all of G stands in H' -/
def Ex (H H' : Hp) : Prop := ∀ a o, H a = some o → H' a = some o
theorem Ex.refl (H : Hp) : Ex H H := fun _ _ h => h
theorem Ex.trans {H H1 H2 : Hp} (a : Ex H H1) (b : Ex H1 H2) : Ex H H2 := fun x o h => b x o (a x o h)
theorem Ex.new {H : Hp} {p : Addr} {o : HO} (h : H p = none) : Ex H (upd H p o) := fun a u e => by
  rw [upd_ne (ne_of_none e h)]; exact e
/-- G is what stands still in H; a dict may be locked there -/
def Le (G H : Hp) : Prop := ∀ p o, G p = some o → H p = some o ∨ ∃ ob kvs, o = .dK kvs ∧ H p = some (.frz ob o)
theorem Le.refl (G : Hp) : Le G G := fun _ _ h => .inl h
theorem Le.new {G H : Hp} {p : Addr} {o : HO} (l : Le G H) : Le (upd G p o) (upd H p o) := fun a u e => by
  by_cases h : a = p
  · subst h; rw [upd_same] at e; cases e; exact .inl upd_same
  · rw [upd_ne h] at e; rw [upd_ne h]; exact l a u e
theorem Le.mut {G H : Hp} {p : Addr} {o : HO} (l : Le G H) (h : G p = none) : Le G (upd H p o) := fun a u e => by
  rw [upd_ne (ne_of_none e h)]; exact l a u e
theorem rd_ex {H H' : Hp} {a : Addr} {u : HO} (e : Ex H H') (h : Rd H a u) : Rd H' a u := by
  rcases h with h | ⟨o, h⟩
  · exact .inl (e a _ h)
  · exact .inr ⟨o, e a _ h⟩
theorem sql_ex {K : Kf} {H H' : Hp} {a : Addr} {xs : List V} (e : Ex H H') (h : SqL K H a xs) : SqL K H' a xs := h.imp (rd_ex e) id
theorem sqt_ex {H H' : Hp} {a : Addr} {xs : List V} (e : Ex H H') (h : H a = some (.tup xs)) : H' a = some (.tup xs) := e _ _ h
theorem rd_le {G H : Hp} {a : Addr} {u : HO} (l : Le G H) (hu : ∀ kvs, u ≠ .dK kvs) (h : Rd G a u) : Rd H a u := by
  rcases h with h | ⟨o, h⟩
  · rcases l a _ h with h | ⟨ob, kvs, e, h⟩
    · exact .inl h
    · exact absurd e (hu kvs)
  · rcases l a _ h with h | ⟨ob, kvs, e, h⟩
    · exact .inr ⟨o, h⟩
    · cases e
theorem sql_le {K : Kf} {G H : Hp} {a : Addr} {xs : List V} (l : Le G H) (h : SqL K G a xs) : SqL K H a xs := h.imp (rd_le l fun _ z => nomatch z) id
theorem tup_le {G H : Hp} {a : Addr} {xs : List V} (l : Le G H) (h : G a = some (.tup xs)) : H a = some (.tup xs) := by
  rcases l a _ h with h | ⟨_, _, e, _⟩
  · exact h
  · cases e
theorem sqt_le {K : Kf} {G H : Hp} {a : Addr} {xs : List V} (l : Le G H) (h : G a = some (.tup xs)) : SqT K H a xs := SqT.of (tup_le l h)

mutual
theorem Dv.ex {K : Kf} {G G' : Hp} (e : Ex G G') : ∀ (d : D) {v : V}, Dv K G d v → Dv K G' d v
  | .none, _, h => h
  | .bool _, _, h => h
  | .int _, _, h => h
  | .str _, _, h => h
  | .list ds, _, h => by
    unfold Dv at h ⊢
    obtain ⟨a, vs, e1, s, q⟩ := h
    exact ⟨a, vs, e1, sql_ex e s, DvAll.ex e ds q⟩
  | .tuple ds, _, h => by
    unfold Dv at h ⊢
    obtain ⟨a, vs, e1, s, q⟩ := h
    exact ⟨a, vs, e1, sqt_ex e s, DvAll.ex e ds q⟩
  | .dict kvs, _, h => by
    unfold Dv at h ⊢
    obtain ⟨a, ks, e1, s, q⟩ := h
    exact ⟨a, ks, e1, e _ _ s, DvKs.ex e kvs q⟩
theorem DvAll.ex {K : Kf} {G G' : Hp} (e : Ex G G') : ∀ (ds : List D) {vs : List V}, DvAll K G ds vs → DvAll K G' ds vs
  | [], _, h => h
  | d :: ds, _, h => by
    unfold DvAll at h ⊢
    obtain ⟨v, r, e1, h1, h2⟩ := h
    exact ⟨v, r, e1, Dv.ex e d h1, DvAll.ex e ds h2⟩
theorem DvKs.ex {K : Kf} {G G' : Hp} (e : Ex G G') : ∀ (ds : List (D × D)) {vs : List (Key × V)}, DvKs K G ds vs → DvKs K G' ds vs
  | [], _, h => h
  | (k, d) :: ds, _, h => by
    unfold DvKs at h ⊢
    obtain ⟨q, v, r, e1, e2, h1, h2⟩ := h
    exact ⟨q, v, r, e1, e2, Dv.ex e d h1, DvKs.ex e ds h2⟩
end

/-- the value v is to be read as d over H, its parts standing in G -/
def Vw (K : Kf) (G H : Hp) : D → V → Prop
  | .list ds, v => ∃ a vs, v = .ref a ∧ SqL K H a vs ∧ DvAll K G ds vs
  | .tuple ds, v => ∃ a vs, v = .ref a ∧ G a = some (.tup vs) ∧ DvAll K G ds vs
  | .dict kvs, v => ∃ a ks, v = .ref a ∧ Rd H a (.dK ks) ∧ DvKs K G kvs ks
  | .none, v => v = .non
  | .bool b, v => v = .bl b
  | .int i, v => v = .int i
  | .str s, v => v = .str s
theorem Dv.vw {K : Kf} {G H : Hp} (l : Le G H) : ∀ {d : D} {v : V}, Dv K G d v → Vw K G H d v
  | .none, _, h => h
  | .bool _, _, h => h
  | .int _, _, h => h
  | .str _, _, h => h
  | .list ds, _, h => by
    unfold Dv at h
    obtain ⟨a, vs, e1, s, q⟩ := h
    exact ⟨a, vs, e1, sql_le l s, q⟩
  | .tuple ds, _, h => by
    unfold Dv at h
    obtain ⟨a, vs, e1, s, q⟩ := h
    exact ⟨a, vs, e1, s, q⟩
  | .dict kvs, _, h => by
    unfold Dv at h
    obtain ⟨a, ks, e1, s, q⟩ := h
    refine ⟨a, ks, e1, ?_, q⟩
    rcases l _ _ s with h | ⟨ob, _, _, h⟩
    · exact .inl h
    · exact .inr ⟨ob, h⟩

theorem DvAll.length {K : Kf} {G : Hp} : ∀ {ds : List D} {vs : List V}, DvAll K G ds vs → vs.length = ds.length
  | [], _, h => by unfold DvAll at h; subst h; rfl
  | d :: ds, _, h => by
    unfold DvAll at h
    obtain ⟨v, r, e1, h1, h2⟩ := h
    subst e1
    rw [List.length_cons, List.length_cons, DvAll.length h2]
theorem DvAll.get {K : Kf} {G : Hp} : ∀ {ds : List D} {vs : List V} {i : Nat} {d : D}, DvAll K G ds vs → ds[i]? = some d → ∃ v, vs[i]? = some v ∧ Dv K G d v
  | [], _, _, _, h, e => by simp at e
  | d :: ds, _, 0, _, h, e => by
    unfold DvAll at h
    obtain ⟨v, r, e1, h1, h2⟩ := h
    subst e1
    simp at e; subst e
    exact ⟨v, rfl, h1⟩
  | d :: ds, _, i + 1, _, h, e => by
    unfold DvAll at h
    obtain ⟨v, r, e1, h1, h2⟩ := h
    subst e1
    exact DvAll.get (i := i) h2 (by simpa using e)
theorem DvAll.append {K : Kf} {G : Hp} : ∀ {ds es : List D} {vs ws : List V}, DvAll K G ds vs → DvAll K G es ws → DvAll K G (ds ++ es) (vs ++ ws)
  | [], _, _, _, h, q => by unfold DvAll at h; subst h; exact q
  | d :: ds, _, _, _, h, q => by
    unfold DvAll at h
    obtain ⟨v, r, e1, h1, h2⟩ := h
    subst e1
    show DvAll K G (d :: (ds ++ _)) (v :: (r ++ _))
    unfold DvAll
    exact ⟨v, _, rfl, h1, DvAll.append h2 q⟩
theorem DvAll.nil {K : Kf} {G : Hp} : DvAll K G [] [] := by unfold DvAll; rfl
theorem DvAll.cons {K : Kf} {G : Hp} {d : D} {ds : List D} {v : V} {vs : List V} (h : Dv K G d v) (q : DvAll K G ds vs) : DvAll K G (d :: ds) (v :: vs) := by
  unfold DvAll; exact ⟨v, vs, rfl, h, q⟩
theorem DvAll.cons_inv {K : Kf} {G : Hp} {d : D} {ds : List D} {vs : List V} (h : DvAll K G (d :: ds) vs) : ∃ v r, vs = v :: r ∧ Dv K G d v ∧ DvAll K G ds r := by
  unfold DvAll at h; exact h
theorem DvAll.nil_inv {K : Kf} {G : Hp} {vs : List V} (h : DvAll K G [] vs) : vs = [] := by
  unfold DvAll at h; exact h
theorem DvAll.set {K : Kf} {G : Hp} {d : D} {v : V} (q : Dv K G d v) : ∀ {ds : List D} {vs : List V} (i : Nat), DvAll K G ds vs → DvAll K G (ds.set i d) (vs.set i v)
  | [], _, i, h => by rw [h.nil_inv]; exact .nil
  | e :: ds, _, 0, h => by
    obtain ⟨w, r, rfl, h1, h2⟩ := h.cons_inv
    exact .cons q h2
  | e :: ds, _, i + 1, h => by
    obtain ⟨w, r, rfl, h1, h2⟩ := h.cons_inv
    exact .cons h1 (DvAll.set q i h2)
theorem DvAll.take {K : Kf} {G : Hp} : ∀ {ds : List D} {vs : List V} (n : Nat), DvAll K G ds vs → DvAll K G (ds.take n) (vs.take n)
  | _, _, 0, _ => .nil
  | [], _, _ + 1, h => by rw [h.nil_inv]; exact .nil
  | d :: ds, _, n + 1, h => by
    obtain ⟨w, r, rfl, h1, h2⟩ := h.cons_inv
    exact .cons h1 (DvAll.take n h2)
theorem DvAll.drop {K : Kf} {G : Hp} : ∀ {ds : List D} {vs : List V} (n : Nat), DvAll K G ds vs → DvAll K G (ds.drop n) (vs.drop n)
  | _, _, 0, h => h
  | [], _, _ + 1, h => by rw [h.nil_inv]; exact .nil
  | d :: ds, _, n + 1, h => by
    obtain ⟨w, r, rfl, h1, h2⟩ := h.cons_inv
    exact DvAll.drop n h2
theorem DvAll.reverse {K : Kf} {G : Hp} : ∀ {ds : List D} {vs : List V}, DvAll K G ds vs → DvAll K G ds.reverse vs.reverse
  | [], _, h => by rw [h.nil_inv]; exact .nil
  | d :: ds, _, h => by
    obtain ⟨w, r, rfl, h1, h2⟩ := h.cons_inv
    rw [List.reverse_cons, List.reverse_cons]
    exact DvAll.append (DvAll.reverse h2) (.cons h1 .nil)
theorem DvAll.dropLast {K : Kf} {G : Hp} {ds : List D} {vs : List V} (h : DvAll K G ds vs) : DvAll K G ds.dropLast vs.dropLast := by
  rw [List.dropLast_eq_take, List.dropLast_eq_take, h.length]; exact h.take _
theorem DvAll.eraseIdx {K : Kf} {G : Hp} : ∀ {ds : List D} {vs : List V} (i : Nat), DvAll K G ds vs → DvAll K G (ds.eraseIdx i) (vs.eraseIdx i)
  | [], _, i, h => by rw [h.nil_inv]; exact .nil
  | e :: ds, _, 0, h => by
    obtain ⟨w, r, rfl, h1, h2⟩ := h.cons_inv
    exact h2
  | e :: ds, _, i + 1, h => by
    obtain ⟨w, r, rfl, h1, h2⟩ := h.cons_inv
    exact .cons h1 (DvAll.eraseIdx i h2)

/-! ### owned cells, slots -/
inductive Own where
  | lst (ds : List D)
  | dK (kvs : List (Key × D))
  | dT (kvs : List (List Key × D))
  | ins (C : Addr) (fs : List (Str × D))
inductive A where
  | imm (d : D)
  /-- b: it came in as an argument -/
  | own (b : Bool) (o : Own)
  /-- a new tuple of two new cells (a result alone) -/
  | pair (o1 o2 : Own)
abbrev Env := List (Option A)

def KvRep {κ : Type} (K : Kf) (G : Hp) (kvs : List (κ × D)) (ks : List (κ × V)) : Prop := Paired (fun (p : κ × D) (q : κ × V) => p.1 = q.1 ∧ Dv K G p.2 q.2) kvs ks
theorem KvRep.ex {κ : Type} {K : Kf} {G G' : Hp} (e : Ex G G') : ∀ {kvs : List (κ × D)} {ks : List (κ × V)}, KvRep K G kvs ks → KvRep K G' kvs ks
  | _, _, .nil => .nil
  | _, _, .cons h t => .cons ⟨h.1, Dv.ex e _ h.2⟩ (KvRep.ex e t)

/-- the object ob holds the cell's content -/
def ObRep (K : Kf) (G : Hp) : Own → HO → Prop
  | .lst ds, ob => ∃ vs, ob = .lst vs ∧ DvAll K G ds vs
  | .dK kvs, ob => ∃ ks, ob = .dK ks ∧ KvRep K G kvs ks
  | .dT kvs, ob => ∃ ks, ob = .dT ks ∧ KvRep K G kvs ks
  | .ins C fs, ob => ∃ dx gs, ob = .ins C dx gs ∧ KvRep K G fs gs
theorem ObRep.ex {K : Kf} {G G' : Hp} (e : Ex G G') {o : Own} {ob : HO} (h : ObRep K G o ob) : ObRep K G' o ob := by
  cases o with
  | lst ds => obtain ⟨vs, e1, q⟩ := h; exact ⟨vs, e1, DvAll.ex e ds q⟩
  | dK kvs => obtain ⟨ks, e1, q⟩ := h; exact ⟨ks, e1, q.ex e⟩
  | dT kvs => obtain ⟨ks, e1, q⟩ := h; exact ⟨ks, e1, q.ex e⟩
  | ins C fs => obtain ⟨dx, gs, e1, q⟩ := h; exact ⟨dx, gs, e1, q.ex e⟩

/-- what a run of a def starts from: what stands still, what is tracked, the cells that came in as arguments -/
structure Cn where
  G0 : Hp
  H0 : Hp
  pins : List (Option Addr)
  /-- what is laid aside meanwhile -/
  keep : Hp

/-- a cell is an argument's, or it is new -/
def Whose (c : Cn) (i : Nat) : Bool → Addr → Prop
  | true, p => c.pins[i]? = some (some p)
  | false, p => c.H0 p = none
/-- no slot owns p -/
def NotOwn (ρ : Env) (σ : St) (p : Addr) : Prop := ∀ (j : Nat) b o, ρ[j]? = some (some (.own b o)) → σ[j]? ≠ some (some (.ref p))
/-- what is laid aside is not read as data, but a locked dict is -/
def KOk (G : Hp) (p : Addr) (o : HO) : Prop := G p = none ∨ ∃ ob kvs, o = .frz ob (.dK kvs) ∧ G p = some (.dK kvs)
structure Rel (K : Kf) (c : Cn) (G : Hp) (ρ : Env) (σ : St) (H : Hp) : Prop where
  le : Le G H
  fr : ∀ p o, c.H0 p = some o → (∀ j : Nat, c.pins[j]? ≠ some (some p)) → H p = some o
  g0 : Ex c.G0 G
  gnew : ∀ p o, G p = some o → c.G0 p = some o ∨ c.H0 p = none
  len : ρ.length = σ.length
  imm : ∀ (i : Nat) d, ρ[i]? = some (some (.imm d)) → ∃ v, σ[i]? = some (some v) ∧ Dv K G d v
  own : ∀ (i : Nat) b o, ρ[i]? = some (some (.own b o)) → ∃ p ob, σ[i]? = some (some (.ref p)) ∧ H p = some ob ∧ ObRep K G o ob ∧ G p = none ∧ Whose c i b p
  dis : ∀ (i j : Nat) b o b' o' p, ρ[i]? = some (some (.own b o)) → ρ[j]? = some (some (.own b' o')) → σ[i]? = some (some (.ref p)) → σ[j]? = some (some (.ref p)) → i = j
  pin : ∀ (j : Nat) p, c.pins[j]? = some (some p) → σ[j]? = some (some (.ref p)) ∧ ∃ o, ρ[j]? = some (some (.own true o))
  kp : ∀ p o, c.keep p = some o → H p = some o ∧ KOk G p o ∧ NotOwn ρ σ p

section
variable {K : Kf} {c : Cn} {G G' H H' : Hp} {ρ : Env} {σ : St}
/-- an untracked address was untracked at the start -/
theorem Rel.h0 (R : Rel K c G ρ σ H) {p : Addr} (h : H p = none) : c.H0 p = none := by
  cases e : c.H0 p with
  | none => rfl
  | some o =>
    by_cases q : ∃ j : Nat, c.pins[j]? = some (some p)
    · obtain ⟨j, q⟩ := q
      obtain ⟨s, ow, r⟩ := R.pin j p q
      obtain ⟨p', ob, s', hp, _⟩ := R.own j _ ow r
      rw [s] at s'; cases s'
      rw [h] at hp; cases hp
    · have := R.fr p o e fun j z => q ⟨j, z⟩
      rw [h] at this; cases this
theorem Rel.gh (R : Rel K c G ρ σ H) {p : Addr} (h : H p = none) : G p = none := by
  cases e : G p with
  | none => rfl
  | some o => rcases R.le p o e with q | ⟨_, _, _, q⟩ <;> (rw [h] at q; cases q)
theorem Rel.k0 (R : Rel K c G ρ σ H) {p : Addr} (h : H p = none) : c.keep p = none := by
  cases e : c.keep p with
  | none => rfl
  | some o => have := (R.kp p o e).1; rw [h] at this; cases this
theorem Rel.gh0 (R : Rel K c G ρ σ H) {p : Addr} (h : G p = none) : c.G0 p = none := by
  cases e : c.G0 p with
  | none => rfl
  | some o => have := R.g0 p o e; rw [h] at this; cases this
/-- a new thing that stands still -/
theorem Rel.new (R : Rel K c G ρ σ H) {p : Addr} {ob : HO} (h : H p = none) : Rel K c (upd G p ob) ρ σ (upd H p ob) := by
  have hg := R.gh h
  have h0 := R.h0 h
  refine ⟨R.le.new, fun a o e f => ?_, fun a o e => ?_, fun a o e => ?_, R.len, fun i d e => ?_, fun i b o e => ?_, R.dis, R.pin, fun a o e => ?_⟩
  · rw [upd_ne (ne_of_none e h0)]; exact R.fr a o e f
  · exact Ex.new hg a o (R.g0 a o e)
  · by_cases q : a = p
    · subst q; exact .inr h0
    · rw [upd_ne q] at e; exact R.gnew a o e
  · obtain ⟨v, s, q⟩ := R.imm i d e
    exact ⟨v, s, q.ex (Ex.new hg)⟩
  · obtain ⟨a, ob', s, ha, q, g, z⟩ := R.own i b o e
    have ne : a ≠ p := ne_of_none ha h
    exact ⟨a, ob', s, by rw [upd_ne ne]; exact ha, q.ex (Ex.new hg), by rw [upd_ne ne]; exact g, z⟩
  · obtain ⟨k1, k2, k3⟩ := R.kp a o e
    have ne : a ≠ p := ne_of_none k1 h
    exact ⟨by rw [upd_ne ne]; exact k1, by unfold KOk; rw [upd_ne ne]; exact k2, k3⟩
/-- a tracked thing that nobody owns comes to stand still -/
theorem Rel.still (R : Rel K c G ρ σ H) {p : Addr} {ob : HO} (h : H p = some ob) (hg : G p = none) (h0 : c.H0 p = none) (hk : c.keep p = none) (ho : NotOwn ρ σ p) : Rel K c (upd G p ob) ρ σ H := by
  refine ⟨fun a o e => ?_, R.fr, fun a o e => ?_, fun a o e => ?_, R.len, fun i d e => ?_, fun i b o e => ?_, R.dis, R.pin, fun a o e => ?_⟩
  · by_cases q : a = p
    · subst q; rw [upd_same] at e; cases e; exact .inl h
    · rw [upd_ne q] at e; exact R.le a o e
  · exact Ex.new hg a o (R.g0 a o e)
  · by_cases q : a = p
    · subst q; exact .inr h0
    · rw [upd_ne q] at e; exact R.gnew a o e
  · obtain ⟨v, s, q⟩ := R.imm i d e
    exact ⟨v, s, q.ex (Ex.new hg)⟩
  · obtain ⟨a, ob', s, ha, q, g, z⟩ := R.own i b o e
    have ne : a ≠ p := fun z => ho i b o e (by rw [← z]; exact s)
    exact ⟨a, ob', s, ha, q.ex (Ex.new hg), by rw [upd_ne ne]; exact g, z⟩
  · obtain ⟨k1, k2, k3⟩ := R.kp a o e
    have ne : a ≠ p := ne_of_none e hk
    exact ⟨k1, by unfold KOk; rw [upd_ne ne]; exact k2, k3⟩

/-- several new things -/
inductive Al (G H : Hp) : Hp → Hp → Prop where
  | refl : Al G H G H
  | new {G1 H1 : Hp} {p : Addr} {o : HO} (h : Al G H G1 H1) (hp : H1 p = none) : Al G H (upd G1 p o) (upd H1 p o)
theorem Rel.al {G1 H1 : Hp} (a : Al G H G1 H1) (R : Rel K c G ρ σ H) : Rel K c G1 ρ σ H1 ∧ Ex G G1 ∧ Ex H H1 := by
  induction a with
  | refl => exact ⟨R, Ex.refl _, Ex.refl _⟩
  | new h hp ih =>
    obtain ⟨R1, e, e'⟩ := ih
    exact ⟨R1.new hp, e.trans (Ex.new (R1.gh hp)), e'.trans (Ex.new hp)⟩
theorem Al.one {p : Addr} {o : HO} (hp : H p = none) : Al G H (upd G p o) (upd H p o) := .new .refl hp
theorem Al.le {G1 H1 : Hp} (a : Al G H G1 H1) (l : Le G H) : Le G1 H1 := by
  induction a with
  | refl => exact l
  | new h hp ih => exact ih.new
theorem Al.ex {G1 H1 : Hp} (a : Al G H G1 H1) (l : Le G H) : Ex G G1 := by
  induction a with
  | refl => exact Ex.refl _
  | @new G1 H1 p o h hp ih =>
    refine ih.trans (Ex.new ?_)
    cases e : G1 p with
    | none => rfl
    | some o => rcases h.le l p o e with q | ⟨_, _, _, q⟩ <;> (rw [hp] at q; cases q)
theorem Al.trans {G1 H1 G2 H2 : Hp} (a : Al G H G1 H1) (b : Al G1 H1 G2 H2) : Al G H G2 H2 := by
  induction b with
  | refl => exact a
  | new h hp ih => exact .new ih hp

/-! slots -/
def free (c : Cn) (i : Nat) : Prop := ∀ p, c.pins[i]? ≠ some (some p)
/-- the slot may be stored to: no argument's cell stands in it -/
def canSet (ρ : Env) (i : Nat) : Bool := match ρ[i]? with
  | some (some (.own true _)) => false
  | _ => true
theorem Rel.canSet (R : Rel K c G ρ σ H) {i : Nat} (h : canSet ρ i = true) : free c i := fun p e => by
  obtain ⟨_, o, q⟩ := R.pin i p e
  unfold DV.canSet at h
  rw [q] at h
  cases h
/-- a new address is nobody's -/
theorem Rel.notOwn (R : Rel K c G ρ σ H) {p : Addr} (h : H p = none) : NotOwn ρ σ p := fun j b o e s => by
  obtain ⟨q, ob, s', hq, _⟩ := R.own j b o e
  rw [s] at s'; cases s'
  rw [h] at hq; cases hq
theorem get_set {α : Type} {l : List α} {i j : Nat} {x y : α} (h : (l.set i x)[j]? = some y) : (i = j ∧ y = x ∧ i < l.length) ∨ (i ≠ j ∧ l[j]? = some y) := by
  by_cases e : i = j
  · subst e
    by_cases hl : i < l.length
    · rw [List.getElem?_set_self hl] at h; exact .inl ⟨rfl, (Option.some.inj h).symm, hl⟩
    · rw [List.getElem?_eq_none (by rw [List.length_set]; omega)] at h; cases h
  · rw [List.getElem?_set_ne e] at h; exact .inr ⟨e, h⟩
theorem Rel.setImm (R : Rel K c G ρ σ H) {i : Nat} {d : D} {v : V} (hf : free c i) (h : Dv K G d v) : Rel K c G (ρ.set i (some (.imm d))) (σ.set i (some v)) H := by
  refine ⟨R.le, R.fr, R.g0, R.gnew, by rw [List.length_set, List.length_set]; exact R.len, fun j e hj => ?_, fun j b o hj => ?_, fun j k b o b' o' p h1 h2 h3 h4 => ?_, fun j p hj => ?_, fun a u e => ?_⟩
  · rcases get_set hj with ⟨rfl, q, hl⟩ | ⟨ne, q⟩
    · cases q
      exact ⟨v, by rw [List.getElem?_set_self (by rw [← R.len]; exact hl)], h⟩
    · rw [List.getElem?_set_ne ne]; exact R.imm j e q
  · rcases get_set hj with ⟨rfl, q, hl⟩ | ⟨ne, q⟩
    · cases q
    · rw [List.getElem?_set_ne ne]; exact R.own j b o q
  · rcases get_set h1 with ⟨rfl, q, hl⟩ | ⟨ne, q⟩
    · cases q
    · rcases get_set h2 with ⟨rfl, q2, hl⟩ | ⟨ne2, q2⟩
      · cases q2
      · rw [List.getElem?_set_ne ne] at h3; rw [List.getElem?_set_ne ne2] at h4
        exact R.dis j k b o b' o' p q q2 h3 h4
  · have ne : i ≠ j := fun z => hf p (by rw [z]; exact hj)
    rw [List.getElem?_set_ne ne, List.getElem?_set_ne ne]
    exact R.pin j p hj
  · obtain ⟨k1, k2, k3⟩ := R.kp a u e
    refine ⟨k1, k2, fun j b o hj hs => ?_⟩
    rcases get_set hj with ⟨rfl, q, hl⟩ | ⟨ne, q⟩
    · cases q
    · rw [List.getElem?_set_ne ne] at hs
      exact k3 j b o q hs
theorem Rel.setOwn (R : Rel K c G ρ σ H) {i : Nat} {o : Own} {p : Addr} {ob : HO} (hf : free c i) (h : H p = some ob) (q : ObRep K G o ob) (hg : G p = none) (h0 : c.H0 p = none) (hk : c.keep p = none)
    (ho : NotOwn ρ σ p) : Rel K c G (ρ.set i (some (.own false o))) (σ.set i (some (.ref p))) H := by
  refine ⟨R.le, R.fr, R.g0, R.gnew, by rw [List.length_set, List.length_set]; exact R.len, fun j e hj => ?_, fun j b2 o2 hj => ?_, fun j k b1 o1 b2 o2 p2 h1 h2 h3 h4 => ?_, fun j p hj => ?_, fun a u e => ?_⟩
  · rcases get_set hj with ⟨rfl, q, hl⟩ | ⟨ne, q⟩
    · cases q
    · rw [List.getElem?_set_ne ne]; exact R.imm j e q
  · rcases get_set hj with ⟨rfl, q2, hl⟩ | ⟨ne, q2⟩
    · cases q2
      exact ⟨p, ob, by rw [List.getElem?_set_self (by rw [← R.len]; exact hl)], h, q, hg, h0⟩
    · rw [List.getElem?_set_ne ne]; exact R.own j b2 o2 q2
  · rcases get_set h1 with ⟨rfl, q1, hl⟩ | ⟨ne, q1⟩
    · rcases get_set h2 with ⟨e2, q2, hl2⟩ | ⟨ne2, q2⟩
      · exact e2
      · rw [List.getElem?_set_self (by rw [← R.len]; exact hl)] at h3
        rw [List.getElem?_set_ne ne2] at h4
        cases h3
        exact absurd h4 (ho k b2 o2 q2)
    · rcases get_set h2 with ⟨e2, q2, hl2⟩ | ⟨ne2, q2⟩
      · subst e2
        rw [List.getElem?_set_self (by rw [← R.len]; exact hl2)] at h4
        rw [List.getElem?_set_ne ne] at h3
        cases h4
        exact absurd h3 (ho j b1 o1 q1)
      · rw [List.getElem?_set_ne ne] at h3; rw [List.getElem?_set_ne ne2] at h4
        exact R.dis j k b1 o1 b2 o2 p2 q1 q2 h3 h4
  · have ne : i ≠ j := fun z => hf p (by rw [z]; exact hj)
    rw [List.getElem?_set_ne ne, List.getElem?_set_ne ne]
    exact R.pin j p hj
  · obtain ⟨k1, k2, k3⟩ := R.kp a u e
    refine ⟨k1, k2, fun j b o hj hs => ?_⟩
    rcases get_set hj with ⟨rfl, q, hl⟩ | ⟨ne, q⟩
    · rw [List.getElem?_set_self (by rw [← R.len]; exact hl)] at hs
      cases hs
      rw [hk] at e; cases e
    · rw [List.getElem?_set_ne ne] at hs
      exact k3 j b o q hs
/-- the slot's value is forgotten -/
theorem Rel.drop (R : Rel K c G ρ σ H) {i : Nat} {v : Option V} (hf : free c i) : Rel K c G (ρ.set i none) (σ.set i v) H := by
  refine ⟨R.le, R.fr, R.g0, R.gnew, by rw [List.length_set, List.length_set]; exact R.len, fun j e hj => ?_, fun j b2 o2 hj => ?_, fun j k b1 o1 b2 o2 p2 h1 h2 h3 h4 => ?_, fun j p hj => ?_, fun a u e => ?_⟩
  · rcases get_set hj with ⟨rfl, q, hl⟩ | ⟨ne, q⟩
    · cases q
    · rw [List.getElem?_set_ne ne]; exact R.imm j e q
  · rcases get_set hj with ⟨rfl, q2, hl⟩ | ⟨ne, q2⟩
    · cases q2
    · rw [List.getElem?_set_ne ne]; exact R.own j b2 o2 q2
  · rcases get_set h1 with ⟨rfl, q1, hl⟩ | ⟨ne, q1⟩
    · cases q1
    · rcases get_set h2 with ⟨e2, q2, hl2⟩ | ⟨ne2, q2⟩
      · cases q2
      · rw [List.getElem?_set_ne ne] at h3; rw [List.getElem?_set_ne ne2] at h4
        exact R.dis j k b1 o1 b2 o2 p2 q1 q2 h3 h4
  · have ne : i ≠ j := fun z => hf p (by rw [z]; exact hj)
    rw [List.getElem?_set_ne ne, List.getElem?_set_ne ne]
    exact R.pin j p hj
  · obtain ⟨k1, k2, k3⟩ := R.kp a u e
    refine ⟨k1, k2, fun j b o hj hs => ?_⟩
    rcases get_set hj with ⟨rfl, q, hl⟩ | ⟨ne, q⟩
    · cases q
    · rw [List.getElem?_set_ne ne] at hs
      exact k3 j b o q hs
/-- a cell's content changes -/
theorem Rel.mut (R : Rel K c G ρ σ H) {i : Nat} {b : Bool} {o o' : Own} {p : Addr} {ob : HO} (hi : ρ[i]? = some (some (.own b o))) (hs : σ[i]? = some (some (.ref p))) (q : ObRep K G o' ob) : Rel K c G (ρ.set i (some (.own b o'))) σ (upd H p ob) := by
  obtain ⟨p', ob0, s, hp, q0, g, z⟩ := R.own i b o hi
  rw [hs] at s; cases s
  have li : i < ρ.length := (List.getElem?_eq_some_iff.mp hi).1
  refine ⟨R.le.mut g, fun a u e f => ?_, R.g0, R.gnew, by rw [List.length_set]; exact R.len, fun j e hj => ?_, fun j b2 o2 hj => ?_, fun j k b1 o1 b2 o2 p2 h1 h2 h3 h4 => ?_, fun j p2 hj => ?_, fun a2 u2 e2 => ?_⟩
  · by_cases ha : a = p
    · subst ha
      cases b with
      | true => exact absurd z (f i)
      | false => have z' : c.H0 a = none := z; rw [e] at z'; cases z'
    · rw [upd_ne ha]; exact R.fr a u e f
  · rcases get_set hj with ⟨rfl, q, hl⟩ | ⟨ne, q⟩
    · cases q
    · exact R.imm j e q
  · rcases get_set hj with ⟨rfl, q2, hl⟩ | ⟨ne, q2⟩
    · cases q2
      exact ⟨p, ob, hs, upd_same, q, g, z⟩
    · obtain ⟨p2, ob2, s2, hp2, r2, g2, z2⟩ := R.own j b2 o2 q2
      have : p2 ≠ p := fun e => ne (R.dis i j b o b2 o2 p hi q2 hs (by rw [← e]; exact s2))
      exact ⟨p2, ob2, s2, by rw [upd_ne this]; exact hp2, r2, g2, z2⟩
  · have a1 : ∃ b o, ρ[j]? = some (some (.own b o)) := by
      rcases get_set h1 with ⟨rfl, q1, hl⟩ | ⟨ne, q1⟩
      · exact ⟨b, o, hi⟩
      · exact ⟨b1, o1, q1⟩
    have a2 : ∃ b o, ρ[k]? = some (some (.own b o)) := by
      rcases get_set h2 with ⟨rfl, q1, hl⟩ | ⟨ne, q1⟩
      · exact ⟨b, o, hi⟩
      · exact ⟨b2, o2, q1⟩
    obtain ⟨t1, u1, a1⟩ := a1
    obtain ⟨t2, u2, a2⟩ := a2
    exact R.dis j k t1 u1 t2 u2 p2 a1 a2 h3 h4
  · obtain ⟨s2, o2, r2⟩ := R.pin j p2 hj
    refine ⟨s2, ?_⟩
    by_cases e : i = j
    · subst e
      rw [hi] at r2; cases r2
      exact ⟨o', by rw [List.getElem?_set_self li]⟩
    · exact ⟨o2, by rw [List.getElem?_set_ne e]; exact r2⟩
  · obtain ⟨k1, k2, k3⟩ := R.kp a2 u2 e2
    have ne : a2 ≠ p := fun z => k3 i b o hi (by rw [z]; exact hs)
    refine ⟨by rw [upd_ne ne]; exact k1, k2, fun j b3 o3 hj hs3 => ?_⟩
    rcases get_set hj with ⟨rfl, q, hl⟩ | ⟨ne, q⟩
    · cases q; exact k3 i b o hi hs3
    · exact k3 j b3 o3 q hs3
end
end DV

set_option Elab.async false
set_option linter.all false
set_option maxRecDepth 100000
set_option maxHeartbeats 1000000
set_option autoImplicit false
/-! DvSem: runs of plain data; judgements; the small constructs. -/
namespace DV
open PySem L2

structure Exn where
  cls : Str
  fld : List (Str × D)
/-- what a run comes to -/
inductive Rs (α : Type) where
  | ok (a : α) (ρ : Env)
  | raise (e : Exn) (ρ : Env)
  | stuck
abbrev Md (α : Type) := Env → Rs α
namespace Md
def ret {α : Type} (a : α) : Md α := fun ρ => .ok a ρ
def bind {α β : Type} (f : Md α) (g : α → Md β) : Md β := fun ρ => match f ρ with
  | .ok a ρ' => g a ρ'
  | .raise e ρ' => .raise e ρ'
  | .stuck => .stuck
def stuck {α : Type} : Md α := fun _ => .stuck
def opt {α : Type} : Option α → Md α
  | some a => ret a
  | none => stuck
end Md
def Sat {α : Type} (r : Rs α) (P : α → Env → Prop) (N : Exn → Env → Prop) : Prop := match r with
  | .ok a ρ => P a ρ
  | .raise e ρ => N e ρ
  | .stuck => False
/-- what is wished of an exception -/
abbrev Wish := Exn → Hp → Env → St → Hp → Prop
def V0 : Wish := fun _ _ _ _ _ => False

section
variable {K : Kf} {V : Wish} {c : Cn} {G G' H H' : Hp} {ρ : Env} {σ : St}
/-- a run from (G, ρ, σ, H) within an expression: σ stays -/
def Out {α : Type} (K : Kf) (V : Wish) (c : Cn) (G : Hp) (σ : St) (r : Rs α) (P : α → Env → Hp → Hp → Prop) : Prop :=
  Sat r (fun a ρ' => ∀ G' H', Ex G G' → Rel K c G' ρ' σ H' → P a ρ' G' H') (fun e ρ' => ∀ G' H', Ex G G' → Rel K c G' ρ' σ H' → V e G' ρ' σ H')
theorem Out.weak {α : Type} {r : Rs α} {P : α → Env → Hp → Hp → Prop} (e : Ex G G') (h : Out K V c G σ r P) : Out K V c G' σ r P := by
  cases r with
  | ok a ρ => exact fun G2 H2 e2 R => h G2 H2 (e.trans e2) R
  | raise x ρ => exact fun G2 H2 e2 R => h G2 H2 (e.trans e2) R
  | stuck => exact h
theorem Out.mono {α : Type} {r : Rs α} {P P' : α → Env → Hp → Hp → Prop} (h : Out K V c G σ r P) (f : ∀ a ρ' G' H', Ex G G' → Rel K c G' ρ' σ H' → P a ρ' G' H' → P' a ρ' G' H') : Out K V c G σ r P' := by
  cases r with
  | ok a ρ => exact fun G2 H2 e2 R => f a ρ G2 H2 e2 R (h G2 H2 e2 R)
  | raise x ρ => exact h
  | stuck => exact h
theorem Out.bind {α β : Type} {f : Md α} {g : α → Md β} {P : β → Env → Hp → Hp → Prop} (h : Out K V c G σ (Md.bind f g ρ) P) : Out K V c G σ (f ρ) (fun a ρ1 G1 _ => Out K V c G1 σ (g a ρ1) P) := by
  unfold Md.bind at h
  cases e : f ρ with
  | ok a ρ' => rw [e] at h; exact fun G2 H2 e2 R => Out.weak e2 h
  | raise x ρ' => rw [e] at h; exact h
  | stuck => rw [e] at h; exact h
theorem Out.ret {α : Type} {a : α} {P : α → Env → Hp → Hp → Prop} (R : Rel K c G ρ σ H) (h : Out K V c G σ (.ok a ρ) P) : P a ρ G H := h G H (Ex.refl G) R
theorem Out.opt {α : Type} {o : Option α} {P : α → Env → Hp → Hp → Prop} (h : Out K V c G σ (Md.opt o ρ) P) : ∃ a, o = some a ∧ Out K V c G σ (.ok a ρ) P := by
  cases o with
  | none => exact False.elim h
  | some a => exact ⟨a, rfl, h⟩
end

/-- what an operand is: data that stands still, or what the slot holds -/
inductive Opd where
  | dat (d : D)
  | slot (i : Nat)
def ORep (K : Kf) (G : Hp) (σ : St) : Opd → V → Prop
  | .dat d, v => Dv K G d v
  | .slot i, v => σ[i]? = some (some v)
def ownD : Own → Option D
  | .lst ds => some (.list ds)
  | .dK kvs => some (.dict (kvs.map fun p => (keyD p.1, p.2)))
  | _ => none
/-- its data now -/
def rs (ρ : Env) : Opd → Option D
  | .dat d => some d
  | .slot i => match ρ[i]? with
    | some (some (.imm d)) => some d
    | some (some (.own _ o)) => ownD o
    | _ => none
/-- its data, if it stands still -/
def im (ρ : Env) : Opd → Option D
  | .dat d => some d
  | .slot i => match ρ[i]? with
    | some (some (.imm d)) => some d
    | _ => none
section
variable {K : Kf} {V : Wish} {c : Cn} {G G' H H' : Hp} {ρ : Env} {σ : St}
theorem ORep.ex (e : Ex G G') {o : Opd} {v : L2.V} (h : ORep K G σ o v) : ORep K G' σ o v := by
  cases o with
  | dat d => exact Dv.ex e d h
  | slot i => exact h
theorem kvRep_ks : ∀ {kvs : List (Key × D)} {ks : List (Key × L2.V)}, KvRep K G kvs ks → DvKs K G (kvs.map fun p => (keyD p.1, p.2)) ks
  | _, _, .nil => by unfold DvKs; rfl
  | (k, d) :: r, (q, v) :: r', .cons h t => by
    show DvKs K G ((keyD k, d) :: _) _
    unfold DvKs
    obtain ⟨h1, h2⟩ := h
    have h1' : k = q := h1
    subst h1'
    exact ⟨k, v, r', rfl, rfl, h2, kvRep_ks t⟩
theorem own_vw {o : Own} {ob : HO} {p : Addr} {d : D} (q : ObRep K G o ob) (hp : H p = some ob) (e : ownD o = some d) : Vw K G H d (.ref p) := by
  cases o with
  | lst ds =>
    cases e
    obtain ⟨vs, rfl, r⟩ := q
    exact ⟨p, vs, rfl, SqL.of hp, r⟩
  | dK kvs =>
    cases e
    obtain ⟨ks, rfl, r⟩ := q
    exact ⟨p, ks, rfl, .inl hp, kvRep_ks r⟩
  | dT kvs => cases e
  | ins C fs => cases e
theorem own_dv {o : Own} {ob : HO} {p : Addr} {d : D} (q : ObRep K G o ob) (hp : G p = some ob) (e : ownD o = some d) : Dv K G d (.ref p) := by
  cases o with
  | lst ds =>
    cases e
    obtain ⟨vs, rfl, r⟩ := q
    unfold Dv
    exact ⟨p, vs, rfl, SqL.of hp, r⟩
  | dK kvs =>
    cases e
    obtain ⟨ks, rfl, r⟩ := q
    unfold Dv
    exact ⟨p, ks, rfl, hp, kvRep_ks r⟩
  | dT kvs => cases e
  | ins C fs => cases e
theorem vw_of (R : Rel K c G ρ σ H) {o : Opd} {v : L2.V} {d : D} (h : ORep K G σ o v) (e : rs ρ o = some d) : Vw K G H d v := by
  cases o with
  | dat d' => cases e; exact Dv.vw R.le h
  | slot i =>
    simp only [rs] at e
    split at e
    · rename_i d' q
      cases e
      obtain ⟨v', s, q'⟩ := R.imm i _ q
      have h' : σ[i]? = some (some v) := h
      rw [s] at h'; cases h'
      exact q'.vw R.le
    · rename_i b o q
      obtain ⟨p, ob, s, hp, r, g, z⟩ := R.own i b o q
      have h' : σ[i]? = some (some v) := h
      rw [s] at h'; cases h'
      exact own_vw r hp e
    · cases e
theorem dv_of (R : Rel K c G ρ σ H) {o : Opd} {v : L2.V} {d : D} (h : ORep K G σ o v) (e : im ρ o = some d) : Dv K G d v := by
  cases o with
  | dat d' => cases e; exact h
  | slot i =>
    simp only [im] at e
    split at e
    · rename_i d' q
      cases e
      obtain ⟨v', s, q'⟩ := R.imm i _ q
      have h' : σ[i]? = some (some v) := h
      rw [s] at h'; cases h'
      exact q'
    · cases e
end

/-! ### judgements over readings -/
def EvO (K : Kf) (V : Wish) (t : TE) (f : Md Opd) : Prop := ∀ c G ρ σ H, Rel K c G ρ σ H → ∀ Q : VK,
  Out K V c G σ (f ρ) (fun o _ G' H' => ∀ v, ORep K G' σ o v → Q v H') → t σ H Q
/-- a new cell of nobody's -/
def NRep (K : Kf) (c : Cn) (G : Hp) (ρ : Env) (σ : St) (H : Hp) (o : Own) (v : L2.V) : Prop :=
  ∃ p ob, v = .ref p ∧ H p = some ob ∧ ObRep K G o ob ∧ G p = none ∧ c.H0 p = none ∧ c.keep p = none ∧ NotOwn ρ σ p
def EvN (K : Kf) (V : Wish) (t : TE) (f : Md Own) : Prop := ∀ c G ρ σ H, Rel K c G ρ σ H → ∀ Q : VK,
  Out K V c G σ (f ρ) (fun o ρ' G' H' => ∀ v, NRep K c G' ρ' σ H' o v → Q v H') → t σ H Q
def EvT (K : Kf) (V : Wish) (t : TT) (f : Md Bool) : Prop := ∀ c G ρ σ H, Rel K c G ρ σ H → ∀ Q : Bool → Hp → Prop,
  Out K V c G σ (f ρ) (fun b _ _ H' => Q b H') → t σ H Q
def OReps (K : Kf) (G : Hp) (σ : St) : List Opd → List L2.V → Prop := Paired (ORep K G σ)
def EvA (K : Kf) (V : Wish) (t : TA) (f : Md (List Opd)) : Prop := ∀ c G ρ σ H, Rel K c G ρ σ H → ∀ Q : List L2.V → Hp → Prop,
  Out K V c G σ (f ρ) (fun os _ G' H' => ∀ vs, OReps K G' σ os vs → Q vs H') → t σ H Q
/-- how a statement leaves -/
inductive Fw where
  | nx | br | ct
  | rt (a : A)
def RRep (K : Kf) (c : Cn) (G H : Hp) : A → L2.V → Prop
  | .imm d, v => Dv K G d v
  | .own _ o, v => ∃ p ob, v = .ref p ∧ H p = some ob ∧ ObRep K G o ob ∧ G p = none ∧ c.H0 p = none
  | .pair o1 o2, v => ∃ t p1 p2 ob1 ob2, v = .ref t ∧ H t = some (.tup [.ref p1, .ref p2]) ∧ H p1 = some ob1 ∧ ObRep K G o1 ob1 ∧ G p1 = none ∧ c.H0 p1 = none ∧ H p2 = some ob2 ∧ ObRep K G o2 ob2 ∧ G p2 = none ∧ c.H0 p2 = none ∧ p1 ≠ p2
def Leave (K : Kf) (c : Cn) (D : Ends) (fl : Fw) (σ' : St) (G' H' : Hp) : Prop := match fl with
  | .nx => D.nx σ' H'
  | .br => D.bk σ' H'
  | .ct => D.ct σ' H'
  | .rt a => ∀ v, RRep K c G' H' a v → D.rt v H'
def OutS (K : Kf) (V : Wish) (c : Cn) (G : Hp) (r : Rs Fw) (P : Fw → Env → St → Hp → Hp → Prop) : Prop :=
  Sat r (fun fl ρ' => ∀ σ' G' H', Ex G G' → Rel K c G' ρ' σ' H' → P fl ρ' σ' G' H') (fun e ρ' => ∀ σ' G' H', Ex G G' → Rel K c G' ρ' σ' H' → V e G' ρ' σ' H')
def StD (K : Kf) (V : Wish) (t : TS) (f : Md Fw) : Prop := ∀ c G ρ σ H, Rel K c G ρ σ H → ∀ D : Ends,
  OutS K V c G (f ρ) (fun fl _ σ' G' H' => Leave K c D fl σ' G' H') → t D σ H
section
variable {K : Kf} {V : Wish} {c : Cn} {G G' H H' : Hp} {ρ : Env} {σ : St}
theorem OutS.weak {r : Rs Fw} {P : Fw → Env → St → Hp → Hp → Prop} (e : Ex G G') (h : OutS K V c G r P) : OutS K V c G' r P := by
  cases r with
  | ok a ρ => exact fun s G2 H2 e2 R => h s G2 H2 (e.trans e2) R
  | raise x ρ => exact fun s G2 H2 e2 R => h s G2 H2 (e.trans e2) R
  | stuck => exact h
theorem OutS.mono {r : Rs Fw} {P P' : Fw → Env → St → Hp → Hp → Prop} (h : OutS K V c G r P) (f : ∀ a ρ' σ' G' H', Ex G G' → Rel K c G' ρ' σ' H' → P a ρ' σ' G' H' → P' a ρ' σ' G' H') : OutS K V c G r P' := by
  cases r with
  | ok a ρ => exact fun s G2 H2 e2 R => f a ρ s G2 H2 e2 R (h s G2 H2 e2 R)
  | raise x ρ => exact h
  | stuck => exact h
/-- an expression first, then a statement's rest -/
theorem OutS.bindE {α : Type} {f : Md α} {g : α → Md Fw} {P : Fw → Env → St → Hp → Hp → Prop} (h : OutS K V c G (Md.bind f g ρ) P) : Out K V c G σ (f ρ) (fun a ρ1 G1 _ => OutS K V c G1 (g a ρ1) P) := by
  unfold Md.bind at h
  cases e : f ρ with
  | ok a ρ' => rw [e] at h; exact fun G2 H2 e2 R => OutS.weak e2 h
  | raise x ρ' => rw [e] at h; exact fun G2 H2 e2 R => h σ G2 H2 e2 R
  | stuck => rw [e] at h; exact h
theorem OutS.ret {a : Fw} {P : Fw → Env → St → Hp → Hp → Prop} (R : Rel K c G ρ σ H) (h : OutS K V c G (.ok a ρ) P) : P a ρ σ G H := h σ G H (Ex.refl G) R
theorem OutS.opt {α : Type} {o : Option α} {g : α → Md Fw} {P : Fw → Env → St → Hp → Hp → Prop} (h : OutS K V c G (Md.bind (Md.opt o) g ρ) P) : ∃ a, o = some a ∧ OutS K V c G (g a ρ) P := by
  cases o with
  | none => exact False.elim h
  | some a => exact ⟨a, rfl, h⟩
theorem Out.bindO {α β : Type} {o : Option α} {g : α → Md β} {P : β → Env → Hp → Hp → Prop} (h : Out K V c G σ (Md.bind (Md.opt o) g ρ) P) : ∃ a, o = some a ∧ Out K V c G σ (g a ρ) P := by
  cases o with
  | none => exact False.elim h
  | some a => exact ⟨a, rfl, h⟩
end

/-! ### expressions -/
section
variable {K : Kf} {V : Wish}
def mVar (i : Nat) : Md Opd := fun ρ => match ρ[i]? with
  | some (some (.imm d)) => .ok (.dat d) ρ
  | some (some (.own _ _)) => .ok (.slot i) ρ
  | _ => .stuck
theorem ev_var {i : Nat} : EvO K V (tVar i) (mVar i) := by
  intro c G ρ σ H R Q h
  unfold mVar at h
  split at h
  · rename_i d e
    obtain ⟨v, s, q⟩ := R.imm i d e
    exact ⟨v, s, h.ret R v q⟩
  · rename_i b o e
    obtain ⟨p, ob, s, hp, r, g, z⟩ := R.own i b o e
    exact ⟨_, s, h.ret R _ s⟩
  · exact False.elim h
def mC (d : D) : Md Opd := Md.ret (.dat d)
theorem ev_int {i : Int} : EvO K V (tC (.int i)) (mC (.int i)) := fun c G ρ σ H R Q h => h.ret R _ (by show Dv K G (.int i) _; unfold Dv; rfl)
theorem ev_bl {b : Bool} : EvO K V (tC (.bl b)) (mC (.bool b)) := fun c G ρ σ H R Q h => h.ret R _ (by show Dv K G (.bool b) _; unfold Dv; rfl)
theorem ev_str {x : Str} : EvO K V (tC (.str x)) (mC (.str x)) := fun c G ρ σ H R Q h => h.ret R _ (by show Dv K G (.str x) _; unfold Dv; rfl)
theorem ev_non : EvO K V (tC .non) (mC .none) := fun c G ρ σ H R Q h => h.ret R _ (by show Dv K G .none _; unfold Dv; rfl)

/-- an operation on data: what it gives may be new -/
def Op2 (K : Kf) (r : R2) (g : D → D → Option D) : Prop := ∀ (G H : Hp) (d1 d2 d : D) (x y : L2.V), Le G H → Vw K G H d1 x → Vw K G H d2 y → g d1 d2 = some d → ∀ Q : VK,
  (∀ v G' H', Al G H G' H' → Dv K G' d v → Q v H') → r x y H Q
def m2 (g : D → D → Option D) (fa fb : Md Opd) : Md Opd := Md.bind fa fun o1 => Md.bind fb fun o2 ρ => Md.opt (do let d1 ← rs ρ o1; let d2 ← rs ρ o2; let d ← g d1 d2; pure (.dat d)) ρ
theorem ev_op {r : R2} {g : D → D → Option D} {ta tb : TE} {fa fb : Md Opd} (ho : Op2 K r g) (ha : EvO K V ta fa) (hb : EvO K V tb fb) : EvO K V (tOp r ta tb) (m2 g fa fb) := by
  intro c G ρ σ H R Q h
  refine ha c G ρ σ H R _ (h.bind.mono fun o1 ρ1 G1 H1 e1 R1 h1 v1 r1 => ?_)
  refine hb c G1 ρ1 σ H1 R1 _ (h1.bind.mono fun o2 ρ2 G2 H2 e2 R2 h2 v2 r2 => ?_)
  obtain ⟨o, eo, h3⟩ := h2.opt
  simp only [Option.bind_eq_bind, Option.bind_eq_some_iff, Option.pure_def, Option.some.injEq] at eo
  obtain ⟨d1, q1, d2, q2, d, q3, rfl⟩ := eo
  refine ho G2 H2 d1 d2 d v1 v2 R2.le (vw_of R2 (r1.ex e2) q1) (vw_of R2 r2 q2) q3 Q fun v G' H' al dv => ?_
  obtain ⟨R3, e3, _⟩ := Rel.al al R2
  exact h3 G' H' e3 R3 v dv
def Op1 (K : Kf) (r : L2.V → Hp → VK → Prop) (g : D → Option D) : Prop := ∀ (G H : Hp) (d1 d : D) (x : L2.V), Le G H → Vw K G H d1 x → g d1 = some d → ∀ Q : VK,
  (∀ v G' H', Al G H G' H' → Dv K G' d v → Q v H') → r x H Q
def m1 (g : D → Option D) (fa : Md Opd) : Md Opd := Md.bind fa fun o1 ρ => Md.opt (do let d1 ← rs ρ o1; let d ← g d1; pure (.dat d)) ρ
theorem ev_un {r : L2.V → Hp → VK → Prop} {g : D → Option D} {ta : TE} {fa : Md Opd} (ho : Op1 K r g) (ha : EvO K V ta fa) : EvO K V (tUn r ta) (m1 g fa) := by
  intro c G ρ σ H R Q h
  refine ha c G ρ σ H R _ (h.bind.mono fun o1 ρ1 G1 H1 e1 R1 h1 v1 r1 => ?_)
  obtain ⟨o, eo, h3⟩ := h1.opt
  simp only [Option.bind_eq_bind, Option.bind_eq_some_iff, Option.pure_def, Option.some.injEq] at eo
  obtain ⟨d1, q1, d, q3, rfl⟩ := eo
  refine ho G1 H1 d1 d v1 R1.le (vw_of R1 r1 q1) q3 Q fun v G' H' al dv => ?_
  obtain ⟨R3, e3, _⟩ := Rel.al al R1
  exact h3 G' H' e3 R3 v dv

/-! tests -/
def mT (f : Md Opd) : Md Bool := Md.bind f fun o ρ => match o with
  | .dat (.bool b) => .ok b ρ
  | _ => .stuck
theorem et_b {t : TE} {f : Md Opd} (h : EvO K V t f) : EvT K V (tB t) (mT f) := by
  intro c G ρ σ H R Q q
  refine h c G ρ σ H R _ (q.bind.mono fun o ρ1 G1 H1 e1 R1 h1 v r => ?_)
  split at h1
  · rename_i b
    have r' : Dv K G1 (.bool b) v := r
    unfold Dv at r'
    exact ⟨b, r', h1.ret R1⟩
  · exact False.elim h1
theorem et_t {t : TE} {f : Md Opd} (h : EvO K V t f) : EvT K V (tTest t) (mT f) := et_b h
def mAndT (f g : Md Bool) : Md Bool := Md.bind f fun b => if b then g else Md.ret false
def mOrT (f g : Md Bool) : Md Bool := Md.bind f fun b => if b then Md.ret true else g
def mNotT (f : Md Bool) : Md Bool := Md.bind f fun b => Md.ret (!b)
theorem et_and {t u : TT} {f g : Md Bool} (h1 : EvT K V t f) (h2 : EvT K V u g) : EvT K V (tAnd t u) (mAndT f g) := by
  intro c G ρ σ H R Q q
  refine h1 c G ρ σ H R _ (q.bind.mono fun b ρ1 G1 H1 e1 R1 h => ?_)
  cases b with
  | true =>
    rw [if_pos rfl] at h ⊢
    exact h2 c G1 ρ1 σ H1 R1 Q h
  | false =>
    rw [if_neg Bool.false_ne_true] at h ⊢
    exact h.ret R1
theorem et_or {t u : TT} {f g : Md Bool} (h1 : EvT K V t f) (h2 : EvT K V u g) : EvT K V (tOr t u) (mOrT f g) := by
  intro c G ρ σ H R Q q
  refine h1 c G ρ σ H R _ (q.bind.mono fun b ρ1 G1 H1 e1 R1 h => ?_)
  cases b with
  | true =>
    rw [if_pos rfl] at h ⊢
    exact h.ret R1
  | false =>
    rw [if_neg Bool.false_ne_true] at h ⊢
    exact h2 c G1 ρ1 σ H1 R1 Q h
theorem et_not {t : TT} {f : Md Bool} (h1 : EvT K V t f) : EvT K V (tNot t) (mNotT f) := by
  intro c G ρ σ H R Q q
  exact h1 c G ρ σ H R _ (q.bind.mono fun b ρ1 G1 H1 e1 R1 h => h.ret R1)
/-! bools as values -/
def mOfT (f : Md Bool) : Md Opd := Md.bind f fun b => Md.ret (.dat (.bool b))
theorem o_bl {G : Hp} {σ : St} {b : Bool} : ORep K G σ (.dat (.bool b)) (.bl b) := by show Dv K G (.bool b) (.bl b); unfold Dv; rfl
def mAndV (f g : Md Opd) : Md Opd := Md.bind (mT f) fun b => if b then g else mC (.bool false)
def mOrV (f g : Md Opd) : Md Opd := Md.bind (mT f) fun b => if b then mC (.bool true) else g
def mNotV (f : Md Opd) : Md Opd := Md.bind (mT f) fun b => mC (.bool !b)
theorem ev_andV {ta tb : TE} {f g : Md Opd} (h1 : EvO K V ta f) (h2 : EvO K V tb g) : EvO K V (tAndV ta tb) (mAndV f g) := by
  intro c G ρ σ H R Q q
  refine et_b h1 c G ρ σ H R _ (q.bind.mono fun b ρ1 G1 H1 e1 R1 h => ?_)
  cases b with
  | true =>
    rw [if_pos rfl] at h ⊢
    exact h2 c G1 ρ1 σ H1 R1 Q h
  | false =>
    rw [if_neg Bool.false_ne_true] at h ⊢
    exact h.ret R1 _ o_bl
theorem ev_orV {ta tb : TE} {f g : Md Opd} (h1 : EvO K V ta f) (h2 : EvO K V tb g) : EvO K V (tOrV ta tb) (mOrV f g) := by
  intro c G ρ σ H R Q q
  refine et_b h1 c G ρ σ H R _ (q.bind.mono fun b ρ1 G1 H1 e1 R1 h => ?_)
  cases b with
  | true =>
    rw [if_pos rfl] at h ⊢
    exact h.ret R1 _ o_bl
  | false =>
    rw [if_neg Bool.false_ne_true] at h ⊢
    exact h2 c G1 ρ1 σ H1 R1 Q h
theorem ev_notV {ta : TE} {f : Md Opd} (h1 : EvO K V ta f) : EvO K V (tNotV ta) (mNotV f) := by
  intro c G ρ σ H R Q q
  exact et_b h1 c G ρ σ H R _ (q.bind.mono fun b ρ1 G1 H1 e1 R1 h => h.ret R1 _ o_bl)
def mIf {α : Type} (t : Md Bool) (f g : Md α) : Md α := Md.bind t fun b => if b then f else g
theorem ev_if {t : TT} {ta tb : TE} {ft : Md Bool} {f g : Md Opd} (h : EvT K V t ft) (h1 : EvO K V ta f) (h2 : EvO K V tb g) : EvO K V (tIf t ta tb) (mIf ft f g) := by
  intro c G ρ σ H R Q q
  refine h c G ρ σ H R _ (q.bind.mono fun b ρ1 G1 H1 e1 R1 h => ?_)
  cases b with
  | true =>
    rw [if_pos rfl] at h ⊢
    exact h1 c G1 ρ1 σ H1 R1 Q h
  | false =>
    rw [if_neg Bool.false_ne_true] at h ⊢
    exact h2 c G1 ρ1 σ H1 R1 Q h
theorem en_if {t : TT} {ta tb : TE} {ft : Md Bool} {f g : Md Own} (h : EvT K V t ft) (h1 : EvN K V ta f) (h2 : EvN K V tb g) : EvN K V (tIf t ta tb) (mIf ft f g) := by
  intro c G ρ σ H R Q q
  refine h c G ρ σ H R _ (q.bind.mono fun b ρ1 G1 H1 e1 R1 h => ?_)
  cases b with
  | true =>
    rw [if_pos rfl] at h ⊢
    exact h1 c G1 ρ1 σ H1 R1 Q h
  | false =>
    rw [if_neg Bool.false_ne_true] at h ⊢
    exact h2 c G1 ρ1 σ H1 R1 Q h
/-- chains of comparisons -/
def mChain (g g' : D → D → Option D) (fa fb fc : Md Opd) : Md Opd := Md.bind fa fun o1 => Md.bind fb fun o2 ρ =>
  match (do let d1 ← rs ρ o1; let d2 ← im ρ o2; let d ← g d1 d2; pure (d, d2) : Option (D × D)) with
  | some (.bool true, d2) => (Md.bind fc fun o3 ρ' => Md.opt (do let d3 ← rs ρ' o3; let d ← g' d2 d3; pure (.dat d)) ρ') ρ
  | some (.bool false, _) => .ok (.dat (.bool false)) ρ
  | _ => .stuck
theorem im_rs {ρ : Env} {o : Opd} {d : D} (h : im ρ o = some d) : rs ρ o = some d := by
  cases o with
  | dat d' => exact h
  | slot i =>
    simp only [im] at h
    simp only [rs]
    split at h
    · rename_i q; rw [q]; exact h
    · cases h
theorem ev_chain {r r' : R2} {g g' : D → D → Option D} {ta tb tc : TE} {fa fb fc : Md Opd} (ho : Op2 K r g) (ho' : Op2 K r' g') (ha : EvO K V ta fa) (hb : EvO K V tb fb) (hc : EvO K V tc fc) : EvO K V (tChain r r' ta tb tc) (mChain g g' fa fb fc) := by
  intro c G ρ σ H R Q h
  refine ha c G ρ σ H R _ (h.bind.mono fun o1 ρ1 G1 H1 e1 R1 h1 v1 r1 => ?_)
  refine hb c G1 ρ1 σ H1 R1 _ (h1.bind.mono fun o2 ρ2 G2 H2 e2 R2 h2 v2 r2 => ?_)
  split at h2
  · rename_i d2 eo
    simp only [Option.bind_eq_bind, Option.bind_eq_some_iff, Option.pure_def, Option.some.injEq, Prod.mk.injEq] at eo
    obtain ⟨d1, q1, d2', q2, d, q3, rfl, rfl⟩ := eo
    have dv2 := dv_of R2 r2 q2
    refine ho G2 H2 d1 d2' _ v1 v2 R2.le (vw_of R2 (r1.ex e2) q1) (dv2.vw R2.le) q3 _ fun v G3 H3 al dv => ?_
    obtain ⟨R3, e3, _⟩ := Rel.al al R2
    unfold Dv at dv
    refine ⟨true, dv, ?_⟩
    rw [if_pos rfl]
    refine hc c G3 ρ2 σ H3 R3 _ ((h2.weak e3).bind.mono fun o4 ρ4 G4 H4 e4 R4 h4 v4 r4 => ?_)
    obtain ⟨o, eo, h5⟩ := h4.opt
    simp only [Option.bind_eq_bind, Option.bind_eq_some_iff, Option.pure_def, Option.some.injEq] at eo
    obtain ⟨d4, q4, d5, q5, rfl⟩ := eo
    refine ho' G4 H4 d2' d4 d5 v2 v4 R4.le ((Dv.ex (e3.trans e4) _ dv2).vw R4.le) (vw_of R4 r4 q4) q5 Q fun v G' H' al dv => ?_
    obtain ⟨R5, e5, _⟩ := Rel.al al R4
    exact h5 G' H' e5 R5 v dv
  · rename_i eo
    simp only [Option.bind_eq_bind, Option.bind_eq_some_iff, Option.pure_def, Option.some.injEq, Prod.mk.injEq] at eo
    obtain ⟨d1, q1, d2', q2, d, q3, rfl, rfl⟩ := eo
    have dv2 := dv_of R2 r2 q2
    refine ho G2 H2 d1 _ _ v1 v2 R2.le (vw_of R2 (r1.ex e2) q1) (dv2.vw R2.le) q3 _ fun v G3 H3 al dv => ?_
    obtain ⟨R3, e3, _⟩ := Rel.al al R2
    unfold Dv at dv
    refine ⟨false, dv, ?_⟩
    rw [if_neg Bool.false_ne_true]
    exact h2 G3 H3 e3 R3 _ o_bl
  · exact False.elim h2

/-! arguments, displays -/
def mNil : Md (List Opd) := Md.ret []
def mCons (f : Md Opd) (g : Md (List Opd)) : Md (List Opd) := Md.bind f fun o => Md.bind g fun os => Md.ret (o :: os)
theorem ea_nil : EvA K V tNil mNil := fun c G ρ σ H R Q h => h.ret R [] .nil
theorem ea_cons {te : TE} {tr : TA} {f : Md Opd} {g : Md (List Opd)} (h : EvO K V te f) (hr : EvA K V tr g) : EvA K V (tCons te tr) (mCons f g) := by
  intro c G ρ σ H R Q q
  refine h c G ρ σ H R _ (q.bind.mono fun o ρ1 G1 H1 e1 R1 h1 v r => ?_)
  refine hr c G1 ρ1 σ H1 R1 _ (h1.bind.mono fun os ρ2 G2 H2 e2 R2 h2 vs rs => ?_)
  exact h2.ret R2 _ (.cons (r.ex e2) rs)
def ims (ρ : Env) : List Opd → Option (List D)
  | [] => some []
  | o :: os => do let d ← im ρ o; let ds ← ims ρ os; pure (d :: ds)
def rss (ρ : Env) : List Opd → Option (List D)
  | [] => some []
  | o :: os => do let d ← rs ρ o; let ds ← rss ρ os; pure (d :: ds)
inductive Vws (K : Kf) (G H : Hp) : List D → List L2.V → Prop where
  | nil : Vws K G H [] []
  | cons {d : D} {v : L2.V} {ds : List D} {vs : List L2.V} (h : Vw K G H d v) (t : Vws K G H ds vs) : Vws K G H (d :: ds) (v :: vs)
theorem dvs_of {c : Cn} {G H : Hp} {ρ : Env} {σ : St} (R : Rel K c G ρ σ H) : ∀ {os : List Opd} {vs : List L2.V} {ds : List D}, OReps K G σ os vs → ims ρ os = some ds → DvAll K G ds vs
  | _, _, _, .nil, e => by
    cases e
    exact .nil
  | _, _, _, .cons h t, e => by
    unfold ims at e
    simp only [Option.bind_eq_bind, Option.bind_eq_some_iff, Option.pure_def, Option.some.injEq] at e
    obtain ⟨d, q1, ds, q2, rfl⟩ := e
    exact .cons (dv_of R h q1) (dvs_of R t q2)
theorem vws_of {c : Cn} {G H : Hp} {ρ : Env} {σ : St} (R : Rel K c G ρ σ H) : ∀ {os : List Opd} {vs : List L2.V} {ds : List D}, OReps K G σ os vs → rss ρ os = some ds → Vws K G H ds vs
  | _, _, _, .nil, e => by
    cases e
    exact .nil
  | _, _, _, .cons h t, e => by
    unfold rss at e
    simp only [Option.bind_eq_bind, Option.bind_eq_some_iff, Option.pure_def, Option.some.injEq] at e
    obtain ⟨d, q1, ds, q2, rfl⟩ := e
    exact .cons (vw_of R h q1) (vws_of R t q2)
/-- the most items of a list here -/
def lim : Nat := 4000000
theorem lim_le {n : Nat} (h : n ≤ lim) : n ≤ sizeLine := Nat.le_trans h (by decide)
theorem lim_lt {n : Nat} (h : n < lim) : n < sizeLine := Nat.lt_of_lt_of_le h (by decide)
def mItems (fa : Md (List Opd)) : Md (List D) := Md.bind fa fun os ρ => Md.opt (do let ds ← ims ρ os; if ds.length ≤ lim then pure ds else none) ρ
def mTup (fa : Md (List Opd)) : Md Opd := Md.bind (mItems fa) fun ds => mC (.tuple ds)
def mLst (fa : Md (List Opd)) : Md Opd := Md.bind (mItems fa) fun ds => mC (.list ds)
def mLstN (fa : Md (List Opd)) : Md Own := Md.bind (mItems fa) fun ds => Md.ret (.lst ds)
theorem items_run {ta : TA} {fa : Md (List Opd)} (h : EvA K V ta fa) {c : Cn} {G H : Hp} {ρ : Env} {σ : St} (R : Rel K c G ρ σ H) {Q : List L2.V → Hp → Prop}
    (q : Out K V c G σ (mItems fa ρ) (fun ds _ G' H' => ds.length ≤ lim → ∀ vs, DvAll K G' ds vs → Q vs H')) : ta σ H Q := by
  refine h c G ρ σ H R _ (q.bind.mono fun os ρ1 G1 H1 e1 R1 h1 vs r => ?_)
  obtain ⟨o, eo, h3⟩ := h1.opt
  simp only [Option.bind_eq_bind, Option.bind_eq_some_iff, Option.pure_def] at eo
  obtain ⟨ds, q1, q2⟩ := eo
  split at q2
  · rename_i l
    cases q2
    exact h3.ret R1 l _ (dvs_of R1 r q1)
  · cases q2
theorem dv_tup {G : Hp} {p : Addr} {ds : List D} {vs : List L2.V} (h : DvAll K G ds vs) (hp : G p = some (.tup vs)) : Dv K G (.tuple ds) (.ref p) := by
  unfold Dv; exact ⟨p, vs, rfl, hp, h⟩
theorem dv_lst {G : Hp} {p : Addr} {ds : List D} {vs : List L2.V} (h : DvAll K G ds vs) (hp : G p = some (.lst vs)) : Dv K G (.list ds) (.ref p) := by
  unfold Dv; exact ⟨p, vs, rfl, SqL.of hp, h⟩
theorem ev_tup {ta : TA} {fa : Md (List Opd)} (h : EvA K V ta fa) : EvO K V (tTup ta) (mTup fa) := by
  intro c G ρ σ H R Q q
  refine items_run h R (q.bind.mono fun ds ρ1 G1 H1 e1 R1 h1 l vs dv => ?_)
  refine ⟨by rw [dv.length]; exact lim_le l, fun p hp => ?_⟩
  have g := Ex.new (o := .tup vs) (R1.gh hp)
  exact h1 _ _ g (R1.new hp) _ (dv_tup (DvAll.ex g _ dv) upd_same)
theorem ev_lst {ta : TA} {fa : Md (List Opd)} (h : EvA K V ta fa) : EvO K V (tLst ta) (mLst fa) := by
  intro c G ρ σ H R Q q
  refine items_run h R (q.bind.mono fun ds ρ1 G1 H1 e1 R1 h1 l vs dv => ?_)
  refine ⟨by rw [dv.length]; exact lim_le l, fun p hp => ?_⟩
  have g := Ex.new (o := .lst vs) (R1.gh hp)
  exact h1 _ _ g (R1.new hp) _ (dv_lst (DvAll.ex g _ dv) upd_same)
end
/-- a new thing beside G -/
theorem Rel.side {K : Kf} {c : Cn} {G H : Hp} {ρ : Env} {σ : St} (R : Rel K c G ρ σ H) {p : Addr} {ob : HO} (h : H p = none) : Rel K c G ρ σ (upd H p ob) := by
  have hg := R.gh h
  have h0 := R.h0 h
  refine ⟨R.le.mut hg, fun a o e f => ?_, R.g0, R.gnew, R.len, R.imm, fun i b o e => ?_, R.dis, R.pin, fun a o e => ?_⟩
  · rw [upd_ne (ne_of_none e h0)]; exact R.fr a o e f
  · obtain ⟨a, ob', s, ha, q, g, z⟩ := R.own i b o e
    exact ⟨a, ob', s, by rw [upd_ne (ne_of_none ha h)]; exact ha, q, g, z⟩
  · obtain ⟨k1, k2, k3⟩ := R.kp a o e
    exact ⟨by rw [upd_ne (ne_of_none k1 h)]; exact k1, k2, k3⟩
theorem Rel.nrep {K : Kf} {c : Cn} {G H : Hp} {ρ : Env} {σ : St} (R : Rel K c G ρ σ H) {p : Addr} {ob : HO} {o : Own} (h : H p = none) (q : ObRep K G o ob) : NRep K c G ρ σ (upd H p ob) o (.ref p) :=
  ⟨p, ob, rfl, upd_same, q, R.gh h, R.h0 h, R.k0 h, R.notOwn h⟩
section
variable {K : Kf} {V : Wish}
theorem en_lst {ta : TA} {fa : Md (List Opd)} (h : EvA K V ta fa) : EvN K V (tLst ta) (mLstN fa) := by
  intro c G ρ σ H R Q q
  refine items_run h R (q.bind.mono fun ds ρ1 G1 H1 e1 R1 h1 l vs dv => ?_)
  refine ⟨by rw [dv.length]; exact lim_le l, fun p hp => ?_⟩
  exact h1 _ _ (Ex.refl _) (R1.side hp) _ (R1.nrep hp ⟨vs, rfl, dv⟩)
/-- a new cell comes to stand still -/
def mFrz (f : Md Own) : Md Opd := Md.bind f fun o => Md.opt ((ownD o).map .dat)
theorem ev_frz {t : TE} {f : Md Own} (h : EvN K V t f) : EvO K V t (mFrz f) := by
  intro c G ρ σ H R Q q
  refine h c G ρ σ H R _ (q.bind.mono fun o ρ1 G1 H1 e1 R1 h1 v r => ?_)
  obtain ⟨p, ob, rfl, hp, q, g, z, kz, no⟩ := r
  obtain ⟨x, ex, h2⟩ := h1.opt
  obtain ⟨d, ed, rfl⟩ := Option.map_eq_some_iff.mp ex
  have e2 := Ex.new (o := ob) g
  exact h2 _ _ e2 (R1.still hp g z kz no) _ (own_dv (q.ex e2) upd_same ed)
/-- a slot's cell comes to stand still -/
def mFrzV (i : Nat) : Md Opd := fun ρ => match ρ[i]? with
  | some (some (.imm d)) => .ok (.dat d) ρ
  | some (some (.own false o)) => match ownD o with
    | some d => .ok (.dat d) (ρ.set i (some (.imm d)))
    | none => .stuck
  | _ => .stuck
end
theorem Rel.frzSlot {K : Kf} {c : Cn} {G H : Hp} {ρ : Env} {σ : St} (R : Rel K c G ρ σ H) {i : Nat} {o : Own} {d : D} (h : ρ[i]? = some (some (.own false o))) (e : ownD o = some d) :
    ∃ p ob, σ[i]? = some (some (.ref p)) ∧ G p = none ∧ Rel K c (upd G p ob) (ρ.set i (some (.imm d))) σ H ∧ Dv K (upd G p ob) d (.ref p) := by
  obtain ⟨p, ob, s, hp, q, g, z⟩ := R.own i false o h
  have li := (List.getElem?_eq_some_iff.mp h).1
  have R1 : Rel K c G (ρ.set i none) (σ.set i (some (.ref p))) H := R.drop (R.canSet (by unfold DV.canSet; rw [h]))
  have es : σ.set i (some (.ref p)) = σ := List.ext_getElem? fun j => by
    by_cases hj : i = j
    · subst hj; rw [List.getElem?_set_self (by rw [← R.len]; exact li), s]
    · rw [List.getElem?_set_ne hj]
  rw [es] at R1
  have no : NotOwn (ρ.set i none) σ p := fun j b o' hj hs => by
    rcases get_set hj with ⟨rfl, q, hl⟩ | ⟨ne, q2⟩
    · cases q
    · exact ne (R.dis i j false o b o' p h q2 s hs)
  have kz : c.keep p = none := by
    cases e : c.keep p with
    | none => rfl
    | some u => exact absurd s ((R.kp p u e).2.2 i false o h)
  have R2 := R1.still hp g z kz no
  have dv : Dv K (upd G p ob) d (.ref p) := own_dv (q.ex (Ex.new g)) upd_same e
  have R3 := R2.setImm (i := i) (R2.canSet (by unfold DV.canSet; rw [List.getElem?_set_self li])) dv
  rw [es, List.set_set] at R3
  exact ⟨p, ob, s, g, R3, dv⟩
section
variable {K : Kf} {V : Wish}
theorem ev_frzV {i : Nat} : EvO K V (tVar i) (mFrzV i) := by
  intro c G ρ σ H R Q h
  unfold mFrzV at h
  split at h
  · rename_i d e
    obtain ⟨v, s, q⟩ := R.imm i d e
    exact ⟨v, s, h.ret R v q⟩
  · rename_i o e
    split at h
    · rename_i d ed
      obtain ⟨p, ob, s, g, R2, dv⟩ := R.frzSlot e ed
      exact ⟨_, s, h _ _ (Ex.new g) R2 _ dv⟩
    · exact False.elim h
  · exact False.elim h
end
end DV

set_option Elab.async false
set_option linter.all false
set_option maxRecDepth 100000
set_option maxHeartbeats 2000000
set_option autoImplicit false
/-! DvOps: the operators on data. -/
namespace DV
open PySem L2
theorem vw_of_dv {K : Kf} {G H : Hp} {d : D} {v : V} (l : Le G H) (h : Dv K G d v) : Vw K G H d v := h.vw l

/-! data as the layer's own (Dp): no dict in it -/
mutual
theorem dp_of {K : Kf} {G H : Hp} (l : Le G H) : ∀ (d : D) {v : V}, PyData.canLay0 d = true → Dv K G d v → Dp K H v d
  | .none, v, _, h => by unfold Dv at h; subst h; exact .non
  | .bool b, v, _, h => by unfold Dv at h; subst h; exact .bl b
  | .int i, v, _, h => by unfold Dv at h; subst h; exact .int i
  | .str s, v, _, h => by unfold Dv at h; subst h; exact .str s
  | .list ds, v, c, h => by
    unfold Dv at h
    obtain ⟨a, vs, rfl, s, q⟩ := h
    exact .lst (sql_le l s) (dpAll_of l ds (by simpa [PyData.canLay0] using c) q)
  | .tuple ds, v, c, h => by
    unfold Dv at h
    obtain ⟨a, vs, rfl, s, q⟩ := h
    exact .tup (sqt_le l s) (dpAll_of l ds (by simpa [PyData.canLay0] using c) q)
  | .dict kvs, v, c, h => by simp [PyData.canLay0] at c
theorem dpAll_of {K : Kf} {G H : Hp} (l : Le G H) : ∀ (ds : List D) {vs : List V}, PyData.canLayAll0 ds = true → DvAll K G ds vs → DpAll K H vs ds
  | [], vs, _, h => by rw [h.nil_inv]; exact .nil
  | d :: ds, vs, c, h => by
    obtain ⟨v, r, rfl, h1, h2⟩ := h.cons_inv
    have c' : d.canLay0 = true ∧ PyData.canLayAll0 ds = true := by simpa [PyData.canLayAll0] using c
    exact .cons (dp_of l d c'.1 h1) (dpAll_of l ds c'.2 h2)
end
theorem dp_vw {K : Kf} {G H : Hp} (l : Le G H) {d : D} {v : V} (c : PyData.canLay0 d = true) (h : Vw K G H d v) : Dp K H v d := by
  cases d with
  | none => rw [show v = .non from h]; exact .non
  | bool b => rw [show v = .bl b from h]; exact .bl b
  | int i => rw [show v = .int i from h]; exact .int i
  | str s => rw [show v = .str s from h]; exact .str s
  | list ds =>
    obtain ⟨a, vs, rfl, s, q⟩ := h
    exact .lst s (dpAll_of l ds (by simpa [PyData.canLay0] using c) q)
  | tuple ds =>
    obtain ⟨a, vs, rfl, s, q⟩ := h
    exact .tup (sqt_le l s) (dpAll_of l ds (by simpa [PyData.canLay0] using c) q)
  | dict kvs => simp [PyData.canLay0] at c

/-! ### + -/
def rCatS (K : Kf) : R2 := fun x y H Q => ∃ l b xs zs, x = .ref l ∧ y = .ref b ∧ SqL K H l xs ∧ SqL K H b zs ∧ xs.length + zs.length ≤ sizeLine ∧ ∀ p, H p = none → Q (.ref p) (upd H p (.lst (xs ++ zs)))
theorem op_catS {X : Cx} : OpR X (binaryOp .Add) (rCatS X.K) := by
  intro pins s σ H x y v u Q I rx ry h
  obtain ⟨l, b, xs, zs, rfl, rfl, hH, hB, hz, q⟩ := h
  cases rx
  cases ry
  obtain ⟨its, r, p1, _⟩ := I.list hH
  obtain ⟨its2, r2, p2, _⟩ := I.list hB
  obtain ⟨⟨cls, dd, data, sl⟩, n, ho, hc, hdd, hd⟩ := p1
  obtain ⟨⟨cls2, dd2, data2, sl2⟩, n2, ho2, hc2, hdd2, hd2⟩ := p2
  simp only at hc hd hc2 hd2
  subst hc hd hc2 hd2
  have e : its.toArray ++ its2.toArray = (its ++ its2).toArray := by simp
  have l1 := r.length
  have l2 := r2.length
  refine concat_meets ⟨_, ho, rfl⟩ ⟨_, ho2, rfl⟩ noFill_list_add seq_list_add PySem.F.slot_list_add PySem.F.entry_list_add (PySem.F.args_list_add_2 _ _) (PyProof.Rows.list_addW l b its.toArray its2.toArray n n2 dd dd2 sl sl2 (by rw [List.size_toArray, List.size_toArray]; omega)) ⟨ho, ho2, ?_⟩
  rw [e]
  exact ⟨.ref _, _, I.lnew (t' := s.toks) (r.append r2) (by rw [List.length_append]; omega), rfl, q _ I.fresh⟩
def rStrAdd : R2 := fun x y H Q => ∃ i j, x = .str i ∧ y = .str j ∧ i.length + j.length ≤ sizeLine ∧ Q (.str (i ++ j)) H
def rAddS (K : Kf) : R2 := fun x y H Q => rI0 (fun i j => .int (i + j)) x y H Q ∨ rStrAdd x y H Q ∨ rCatS K x y H Q ∨ rCatA K x y H Q
theorem op_addS {X : Cx} : OpR X (binaryOp .Add) (rAddS X.K) := op_add.or (op_add_str.or (op_catS.or op_catA))
def gAdd : D → D → Option D
  | .int i, .int j => some (.int (i + j))
  | .str a, .str b => if a.length + b.length ≤ lim then some (.str (a ++ b)) else none
  | .list a, .list b => if a.length + b.length ≤ lim then some (.list (a ++ b)) else none
  | .tuple a, .tuple b => if a.length + b.length ≤ lim then some (.tuple (a ++ b)) else none
  | _, _ => none
theorem dv_int {K : Kf} {G : Hp} {i : Int} : Dv K G (.int i) (.int i) := by unfold Dv; rfl
theorem dv_bool {K : Kf} {G : Hp} {i : Bool} : Dv K G (.bool i) (.bl i) := by unfold Dv; rfl
theorem dv_str {K : Kf} {G : Hp} {i : Str} : Dv K G (.str i) (.str i) := by unfold Dv; rfl
theorem dv_non {K : Kf} {G : Hp} : Dv K G .none .non := by unfold Dv; rfl
/-- a new tuple, a new list -/
theorem new_tup {K : Kf} {G H : Hp} {ds : List D} {vs : List V} {Q : VK} {d : D} (e : d = .tuple ds) (h : DvAll K G ds vs) (l : Le G H) (q : ∀ v G' H', Al G H G' H' → Dv K G' d v → Q v H') : ∀ p, H p = none → Q (.ref p) (upd H p (.tup vs)) := fun p hp => by
  subst e
  have al : Al G H (upd G p (.tup vs)) (upd H p (.tup vs)) := Al.one hp
  exact q _ _ _ al (dv_tup (DvAll.ex (al.ex l) _ h) upd_same)
theorem new_lst {K : Kf} {G H : Hp} {ds : List D} {vs : List V} {Q : VK} {d : D} (e : d = .list ds) (h : DvAll K G ds vs) (l : Le G H) (q : ∀ v G' H', Al G H G' H' → Dv K G' d v → Q v H') : ∀ p, H p = none → Q (.ref p) (upd H p (.lst vs)) := fun p hp => by
  subst e
  have al : Al G H (upd G p (.lst vs)) (upd H p (.lst vs)) := Al.one hp
  exact q _ _ _ al (dv_lst (DvAll.ex (al.ex l) _ h) upd_same)
theorem ifSome {α : Type} {c : Prop} [Decidable c] {a b : α} (h : (if c then some a else none) = some b) : c ∧ a = b := by
  split at h
  · exact ⟨‹c›, Option.some.inj h⟩
  · cases h
/-- a tuple that is read may be handed on where it stands still -/
theorem vw_tup {K : Kf} {G H : Hp} {ds : List D} {v : V} (l : Le G H) (h : Vw K G H (.tuple ds) v) : Vw K G H (.tuple ds) v := h
theorem dv_tupG {K : Kf} {G : Hp} {p : Addr} {ds : List D} {vs : List V} (h : DvAll K G ds vs) (hp : G p = some (.tup vs)) : Dv K G (.tuple ds) (.ref p) := by
  unfold Dv; exact ⟨p, vs, rfl, hp, h⟩
theorem g_add {K : Kf} : Op2 K (rAddS K) gAdd := by
  intro G H d1 d2 d x y l h1 h2 e Q q
  cases d1 with
  | int i =>
    cases d2 with
    | int j =>
      cases e
      exact .inl ⟨i, j, h1, h2, q _ _ _ .refl dv_int⟩
    | _ => cases e
  | str a =>
    cases d2 with
    | str b =>
      obtain ⟨hl, rfl⟩ := ifSome (show (if a.length + b.length ≤ lim then some (PyData.str (a ++ b)) else none) = some d from e)
      exact .inr (.inl ⟨a, b, h1, h2, lim_le hl, q _ _ _ .refl dv_str⟩)
    | _ => cases e
  | list a =>
    cases d2 with
    | list b =>
      obtain ⟨hl, rfl⟩ := ifSome (show (if a.length + b.length ≤ lim then some (PyData.list (a ++ b)) else none) = some d from e)
      obtain ⟨p1, v1, rfl, s1, q1⟩ := h1
      obtain ⟨p2, v2, rfl, s2, q2⟩ := h2
      exact .inr (.inr (.inl ⟨p1, p2, v1, v2, rfl, rfl, s1, s2, by rw [q1.length, q2.length]; exact lim_le hl, new_lst rfl (q1.append q2) l q⟩))
    | _ => cases e
  | tuple a =>
    cases d2 with
    | tuple b =>
      obtain ⟨hl, rfl⟩ := ifSome (show (if a.length + b.length ≤ lim then some (PyData.tuple (a ++ b)) else none) = some d from e)
      obtain ⟨p1, v1, rfl, s1, q1⟩ := h1
      obtain ⟨p2, v2, rfl, s2, q2⟩ := h2
      refine .inr (.inr (.inr ⟨p1, p2, v1, v2, rfl, rfl, sqt_le l s1, sqt_le l s2, by rw [q1.length, q2.length]; exact lim_le hl, fun z => ?_, fun _ z => ?_, fun _ _ => new_tup rfl (q1.append q2) l q⟩))
      · refine q _ _ _ .refl ?_
        subst z
        have z' : a = [] := List.eq_nil_of_length_eq_zero (by rw [← q1.length]; rfl)
        subst z'
        exact dv_tupG q2 s2
      · refine q _ _ _ .refl ?_
        subst z
        have z' : b = [] := List.eq_nil_of_length_eq_zero (by rw [← q2.length]; rfl)
        subst z'
        rw [List.append_nil]
        exact dv_tupG q1 s1
    | _ => cases e
  | _ => cases e
/-! ### - * // % ** -/
def gI (f : Int → Int → Int) : D → D → Option D
  | .int i, .int j => some (.int (f i j))
  | _, _ => none
def gIC (c : Int → Int → Bool) (f : Int → Int → Int) : D → D → Option D
  | .int i, .int j => if c i j then some (.int (f i j)) else none
  | _, _ => none
theorem g_I0 {K : Kf} {f : Int → Int → Int} : Op2 K (rI0 fun i j => .int (f i j)) (gI f) := by
  intro G H d1 d2 d x y l h1 h2 e Q q
  cases d1 with
  | int i =>
    cases d2 with
    | int j => cases e; exact ⟨i, j, h1, h2, q _ _ _ .refl dv_int⟩
    | _ => cases e
  | _ => cases e
theorem g_IC {K : Kf} {C : Int → Int → Prop} {c : Int → Int → Bool} {f : Int → Int → Int} (hc : ∀ i j, c i j = true → C i j) : Op2 K (rI C fun i j => .int (f i j)) (gIC c f) := by
  intro G H d1 d2 d x y l h1 h2 e Q q
  cases d1 with
  | int i =>
    cases d2 with
    | int j =>
      obtain ⟨hl, rfl⟩ := ifSome (show (if c i j = true then some (PyData.int (f i j)) else none) = some d from e)
      exact ⟨i, j, h1, h2, hc i j hl, q _ _ _ .refl dv_int⟩
    | _ => cases e
  | _ => cases e
def gSub : D → D → Option D := gI (· - ·)
theorem g_sub {K : Kf} : Op2 K (rI0 fun i j => .int (i - j)) gSub := g_I0
/-- one factor within a million bits, the other too -/
def cMul (i j : Int) : Bool := decide (i.natAbs.log2 + j.natAbs.log2 < 1000000)
def gMul : D → D → Option D := gIC cMul (· * ·)
theorem g_mul {K : Kf} : Op2 K (rI CMulW fun i j => .int (i * j)) gMul := g_IC fun i j h => of_decide_eq_true (p := i.natAbs.log2 + j.natAbs.log2 < 1000000) h
def cDiv (_ j : Int) : Bool := decide (0 < j) && decide (j.natAbs.log2 < 9000)
def gDiv : D → D → Option D := gIC cDiv (· / ·)
theorem g_div {K : Kf} : Op2 K (rI CDivW fun i j => .int (i / j)) gDiv := g_IC fun i j h => by
  unfold cDiv at h
  rw [Bool.and_eq_true] at h
  exact ⟨of_decide_eq_true h.1, of_decide_eq_true h.2⟩
def cMod (_ j : Int) : Bool := decide (0 < j)
def gMod : D → D → Option D := gIC cMod (· % ·)
theorem g_mod {K : Kf} : Op2 K (rI (fun _ j => 0 < j) fun i j => .int (i % j)) gMod := g_IC fun i j h => of_decide_eq_true h
def cPow (i j : Int) : Bool := decide (0 ≤ j) && decide (j ≤ 1000) && decide (i.natAbs < 2 ^ 64)
def gPow : D → D → Option D := gIC cPow fun i j => i ^ j.toNat
theorem g_pow {K : Kf} : Op2 K (rI CPow fun i j => .int (i ^ j.toNat)) gPow := g_IC fun i j h => by
  unfold cPow at h
  simp only [Bool.and_eq_true, decide_eq_true_eq] at h
  exact ⟨h.1.1, by omega, h.2⟩
def gNeg : D → Option D
  | .int i => some (.int (-i))
  | _ => none
theorem g_neg {K : Kf} : Op1 K (rU fun i => .int (-i)) gNeg := by
  intro G H d1 d x l h1 e Q q
  cases d1 with
  | int i => cases e; exact ⟨i, h1, q _ _ _ .refl dv_int⟩
  | _ => cases e

/-! ### comparisons -/
def gEq (a b : D) : Option D := if SeqAt.shaped a && SeqAt.shaped b then some (.bool (PyData.eqv a b)) else none
def gNe (a b : D) : Option D := if SeqAt.shaped a && SeqAt.shaped b then some (.bool (!PyData.eqv a b)) else none
theorem g_eq {K : Kf} : Op2 K (rEqD K) gEq := by
  intro G H d1 d2 d x y l h1 h2 e Q q
  obtain ⟨hl, rfl⟩ := ifSome (show (if (SeqAt.shaped d1 && SeqAt.shaped d2) = true then some (PyData.bool (PyData.eqv d1 d2)) else none) = some d from e)
  rw [Bool.and_eq_true] at hl
  exact ⟨d1, d2, dp_vw l (SeqAt.canLay_of_shaped hl.1) h1, dp_vw l (SeqAt.canLay_of_shaped hl.2) h2, hl.1, hl.2, q _ _ _ .refl dv_bool⟩
theorem g_ne {K : Kf} : Op2 K (rNeD K) gNe := by
  intro G H d1 d2 d x y l h1 h2 e Q q
  obtain ⟨hl, rfl⟩ := ifSome (show (if (SeqAt.shaped d1 && SeqAt.shaped d2) = true then some (PyData.bool (!PyData.eqv d1 d2)) else none) = some d from e)
  rw [Bool.and_eq_true] at hl
  exact ⟨d1, d2, dp_vw l (SeqAt.canLay_of_shaped hl.1) h1, dp_vw l (SeqAt.canLay_of_shaped hl.2) h2, hl.1, hl.2, q _ _ _ .refl dv_bool⟩
def rSS (p : List Nat → List Nat → Bool) : R2 := fun x y H Q => ∃ i j, x = .str i ∧ y = .str j ∧ Q (.bl (p i.cps.toList j.cps.toList)) H
def rOrd (p : Int → Int → Bool) (s : List Nat → List Nat → Bool) : R2 := fun x y H Q => rI0 (fun i j => .bl (p i j)) x y H Q ∨ rSS s x y H Q
def gOrd (p : Int → Int → Bool) (s : List Nat → List Nat → Bool) : D → D → Option D
  | .int i, .int j => some (.bool (p i j))
  | .str i, .str j => some (.bool (s i.cps.toList j.cps.toList))
  | _, _ => none
theorem g_ord {K : Kf} {p : Int → Int → Bool} {s : List Nat → List Nat → Bool} : Op2 K (rOrd p s) (gOrd p s) := by
  intro G H d1 d2 d x y l h1 h2 e Q q
  cases d1 with
  | int i =>
    cases d2 with
    | int j => cases e; exact .inl ⟨i, j, h1, h2, q _ _ _ .refl dv_bool⟩
    | _ => cases e
  | str i =>
    cases d2 with
    | str j => cases e; exact .inr ⟨i, j, h1, h2, q _ _ _ .refl dv_bool⟩
    | _ => cases e
  | _ => cases e
def gLt := gOrd (fun i j => decide (i < j)) fun a b => decide (a < b)
def gLe := gOrd (fun i j => decide (i ≤ j)) fun a b => !decide (b < a)
def gGt := gOrd (fun i j => decide (j < i)) fun a b => decide (b < a)
def gGe := gOrd (fun i j => decide (j ≤ i)) fun a b => !decide (a < b)
section
variable {X : Cx}
theorem op_ltS : OpR X (compareOp .Lt) (rOrd (fun i j => decide (i < j)) fun a b => decide (a < b)) := op_lt.or op_lt_str
theorem op_leS : OpR X (compareOp .LtE) (rOrd (fun i j => decide (i ≤ j)) fun a b => !decide (b < a)) := op_le.or op_le_str
theorem op_gtS : OpR X (compareOp .Gt) (rOrd (fun i j => decide (j < i)) fun a b => decide (b < a)) := op_gt.or op_gt_str
theorem op_geS : OpR X (compareOp .GtE) (rOrd (fun i j => decide (j ≤ i)) fun a b => !decide (a < b)) := op_ge.or op_ge_str
end
theorem g_lt {K : Kf} : Op2 K (rOrd (fun i j => decide (i < j)) fun a b => decide (a < b)) gLt := g_ord
theorem g_le {K : Kf} : Op2 K (rOrd (fun i j => decide (i ≤ j)) fun a b => !decide (b < a)) gLe := g_ord
theorem g_gt {K : Kf} : Op2 K (rOrd (fun i j => decide (j < i)) fun a b => decide (b < a)) gGt := g_ord
theorem g_ge {K : Kf} : Op2 K (rOrd (fun i j => decide (j ≤ i)) fun a b => !decide (a < b)) gGe := g_ord
/-- is None, is not None -/
def isNone : D → Bool
  | .none => true
  | _ => false
theorem vw_none {K : Kf} {G H : Hp} {d : D} {v : V} (h : Vw K G H d v) : decide (v = .non) = isNone d := by
  cases d with
  | none => rw [show v = .non from h]; rfl
  | bool b => rw [show v = .bl b from h]; rfl
  | int b => rw [show v = .int b from h]; rfl
  | str b => rw [show v = .str b from h]; rfl
  | list ds => obtain ⟨a, vs, rfl, _⟩ := h; rfl
  | tuple ds => obtain ⟨a, vs, rfl, _⟩ := h; rfl
  | dict ds => obtain ⟨a, vs, rfl, _⟩ := h; rfl
def gIsN : D → D → Option D
  | a, .none => some (.bool (isNone a))
  | _, _ => none
def gNotN : D → D → Option D
  | a, .none => some (.bool (!isNone a))
  | _, _ => none
theorem g_isN {K : Kf} : Op2 K (fun x y H Q => y = .non ∧ Q (.bl (decide (x = .non))) H) gIsN := by
  intro G H d1 d2 d x y l h1 h2 e Q q
  cases d2 with
  | none =>
    cases e
    refine ⟨h2, q _ _ _ .refl ?_⟩
    rw [vw_none h1]; exact dv_bool
  | _ => cases e
theorem g_notN {K : Kf} : Op2 K (fun x y H Q => y = .non ∧ Q (.bl (!decide (x = .non))) H) gNotN := by
  intro G H d1 d2 d x y l h1 h2 e Q q
  cases d2 with
  | none =>
    cases e
    refine ⟨h2, q _ _ _ .refl ?_⟩
    rw [vw_none h1]; exact dv_bool
  | _ => cases e
/-- is True, is not True .. of bools -/
def gIsB : D → D → Option D
  | .bool a, .bool b => some (.bool (decide (a = b)))
  | _, _ => none
def gNotB : D → D → Option D
  | .bool a, .bool b => some (.bool (!decide (a = b)))
  | _, _ => none
theorem g_isB {K : Kf} : Op2 K rIsB gIsB := by
  intro G H d1 d2 d x y l h1 h2 e Q q
  cases d1 with
  | bool i =>
    cases d2 with
    | bool j => cases e; exact ⟨i, j, h1, h2, q _ _ _ .refl dv_bool⟩
    | _ => cases e
  | _ => cases e
theorem g_notB {K : Kf} : Op2 K rNotB gNotB := by
  intro G H d1 d2 d x y l h1 h2 e Q q
  cases d1 with
  | bool i =>
    cases d2 with
    | bool j => cases e; exact ⟨i, j, h1, h2, q _ _ _ .refl dv_bool⟩
    | _ => cases e
  | _ => cases e

/-! ### keys -/
def keyOf : D → Option Key
  | .int i => some (.inl i)
  | .str s => some (.inr s)
  | _ => none
def isKey (q : Key) : D → Bool
  | .int i => decide (q = .inl i)
  | .str s => decide (q = .inr s)
  | _ => false
theorem isKey_key (q k : Key) : isKey q (keyD k) = decide (k = q) := by
  cases k with
  | inl i => show decide (q = .inl i) = decide (Sum.inl i = q); exact decide_eq_decide.mpr ⟨Eq.symm, Eq.symm⟩
  | inr i => show decide (q = .inr i) = decide (Sum.inr i = q); exact decide_eq_decide.mpr ⟨Eq.symm, Eq.symm⟩
def lookD (kvs : List (D × D)) (q : Key) : Option D := (kvs.find? fun p => isKey q p.1).map (·.2)
theorem keyOf_vw {K : Kf} {G H : Hp} {d : D} {v : V} {q : Key} (h : Vw K G H d v) (e : keyOf d = some q) : v = kV q := by
  cases d with
  | int i => cases e; exact h
  | str i => cases e; exact h
  | _ => cases e
theorem look_ks {K : Kf} {G : Hp} (q : Key) : ∀ {kvs : List (D × D)} {ks : List (Key × V)}, DvKs K G kvs ks → (lookD kvs q = none ∧ valV ks q = none) ∨ ∃ d v, lookD kvs q = some d ∧ valV ks q = some v ∧ Dv K G d v
  | [], ks, h => by unfold DvKs at h; subst h; exact .inl ⟨rfl, rfl⟩
  | (k, d) :: r, ks, h => by
    unfold DvKs at h
    obtain ⟨q', v, r', rfl, rfl, h1, h2⟩ := h
    by_cases e : q' = q
    · subst e
      refine .inr ⟨d, v, ?_, valV_pos rfl, h1⟩
      show ((((keyD q', d) :: r).find? fun p => isKey q' p.1)).map (·.2) = some d
      rw [List.find?_cons_of_pos (by show isKey q' (keyD q') = true; rw [isKey_key]; simp)] <;> rfl
    · have : lookD ((keyD q', d) :: r) q = lookD r q := by
        show ((((keyD q', d) :: r).find? fun p => isKey q p.1)).map (·.2) = _
        rw [List.find?_cons_of_neg (by show ¬ isKey q (keyD q') = true; rw [isKey_key]; simp [e])] <;> rfl
      rw [this, valV_neg (p := (q', v)) e]
      exact look_ks q h2

/-! ### in -/
def rInK : R2 := fun x y H Q => ∃ a o, y = .ref a ∧ DGet H a x o ∧ Q (.bl o.isSome) H
def rNotInK : R2 := fun x y H Q => ∃ a o, y = .ref a ∧ DGet H a x o ∧ Q (.bl (!o.isSome)) H
def rInSign : R2 := fun x y H Q => ∃ (c : Nat) (z : Str), x = .str ⟨#[c]⟩ ∧ y = .str z ∧ Q (.bl (decide (c ∈ z.cps.toList))) H
def rInS (K : Kf) : R2 := fun x y H Q => rInD K x y H Q ∨ rInK x y H Q ∨ rInSign x y H Q ∨ rIn K false x y H Q
def rNotInS (K : Kf) : R2 := fun x y H Q => rNotInD K x y H Q ∨ rNotInK x y H Q ∨ rIn K true x y H Q
section
variable {X : Cx}
theorem op_inK (hu : X.A.units + 1 < cLine) : OpR X (compareOp .In) rInK := by
  intro pins s σ H x y v u Q I rx ry h
  obtain ⟨a, o, rfl, g, q⟩ := h
  cases ry
  exact d_in hu I g rx fun s3 I3 => ⟨.bl o.isSome, H, I3, rfl, q⟩
theorem op_notInK (hu : X.A.units + 1 < cLine) : OpR X (compareOp .NotIn) rNotInK := by
  intro pins s σ H x y v u Q I rx ry h
  obtain ⟨a, o, rfl, g, q⟩ := h
  cases ry
  exact d_notIn hu I g rx fun s3 I3 => ⟨.bl (!o.isSome), H, I3, rfl, q⟩
theorem op_inS (hu : X.A.units + 65 < cLine) : OpR X (compareOp .In) (rInS X.K) := (op_inD hu).or ((op_inK (by omega)).or (op_in_sign.or op_in_seq))
theorem op_notInS (hu : X.A.units + 65 < cLine) : OpR X (compareOp .NotIn) (rNotInS X.K) := (op_notInD hu).or ((op_notInK (by omega)).or op_notIn_seq)
end
/-- flat data -/
def flatD : D → Bool
  | .none => true
  | .bool _ => true
  | .int _ => true
  | .str _ => true
  | _ => false
def inB : D → D → Option Bool
  | x, .list ds => if SeqAt.shaped x && SeqAt.shaped (.list ds) then some (ds.any fun z => PyData.eqv z x) else none
  | x, .tuple ds => if flatD x && ds.all flatD then some (ds.any fun z => PyData.eqv z x) else none
  | x, .dict kvs => match keyOf x with
    | some q => some (lookD kvs q).isSome
    | none => none
  | .str x, .str z => match x.cps.toList with
    | [c] => some (decide (c ∈ z.cps.toList))
    | _ => none
  | _, _ => none
def gIn (x y : D) : Option D := (inB x y).map .bool
def gNotIn : D → D → Option D
  | _, .str _ => none
  | x, y => (inB x y).map fun b => .bool !b
theorem flat_v {K : Kf} {G H : Hp} {d : D} {v : V} (h : Vw K G H d v) (f : flatD d = true) : flatV v = true := by
  cases d with
  | none => rw [show v = .non from h]; rfl
  | bool b => rw [show v = .bl b from h]; rfl
  | int b => rw [show v = .int b from h]; rfl
  | str b => rw [show v = .str b from h]; rfl
  | _ => cases f
theorem flat_eqv {K : Kf} {G H : Hp} {d e : D} {v w : V} (h : Vw K G H d v) (h' : Vw K G H e w) (f : flatD d = true) (f' : flatD e = true) : eqV v w = PyData.eqv d e := by
  cases d with
  | none => rw [show v = .non from h]; cases e <;> first | (cases f'; done) | (first | rw [show w = .non from h'] | rw [show w = .bl _ from h'] | rw [show w = .int _ from h'] | rw [show w = .str _ from h']) <;> rfl
  | bool b => rw [show v = .bl b from h]; cases e <;> first | (cases f'; done) | (first | rw [show w = .non from h'] | rw [show w = .bl _ from h'] | rw [show w = .int _ from h'] | rw [show w = .str _ from h']) <;> rfl
  | int b => rw [show v = .int b from h]; cases e <;> first | (cases f'; done) | (first | rw [show w = .non from h'] | rw [show w = .bl _ from h'] | rw [show w = .int _ from h'] | rw [show w = .str _ from h']) <;> rfl
  | str b => rw [show v = .str b from h]; cases e <;> first | (cases f'; done) | (first | rw [show w = .non from h'] | rw [show w = .bl _ from h'] | rw [show w = .int _ from h'] | rw [show w = .str _ from h']) <;> rfl
  | _ => cases f
theorem flats {K : Kf} {G H : Hp} (l : Le G H) {d : D} {v : V} (h : Vw K G H d v) (f : flatD d = true) : ∀ {ds : List D} {vs : List V}, DvAll K G ds vs → ds.all flatD = true → vs.all flatV = true ∧ (vs.any fun y => eqV y v) = ds.any fun z => PyData.eqv z d
  | [], vs, q, _ => by rw [q.nil_inv]; exact ⟨rfl, rfl⟩
  | e :: ds, vs, q, fs => by
    obtain ⟨w, r, rfl, h1, h2⟩ := q.cons_inv
    rw [List.all_cons, Bool.and_eq_true] at fs
    obtain ⟨g1, g2⟩ := flats l h f h2 fs.2
    have hw := Dv.vw l h1
    rw [List.all_cons, List.any_cons, List.any_cons, g1, g2, flat_v hw fs.1, flat_eqv hw h fs.1 f]
    exact ⟨rfl, rfl⟩
theorem in_run {K : Kf} {G H : Hp} {d1 d2 : D} {b : Bool} {x y : V} (l : Le G H) (h1 : Vw K G H d1 x) (h2 : Vw K G H d2 y) (e : inB d1 d2 = some b) :
    (∃ d ds, Dp K H x d ∧ Dp K H y (.list ds) ∧ SeqAt.shaped d = true ∧ SeqAt.shaped (.list ds) = true ∧ b = ds.any fun z => PyData.eqv z d) ∨ (∃ a o, y = .ref a ∧ DGet H a x o ∧ b = o.isSome) ∨
      (∃ (c : Nat) (z : Str), x = .str ⟨#[c]⟩ ∧ y = .str z ∧ b = decide (c ∈ z.cps.toList)) ∨ ∃ p xs, y = .ref p ∧ SqT K H p xs ∧ flatV x = true ∧ xs.all flatV = true ∧ b = inV x xs := by
  cases d2 with
  | list ds =>
    have e' : (if (SeqAt.shaped d1 && SeqAt.shaped (.list ds)) = true then some (ds.any fun z => PyData.eqv z d1) else none) = some b := by cases d1 <;> exact e
    obtain ⟨hl, rfl⟩ := ifSome e'
    rw [Bool.and_eq_true] at hl
    exact .inl ⟨d1, ds, dp_vw l (SeqAt.canLay_of_shaped hl.1) h1, dp_vw l (SeqAt.canLay_of_shaped hl.2) h2, hl.1, hl.2, rfl⟩
  | tuple ds =>
    have e' : (if (flatD d1 && ds.all flatD) = true then some (ds.any fun z => PyData.eqv z d1) else none) = some b := by cases d1 <;> exact e
    obtain ⟨hl, rfl⟩ := ifSome e'
    rw [Bool.and_eq_true] at hl
    obtain ⟨p, vs, rfl, s, q⟩ := h2
    obtain ⟨g1, g2⟩ := flats l h1 hl.1 q hl.2
    exact .inr (.inr (.inr ⟨p, vs, rfl, sqt_le l s, flat_v h1 hl.1, g1, g2.symm⟩))
  | dict kvs =>
    have e' : (match keyOf d1 with | some q => some (lookD kvs q).isSome | none => none) = some b := by cases d1 <;> exact e
    split at e'
    · rename_i q eq
      cases e'
      obtain ⟨a, ks, rfl, r, hk⟩ := h2
      have ex := keyOf_vw h1 eq
      subst ex
      refine .inr (.inl ⟨a, valV ks q, rfl, .inl ⟨ks, q, r, rfl, rfl⟩, ?_⟩)
      rcases look_ks q hk with ⟨e1, e2⟩ | ⟨d, v, e1, e2, _⟩
      · rw [e1, e2] <;> rfl
      · rw [e1, e2] <;> rfl
    · cases e'
  | str z =>
    cases d1 with
    | str x' =>
      have e' : (match x'.cps.toList with | [c] => some (decide (c ∈ z.cps.toList)) | _ => none) = some b := e
      split at e'
      · rename_i c ec
        cases e'
        have hx : x = .str x' := h1
        have hx' : x' = ⟨#[c]⟩ := by
          obtain ⟨cps⟩ := x'
          have : cps = #[c] := by rw [← Array.toList_inj]; exact ec
          rw [this]
        subst hx'
        exact .inr (.inr (.inl ⟨c, z, hx, h2, rfl⟩))
      · cases e'
    | _ => cases e
  | _ => cases d1 <;> cases e
theorem g_in {K : Kf} : Op2 K (rInS K) gIn := by
  intro G H d1 d2 d x y l h1 h2 e Q q
  obtain ⟨b, eb, rfl⟩ := Option.map_eq_some_iff.mp e
  have q' : Q (.bl b) H := q _ _ _ .refl dv_bool
  rcases in_run l h1 h2 eb with ⟨d, ds, a1, a2, a3, a4, rfl⟩ | ⟨a, o, a1, a2, rfl⟩ | ⟨c, z, a1, a2, rfl⟩ | ⟨p, xs, a1, a2, a3, a4, rfl⟩
  · exact .inl ⟨d, ds, a1, a2, a3, a4, q'⟩
  · exact .inr (.inl ⟨a, o, a1, a2, q'⟩)
  · exact .inr (.inr (.inl ⟨c, z, a1, a2, q'⟩))
  · exact .inr (.inr (.inr ⟨p, xs, a1, .inr a2, a3, a4, q'⟩))
theorem g_notIn {K : Kf} : Op2 K (rNotInS K) gNotIn := by
  intro G H d1 d2 d x y l h1 h2 e Q q
  have e' : (∀ s, d2 ≠ .str s) ∧ (inB d1 d2).map (fun b => PyData.bool !b) = some d := by
    cases d2 with
    | str s => cases e
    | _ => exact ⟨fun _ z => (nomatch z), e⟩
  obtain ⟨ns, e'⟩ := e'
  obtain ⟨b, eb, rfl⟩ := Option.map_eq_some_iff.mp e'
  have q' : Q (.bl (!b)) H := q _ _ _ .refl dv_bool
  rcases in_run l h1 h2 eb with ⟨d, ds, a1, a2, a3, a4, rfl⟩ | ⟨a, o, a1, a2, rfl⟩ | ⟨c, z, a1, a2, rfl⟩ | ⟨p, xs, a1, a2, a3, a4, rfl⟩
  · exact .inl ⟨d, ds, a1, a2, a3, a4, q'⟩
  · exact .inr (.inl ⟨a, o, a1, a2, q'⟩)
  · exfalso
    cases d2 with
    | str s => exact ns s rfl
    | none => rw [a2] at h2; cases (show V.str z = .non from h2)
    | bool b => rw [a2] at h2; cases (show V.str z = .bl b from h2)
    | int b => rw [a2] at h2; cases (show V.str z = .int b from h2)
    | list ds => obtain ⟨_, _, r, _⟩ := h2; rw [a2] at r; cases r
    | tuple ds => obtain ⟨_, _, r, _⟩ := h2; rw [a2] at r; cases r
    | dict ds => obtain ⟨_, _, r, _⟩ := h2; rw [a2] at r; cases r
  · exact .inr (.inr ⟨p, xs, a1, .inr a2, a3, a4, q'⟩)
end DV

set_option Elab.async false
set_option linter.all false
set_option maxRecDepth 100000
set_option maxHeartbeats 2000000
set_option autoImplicit false
/-! DvMore: subscripts, slices, calls of built-ins. -/
namespace DV
open PySem L2

/-! ### subscripts -/
def rIxD : R2 := fun x y H Q => ∃ a v, x = .ref a ∧ DGet H a y (some v) ∧ Q v H
section
variable {X : Cx}
theorem ix_dict (hu : X.A.units + 1 < cLine) : IxR X rIxD := by
  intro value slice pins s σ H x y v u Q I rx ry h hs
  obtain ⟨a, z, rfl, g, q⟩ := h
  cases rx
  have hT := dict_typeIs I g
  unfold PyProof.Rows.subscriptTail
  refine wpAny_bind ?_
  rw [getitemInPython_of_ne hT.not_modules]
  refine wpAny_bind (wpAny_specialOf hT PySem.F.slot_dict_getitem.lookup ?_)
  have fin : wpAny (model X.prog X.w) X.A (subscripted slice false (.ref a) u) (fun r s₃ => wpAny (model X.prog X.w) X.A (letTemporaryGo value (.ref a) r >>= fun _ => pure r) (EP X pins σ Q) X.xe s₃) X.xe s := by
    rw [hs]
    refine wpAny_operating (d_getItem hu I g ry fun w' s' I' r' => ?_)
    exact wpAny_bind (wpAny_letTemporaryGo (wpAny_pure ⟨z, H, I', r', q⟩))
  first
    | exact wpAny_pure (wpAny_bind fin)
    | exact wpAny_bind (wpAny_pure (wpAny_bind fin))
    | exact wpAny_bind fin
def rIxAll (K : Kf) : R2 := fun x y H Q => rIx K x y H Q ∨ rIxD x y H Q
theorem ix_all (hu : X.A.units + 1 < cLine) : IxR X (rIxAll X.K) := ix_seq.or (ix_dict hu)
end
def gIx : D → D → Option D
  | .list ds, .int i => atI ds i
  | .tuple ds, .int i => atI ds i
  | .str z, .int i => if z.length ≤ lim then (atI z.cps.toList i).map fun c => .str ⟨#[c]⟩ else none
  | .dict kvs, k => match keyOf k with
    | some q => lookD kvs q
    | none => none
  | _, _ => none
theorem atI_dv {K : Kf} {G : Hp} {ds : List D} {vs : List V} {i : Int} {d : D} (h : DvAll K G ds vs) (e : atI ds i = some d) : ∃ v, atI vs i = some v ∧ Dv K G d v := by
  unfold atI at e
  obtain ⟨j, e1, e2⟩ := Option.bind_eq_some_iff.mp e
  obtain ⟨v, hv, q⟩ := h.get e2
  refine ⟨v, ?_, q⟩
  unfold atI
  rw [h.length, e1]
  exact hv
theorem g_ix {K : Kf} : Op2 K (rIxAll K) gIx := by
  intro G H d1 d2 d x y l h1 h2 e Q q
  cases d1 with
  | list ds =>
    cases d2 with
    | int i =>
      obtain ⟨a, vs, rfl, s, r⟩ := h1
      obtain ⟨v, ev, dv⟩ := atI_dv r (show atI ds i = some d from e)
      exact .inl (.inl ⟨a, vs, i, v, rfl, h2, s, ev, q _ _ _ .refl dv⟩)
    | _ => cases e
  | tuple ds =>
    cases d2 with
    | int i =>
      obtain ⟨a, vs, rfl, s, r⟩ := h1
      obtain ⟨v, ev, dv⟩ := atI_dv r (show atI ds i = some d from e)
      exact .inl (.inr (.inl ⟨a, vs, i, v, rfl, h2, sqt_le l s, ev, q _ _ _ .refl dv⟩))
    | _ => cases e
  | str z =>
    cases d2 with
    | int i =>
      have e' : (if z.length ≤ lim then (atI z.cps.toList i).map (fun c => PyData.str ⟨#[c]⟩) else none) = some d := e
      split at e'
      · rename_i hl
        obtain ⟨c, ec, rfl⟩ := Option.map_eq_some_iff.mp e'
        exact .inl (.inr (.inr ⟨z, i, c, h1, h2, lim_le hl, ec, q _ _ _ .refl dv_str⟩))
      · cases e'
    | _ => cases e
  | dict kvs =>
    have e' : (match keyOf d2 with | some q => lookD kvs q | none => none) = some d := by cases d2 <;> exact e
    split at e'
    · rename_i k ek
      obtain ⟨a, ks, rfl, r, hk⟩ := h1
      have ey := keyOf_vw h2 ek
      subst ey
      rcases look_ks k hk with ⟨e1, e2⟩ | ⟨d', v, e1, e2, dv⟩
      · rw [e1] at e'; cases e'
      · rw [e1] at e'; cases e'
        exact .inr ⟨a, v, rfl, .inl ⟨ks, k, r, rfl, e2.symm⟩, q _ _ _ .refl dv⟩
    · cases e'
  | _ => cases d2 <;> cases e

/-! ### slices -/
def EvP (K : Kf) (W : Wish) (t : TO) (f : Md (Option Int)) : Prop := ∀ c G ρ σ H, Rel K c G ρ σ H → ∀ Q : Option Int → Hp → Prop,
  Out K W c G σ (f ρ) (fun o _ _ H' => Q o H') → t σ H Q
section
variable {K : Kf} {W : Wish}
theorem ep_none : EvP K W tNoPart (Md.ret none) := fun c G ρ σ H R Q h => h.ret R
def mPart (f : Md Opd) : Md (Option Int) := Md.bind f fun o ρ => match rs ρ o with
  | some (.int i) => .ok (some i) ρ
  | _ => .stuck
theorem ep_some {t : TE} {f : Md Opd} (h : EvO K W t f) : EvP K W (tPart t) (mPart f) := by
  intro c G ρ σ H R Q q
  refine h c G ρ σ H R _ (q.bind.mono fun o ρ1 G1 H1 e1 R1 h1 v r => ?_)
  split at h1
  · rename_i i ei
    exact ⟨i, vw_of R1 r ei, h1.ret R1⟩
  · exact False.elim h1
end
def cutG {α : Type} (xs : List α) (lo hi : Option Int) : List α := (xs.drop (HT.sIx xs.length 0 lo)).take (HT.sIx xs.length xs.length hi - HT.sIx xs.length 0 lo)
theorem cut_dv {K : Kf} {G : Hp} {ds : List D} {vs : List V} (h : DvAll K G ds vs) (lo hi : Option Int) : DvAll K G (cutG ds lo hi) (cutV vs lo hi) := by
  unfold cutG cutV
  rw [h.length]
  exact (h.drop _).take _
def rSlAll (K : Kf) : V → Option Int → Option Int → Hp → VK → Prop := fun x lo hi H Q => rSlL K x lo hi H Q ∨ rSlA K x lo hi H Q
theorem sl_all {X : Cx} : SlR X (rSlAll X.K) := sl_list.or sl_tupA
def gSl (d : D) (lo hi : Option Int) : Option D := match d with
  | .list ds => some (.list (cutG ds lo hi))
  | .tuple ds => some (.tuple (cutG ds lo hi))
  | _ => none
section
variable {K : Kf} {W : Wish}
def mSl (f : Md Opd) (l h : Md (Option Int)) : Md Opd := Md.bind f fun o => Md.bind l fun lo => Md.bind h fun hi ρ => Md.opt (do let d ← rs ρ o; let r ← gSl d lo hi; pure (.dat r)) ρ
theorem whole_cut {α : Type} {xs : List α} {lo hi : Option Int} (h : HT.sIx xs.length 0 lo = 0 ∧ HT.sIx xs.length xs.length hi = xs.length) : cutG xs lo hi = xs := by
  unfold cutG
  rw [h.1, h.2]
  simp
theorem ev_sl {te : TE} {tl th : TO} {f : Md Opd} {l h : Md (Option Int)} (he : EvO K W te f) (hl : EvP K W tl l) (hh : EvP K W th h) : EvO K W (tSl (rSlAll K) te tl th) (mSl f l h) := by
  intro c G ρ σ H R Q q
  refine he c G ρ σ H R _ (q.bind.mono fun o ρ1 G1 H1 e1 R1 h1 v r => ?_)
  refine hl c G1 ρ1 σ H1 R1 _ (h1.bind.mono fun lo ρ2 G2 H2 e2 R2 h2 => ?_)
  refine hh c G2 ρ2 σ H2 R2 _ (h2.bind.mono fun hi ρ3 G3 H3 e3 R3 h3 => ?_)
  obtain ⟨o', eo, h4⟩ := h3.opt
  simp only [Option.bind_eq_bind, Option.bind_eq_some_iff, Option.pure_def, Option.some.injEq] at eo
  obtain ⟨d, q1, d', q2, rfl⟩ := eo
  have vw := vw_of R3 (r.ex (e2.trans e3)) q1
  cases d with
  | list ds =>
    cases q2
    obtain ⟨a, vs, rfl, s, dv⟩ := vw
    refine .inl ⟨a, vs, rfl, s, fun p hp => ?_⟩
    have g := Ex.new (o := .lst (cutV vs lo hi)) (R3.gh hp)
    exact h4 _ _ g (R3.new hp) _ (dv_lst (DvAll.ex g _ (cut_dv dv lo hi)) upd_same)
  | tuple ds =>
    cases q2
    obtain ⟨a, vs, rfl, s, dv⟩ := vw
    refine .inr ⟨a, vs, rfl, sqt_le R3.le s, fun z => ?_, fun _ p hp => ?_⟩
    · rw [dv.length] at z
      refine h4.ret R3 _ ?_
      rw [whole_cut z]
      exact dv_tupG dv s
    · have g := Ex.new (o := .tup (cutV vs lo hi)) (R3.gh hp)
      exact h4 _ _ g (R3.new hp) _ (dv_tup (DvAll.ex g _ (cut_dv dv lo hi)) upd_same)
  | _ => cases q2

/-! ### built-ins, by data -/
def ClD (K : Kf) (r : List V → Hp → VK → Prop) (g : List D → Option D) : Prop := ∀ (G H : Hp) (ds : List D) (d : D) (vs : List V), Le G H → Vws K G H ds vs → g ds = some d → ∀ Q : VK,
  (∀ v G' H', Al G H G' H' → Dv K G' d v → Q v H') → r vs H Q
def mCall (g : List D → Option D) (fa : Md (List Opd)) : Md Opd := Md.bind fa fun os ρ => Md.opt (do let ds ← rss ρ os; let d ← g ds; pure (.dat d)) ρ
theorem ev_callB {r : List V → Hp → VK → Prop} {g : List D → Option D} {ta : TA} {fa : Md (List Opd)} (hr : ClD K r g) (ha : EvA K W ta fa) : EvO K W (tCB r ta) (mCall g fa) := by
  intro c G ρ σ H R Q q
  refine ha c G ρ σ H R _ (q.bind.mono fun os ρ1 G1 H1 e1 R1 h1 vs rr => ?_)
  obtain ⟨o, eo, h3⟩ := h1.opt
  simp only [Option.bind_eq_bind, Option.bind_eq_some_iff, Option.pure_def, Option.some.injEq] at eo
  obtain ⟨ds, q1, d, q2, rfl⟩ := eo
  refine hr G1 H1 ds d vs R1.le (vws_of R1 rr q1) q2 Q fun v G' H' al dv => ?_
  obtain ⟨R3, e3, _⟩ := Rel.al al R1
  exact h3 G' H' e3 R3 v dv
/-- .. a new list is given, all else stays -/
def ClN (K : Kf) (r : List V → Hp → VK → Prop) (g : List D → Option Own) : Prop := ∀ (G H : Hp) (ds : List D) (o : Own) (vs : List V), Le G H → Vws K G H ds vs → g ds = some o → ∀ Q : VK,
  (∀ p ob, H p = none → ObRep K G o ob → Q (.ref p) (upd H p ob)) → r vs H Q
def mCallN (g : List D → Option Own) (fa : Md (List Opd)) : Md Own := Md.bind fa fun os ρ => Md.opt (do let ds ← rss ρ os; g ds) ρ
theorem en_callB {r : List V → Hp → VK → Prop} {g : List D → Option Own} {ta : TA} {fa : Md (List Opd)} (hr : ClN K r g) (ha : EvA K W ta fa) : EvN K W (tCB r ta) (mCallN g fa) := by
  intro c G ρ σ H R Q q
  refine ha c G ρ σ H R _ (q.bind.mono fun os ρ1 G1 H1 e1 R1 h1 vs rr => ?_)
  obtain ⟨o, eo, h3⟩ := h1.opt
  simp only [Option.bind_eq_bind, Option.bind_eq_some_iff] at eo
  obtain ⟨ds, q1, q2⟩ := eo
  refine hr G1 H1 ds o vs R1.le (vws_of R1 rr q1) q2 Q fun p ob hp ob' => ?_
  exact h3 G1 _ (Ex.refl _) (R1.side hp) _ (R1.nrep hp ob')
end

section
variable {K : Kf}
theorem vws1 {G H : Hp} {d : D} {vs : List V} (h : Vws K G H [d] vs) : ∃ v, vs = [v] ∧ Vw K G H d v := by
  cases h with
  | cons h t => cases t; exact ⟨_, rfl, h⟩
theorem vws2 {G H : Hp} {d e : D} {vs : List V} (h : Vws K G H [d, e] vs) : ∃ v w, vs = [v, w] ∧ Vw K G H d v ∧ Vw K G H e w := by
  cases h with
  | cons h t => cases t with
    | cons h' t' => cases t'; exact ⟨_, _, rfl, h, h'⟩
/-! len -/
def rLen (K : Kf) : List V → Hp → VK → Prop := fun xs H Q => (∃ x n, xs = [x] ∧ LenV K x H n ∧ Q (.int n) H) ∨ ∃ a kvs, xs = [V.ref a] ∧ Rd H a (.dK kvs) ∧ Q (.int kvs.length) H
theorem call_lenS {X : Cx} : CallR X (.builtin "len") (rLen X.K) := by
  refine call_len.or ?_
  intro pins s σ H xs us Q I r h
  obtain ⟨a, kvs, rfl, e, q⟩ := h
  obtain ⟨u, rfl, rx⟩ := vals1 r
  cases rx
  exact d_len I e fun t s' I' => ⟨.int kvs.length, H, I', ⟨t, rfl⟩, q⟩
def gLen : List D → Option D
  | [.list ds] => some (.int ds.length)
  | [.tuple ds] => some (.int ds.length)
  | [.str z] => if z.length ≤ lim then some (.int z.length) else none
  | [.dict kvs] => some (.int kvs.length)
  | _ => none
theorem ks_length {G : Hp} : ∀ {kvs : List (D × D)} {ks : List (Key × V)}, DvKs K G kvs ks → ks.length = kvs.length
  | [], ks, h => by unfold DvKs at h; subst h; rfl
  | (k, d) :: r, ks, h => by
    unfold DvKs at h
    obtain ⟨q', v, r', rfl, rfl, h1, h2⟩ := h
    rw [List.length_cons, List.length_cons, ks_length h2]
theorem g_len : ClD K (rLen K) gLen := by
  intro G H ds d vs l h e Q q
  unfold gLen at e
  split at e
  · obtain ⟨v, rfl, a, xs, rfl, s, dv⟩ := vws1 h
    cases e
    exact .inl ⟨_, xs.length, rfl, .inl ⟨xs, s, rfl⟩, q _ _ _ .refl (by rw [dv.length]; exact dv_int)⟩
  · obtain ⟨v, rfl, a, xs, rfl, s, dv⟩ := vws1 h
    cases e
    exact .inl ⟨_, xs.length, rfl, .inr ⟨xs, sqt_le l s, rfl⟩, q _ _ _ .refl (by rw [dv.length]; exact dv_int)⟩
  · rename_i z
    obtain ⟨v, rfl, hv⟩ := vws1 h
    obtain ⟨hl, rfl⟩ := ifSome e
    rw [show v = .str z from hv]
    exact .inl ⟨_, z.length, rfl, ⟨lim_le hl, rfl⟩, q _ _ _ .refl dv_int⟩
  · obtain ⟨v, rfl, a, ks, rfl, s, dv⟩ := vws1 h
    cases e
    exact .inr ⟨a, ks, rfl, s, q _ _ _ .refl (by rw [ks_length dv]; exact dv_int)⟩
  · cases e
/-! abs, int, str, min, max of two -/
def gAbs : List D → Option D
  | [.int i] => some (.int (if i < 0 then -i else i))
  | _ => none
theorem g_abs : ClD K (fun xs H Q => ∃ i, xs = [.int i] ∧ Q (.int (if i < 0 then -i else i)) H) gAbs := by
  intro G H ds d vs l h e Q q
  unfold gAbs at e
  split at e
  · obtain ⟨v, rfl, hv⟩ := vws1 h
    cases e
    exact ⟨_, by rw [show v = _ from hv], q _ _ _ .refl dv_int⟩
  · cases e
def gMax2 : List D → Option D
  | [.int i, .int j] => some (.int (if j > i then j else i))
  | _ => none
theorem g_max2 : ClD K (fun xs H Q => ∃ i j, xs = [.int i, .int j] ∧ Q (.int (if j > i then j else i)) H) gMax2 := by
  intro G H ds d vs l h e Q q
  unfold gMax2 at e
  split at e
  · obtain ⟨v, w, rfl, hv, hw⟩ := vws2 h
    cases e
    exact ⟨_, _, by rw [show v = _ from hv, show w = _ from hw], q _ _ _ .refl dv_int⟩
  · cases e
def gMin2 : List D → Option D
  | [.int i, .int j] => some (.int (if j < i then j else i))
  | _ => none
theorem g_min2 : ClD K (fun xs H Q => ∃ i j, xs = [.int i, .int j] ∧ Q (.int (if j < i then j else i)) H) gMin2 := by
  intro G H ds d vs l h e Q q
  unfold gMin2 at e
  split at e
  · obtain ⟨v, w, rfl, hv, hw⟩ := vws2 h
    cases e
    exact ⟨_, _, by rw [show v = _ from hv, show w = _ from hw], q _ _ _ .refl dv_int⟩
  · cases e
def gInt : List D → Option D
  | [.int i] => some (.int i)
  | [.bool b] => some (.int (if b then 1 else 0))
  | _ => none
theorem g_int : ClD K (fun xs H Q => (∃ i, xs = [.int i] ∧ Q (.int i) H) ∨ ∃ k, xs = [.bl k] ∧ Q (.int (if k then 1 else 0)) H) gInt := by
  intro G H ds d vs l h e Q q
  unfold gInt at e
  split at e
  · obtain ⟨v, rfl, hv⟩ := vws1 h
    cases e
    exact .inl ⟨_, by rw [show v = _ from hv], q _ _ _ .refl dv_int⟩
  · obtain ⟨v, rfl, hv⟩ := vws1 h
    cases e
    exact .inr ⟨_, by rw [show v = _ from hv], q _ _ _ .refl dv_int⟩
  · cases e
def gStr : List D → Option D
  | [.int i] => if i.natAbs.log2 < 1920 then some (.str (toString i)) else none
  | _ => none
theorem g_str : ClD K (fun xs H Q => ∃ i, xs = [.int i] ∧ i.natAbs.log2 < 1920 ∧ Q (.str (toString i)) H) gStr := by
  intro G H ds d vs l h e Q q
  unfold gStr at e
  split at e
  · obtain ⟨v, rfl, hv⟩ := vws1 h
    obtain ⟨hl, rfl⟩ := ifSome e
    exact ⟨_, by rw [show v = _ from hv], hl, q _ _ _ .refl dv_str⟩
  · cases e
/-! lists of numbers, of truths -/
def intsD : List D → Option (List Int)
  | [] => some []
  | .int i :: r => (intsD r).map (i :: ·)
  | _ :: _ => none
def boolsD : List D → Option (List Bool)
  | [] => some []
  | .bool i :: r => (boolsD r).map (i :: ·)
  | _ :: _ => none
theorem intsD_v {G : Hp} : ∀ {ds : List D} {vs : List V} {ns : List Int}, DvAll K G ds vs → intsD ds = some ns → vs = ns.map V.int
  | [], _, _, h, e => by rw [h.nil_inv]; cases e; rfl
  | .int i :: r, _, _, h, e => by
    obtain ⟨v, vs, rfl, h1, h2⟩ := h.cons_inv
    obtain ⟨ns, e1, rfl⟩ := Option.map_eq_some_iff.mp (show (intsD r).map (i :: ·) = some _ from e)
    unfold Dv at h1
    rw [h1, intsD_v h2 e1]
    rfl
  | .none :: _, _, _, _, e => by cases e
  | .bool _ :: _, _, _, _, e => by cases e
  | .str _ :: _, _, _, _, e => by cases e
  | .list _ :: _, _, _, _, e => by cases e
  | .tuple _ :: _, _, _, _, e => by cases e
  | .dict _ :: _, _, _, _, e => by cases e
theorem boolsD_v {G : Hp} : ∀ {ds : List D} {vs : List V} {ns : List Bool}, DvAll K G ds vs → boolsD ds = some ns → vs = ns.map V.bl
  | [], _, _, h, e => by rw [h.nil_inv]; cases e; rfl
  | .bool i :: r, _, _, h, e => by
    obtain ⟨v, vs, rfl, h1, h2⟩ := h.cons_inv
    obtain ⟨ns, e1, rfl⟩ := Option.map_eq_some_iff.mp (show (boolsD r).map (i :: ·) = some _ from e)
    unfold Dv at h1
    rw [h1, boolsD_v h2 e1]
    rfl
  | .none :: _, _, _, _, e => by cases e
  | .int _ :: _, _, _, _, e => by cases e
  | .str _ :: _, _, _, _, e => by cases e
  | .list _ :: _, _, _, _, e => by cases e
  | .tuple _ :: _, _, _, _, e => by cases e
  | .dict _ :: _, _, _, _, e => by cases e
/-- a list or a tuple of whole numbers -/
def SqI (K : Kf) (H : Hp) (a : Addr) (ns : List Int) : Prop := SqL K H a (ns.map V.int) ∨ SqT K H a (ns.map V.int)
def rSumA (K : Kf) : List V → Hp → VK → Prop := fun vs H Q => ∃ (a : Addr) (ns : List Int), vs = [V.ref a] ∧ SqI K H a ns ∧ Q (.int ns.sum) H
def rMaxA (K : Kf) : List V → Hp → VK → Prop := fun vs H Q => ∃ (a : Addr) (ns : List Int), vs = [V.ref a] ∧ SqI K H a ns ∧ 0 < ns.length ∧ ∀ m, m ∈ ns → (∀ y, y ∈ ns → y ≤ m) → Q (.int m) H
def rMinA (K : Kf) : List V → Hp → VK → Prop := fun vs H Q => ∃ (a : Addr) (ns : List Int), vs = [V.ref a] ∧ SqI K H a ns ∧ 0 < ns.length ∧ ∀ m, m ∈ ns → (∀ y, y ∈ ns → m ≤ y) → Q (.int m) H
def gSum : List D → Option D
  | [.list ds] => (intsD ds).map fun ns => .int ns.sum
  | [.tuple ds] => (intsD ds).map fun ns => .int ns.sum
  | _ => none
theorem g_sum : ClD K (rSumA K) gSum := by
  intro G H ds d vs l h e Q q
  unfold gSum at e
  split at e
  · obtain ⟨v, rfl, a, xs, rfl, s, dv⟩ := vws1 h
    obtain ⟨ns, en, rfl⟩ := Option.map_eq_some_iff.mp e
    have ex := intsD_v dv en
    subst ex
    exact ⟨a, ns, rfl, .inl s, q _ _ _ .refl dv_int⟩
  · obtain ⟨v, rfl, a, xs, rfl, s, dv⟩ := vws1 h
    obtain ⟨ns, en, rfl⟩ := Option.map_eq_some_iff.mp e
    have ex := intsD_v dv en
    subst ex
    exact ⟨a, ns, rfl, .inr (sqt_le l s), q _ _ _ .refl dv_int⟩
  · cases e
def gAll : List D → Option D
  | [.list ds] => (boolsD ds).map fun ns => .bool (ns.all id)
  | _ => none
theorem g_all : ClD K (rAll K) gAll := by
  intro G H ds d vs l h e Q q
  unfold gAll at e
  split at e
  · obtain ⟨v, rfl, a, xs, rfl, s, dv⟩ := vws1 h
    obtain ⟨ns, en, rfl⟩ := Option.map_eq_some_iff.mp e
    have ex := boolsD_v dv en
    subst ex
    exact ⟨a, ns, rfl, s, q _ _ _ .refl dv_bool⟩
  · cases e
def gAny : List D → Option D
  | [.list ds] => (boolsD ds).map fun ns => .bool (ns.any id)
  | _ => none
theorem g_any : ClD K (rAny K) gAny := by
  intro G H ds d vs l h e Q q
  unfold gAny at e
  split at e
  · obtain ⟨v, rfl, a, xs, rfl, s, dv⟩ := vws1 h
    obtain ⟨ns, en, rfl⟩ := Option.map_eq_some_iff.mp e
    have ex := boolsD_v dv en
    subst ex
    exact ⟨a, ns, rfl, s, q _ _ _ .refl dv_bool⟩
  · cases e
def maxL : List Int → Option Int
  | [] => none
  | x :: r => some (r.foldl max x)
def minL : List Int → Option Int
  | [] => none
  | x :: r => some (r.foldl min x)
theorem foldl_max_le : ∀ (r : List Int) (x : Int), x ≤ r.foldl max x ∧ (∀ y ∈ r, y ≤ r.foldl max x) ∧ (r.foldl max x = x ∨ r.foldl max x ∈ r)
  | [], x => ⟨Int.le_refl _, fun _ h => (by cases h), .inl rfl⟩
  | a :: r, x => by
    obtain ⟨h1, h2, h3⟩ := foldl_max_le r (max x a)
    rw [List.foldl_cons]
    refine ⟨by omega, fun y hy => ?_, ?_⟩
    · rcases List.mem_cons.mp hy with rfl | hy
      · omega
      · exact h2 y hy
    · rcases h3 with h3 | h3
      · by_cases c : a ≤ x
        · exact .inl (by omega)
        · exact .inr (by rw [h3, show max x a = a by omega]; exact List.mem_cons_self)
      · exact .inr (List.mem_cons_of_mem _ h3)
theorem foldl_min_le : ∀ (r : List Int) (x : Int), r.foldl min x ≤ x ∧ (∀ y ∈ r, r.foldl min x ≤ y) ∧ (r.foldl min x = x ∨ r.foldl min x ∈ r)
  | [], x => ⟨Int.le_refl _, fun _ h => (by cases h), .inl rfl⟩
  | a :: r, x => by
    obtain ⟨h1, h2, h3⟩ := foldl_min_le r (min x a)
    rw [List.foldl_cons]
    refine ⟨by omega, fun y hy => ?_, ?_⟩
    · rcases List.mem_cons.mp hy with rfl | hy
      · omega
      · exact h2 y hy
    · rcases h3 with h3 | h3
      · by_cases c : x ≤ a
        · exact .inl (by omega)
        · exact .inr (by rw [h3, show min x a = a by omega]; exact List.mem_cons_self)
      · exact .inr (List.mem_cons_of_mem _ h3)
theorem maxL_spec {ns : List Int} {m : Int} (h : maxL ns = some m) : m ∈ ns ∧ ∀ y ∈ ns, y ≤ m := by
  cases ns with
  | nil => cases h
  | cons x r =>
    cases h
    obtain ⟨h1, h2, h3⟩ := foldl_max_le r x
    refine ⟨?_, fun y hy => ?_⟩
    · rcases h3 with h3 | h3
      · rw [h3]; exact List.mem_cons_self
      · exact List.mem_cons_of_mem _ h3
    · rcases List.mem_cons.mp hy with rfl | hy
      · exact h1
      · exact h2 y hy
theorem minL_spec {ns : List Int} {m : Int} (h : minL ns = some m) : m ∈ ns ∧ ∀ y ∈ ns, m ≤ y := by
  cases ns with
  | nil => cases h
  | cons x r =>
    cases h
    obtain ⟨h1, h2, h3⟩ := foldl_min_le r x
    refine ⟨?_, fun y hy => ?_⟩
    · rcases h3 with h3 | h3
      · rw [h3]; exact List.mem_cons_self
      · exact List.mem_cons_of_mem _ h3
    · rcases List.mem_cons.mp hy with rfl | hy
      · exact h1
      · exact h2 y hy
def gMax : List D → Option D
  | [.list ds] => do let ns ← intsD ds; let m ← maxL ns; pure (.int m)
  | [.tuple ds] => do let ns ← intsD ds; let m ← maxL ns; pure (.int m)
  | _ => none
def gMin : List D → Option D
  | [.list ds] => do let ns ← intsD ds; let m ← minL ns; pure (.int m)
  | [.tuple ds] => do let ns ← intsD ds; let m ← minL ns; pure (.int m)
  | _ => none
theorem g_max : ClD K (rMaxA K) gMax := by
  intro G H ds d vs l h e Q q
  unfold gMax at e
  split at e
  · obtain ⟨v, rfl, a, xs, rfl, s, dv⟩ := vws1 h
    simp only [Option.bind_eq_bind, Option.bind_eq_some_iff, Option.pure_def, Option.some.injEq] at e
    obtain ⟨ns, en, m, em, rfl⟩ := e
    have ex := intsD_v dv en
    subst ex
    obtain ⟨m1, m2⟩ := maxL_spec em
    refine ⟨a, ns, rfl, .inl s, List.length_pos_of_mem m1, fun m' k1 k2 => ?_⟩
    have : m' = m := by have := m2 m' k1; have := k2 m m1; omega
    subst this
    exact q _ _ _ .refl dv_int
  · obtain ⟨v, rfl, a, xs, rfl, s, dv⟩ := vws1 h
    simp only [Option.bind_eq_bind, Option.bind_eq_some_iff, Option.pure_def, Option.some.injEq] at e
    obtain ⟨ns, en, m, em, rfl⟩ := e
    have ex := intsD_v dv en
    subst ex
    obtain ⟨m1, m2⟩ := maxL_spec em
    refine ⟨a, ns, rfl, .inr (sqt_le l s), List.length_pos_of_mem m1, fun m' k1 k2 => ?_⟩
    have : m' = m := by have := m2 m' k1; have := k2 m m1; omega
    subst this
    exact q _ _ _ .refl dv_int
  · cases e
theorem g_min : ClD K (rMinA K) gMin := by
  intro G H ds d vs l h e Q q
  unfold gMin at e
  split at e
  · obtain ⟨v, rfl, a, xs, rfl, s, dv⟩ := vws1 h
    simp only [Option.bind_eq_bind, Option.bind_eq_some_iff, Option.pure_def, Option.some.injEq] at e
    obtain ⟨ns, en, m, em, rfl⟩ := e
    have ex := intsD_v dv en
    subst ex
    obtain ⟨m1, m2⟩ := minL_spec em
    refine ⟨a, ns, rfl, .inl s, List.length_pos_of_mem m1, fun m' k1 k2 => ?_⟩
    have : m' = m := by have := m2 m' k1; have := k2 m m1; omega
    subst this
    exact q _ _ _ .refl dv_int
  · obtain ⟨v, rfl, a, xs, rfl, s, dv⟩ := vws1 h
    simp only [Option.bind_eq_bind, Option.bind_eq_some_iff, Option.pure_def, Option.some.injEq] at e
    obtain ⟨ns, en, m, em, rfl⟩ := e
    have ex := intsD_v dv en
    subst ex
    obtain ⟨m1, m2⟩ := minL_spec em
    refine ⟨a, ns, rfl, .inr (sqt_le l s), List.length_pos_of_mem m1, fun m' k1 k2 => ?_⟩
    have : m' = m := by have := m2 m' k1; have := k2 m m1; omega
    subst this
    exact q _ _ _ .refl dv_int
  · cases e
/-! tuple(x), list(x), sorted(x) -/
def gTuple : List D → Option D
  | [.list ds] => some (.tuple ds)
  | [.tuple ds] => some (.tuple ds)
  | _ => none
theorem g_tuple : ClD K (fun xs H Q => ∃ p ys, xs = [.ref p] ∧ ((SqL K H p ys ∧ ∀ l, H l = none → Q (.ref l) (upd H l (.tup ys))) ∨ (SqT K H p ys ∧ Q (.ref p) H))) gTuple := by
  intro G H ds d vs l h e Q q
  unfold gTuple at e
  split at e
  · obtain ⟨v, rfl, a, xs, rfl, s, dv⟩ := vws1 h
    cases e
    exact ⟨a, xs, rfl, .inl ⟨s, new_tup rfl dv l q⟩⟩
  · obtain ⟨v, rfl, a, xs, rfl, s, dv⟩ := vws1 h
    cases e
    exact ⟨a, xs, rfl, .inr ⟨sqt_le l s, q _ _ _ .refl (dv_tupG dv s)⟩⟩
  · cases e
def gList : List D → Option Own
  | [.list ds] => some (.lst ds)
  | [.tuple ds] => some (.lst ds)
  | _ => none
theorem g_list : ClN K (fun xs H Q => ∃ p ys, xs = [.ref p] ∧ (SqL K H p ys ∨ SqT K H p ys) ∧ ∀ l, H l = none → Q (.ref l) (upd H l (.lst ys))) gList := by
  intro G H ds o vs l h e Q q
  unfold gList at e
  split at e
  · obtain ⟨v, rfl, a, xs, rfl, s, dv⟩ := vws1 h
    cases e
    exact ⟨a, xs, rfl, .inl s, fun p hp => q p _ hp ⟨xs, rfl, dv⟩⟩
  · obtain ⟨v, rfl, a, xs, rfl, s, dv⟩ := vws1 h
    cases e
    exact ⟨a, xs, rfl, .inr (sqt_le l s), fun p hp => q p _ hp ⟨xs, rfl, dv⟩⟩
  · cases e
end
end DV

set_option Elab.async false
set_option linter.all false
set_option maxRecDepth 100000
set_option maxHeartbeats 2000000
set_option autoImplicit false
/-! DvStmt: what is walked, targets, statements, loops, comprehensions. -/
namespace DV
open PySem L2

/-! ### what is walked -/
/-- the iterator gives ds, one by one -/
def ItD (K : Kf) (J : It) (G0 : Hp) (ds : List D) : Prop := ∀ G H, Ex G0 G → Le G H → ∀ i : Nat,
  (∀ d, ds[i]? = some d → J.go i H ∧ ∀ x H', J.yld i H x H' → ∃ G', Al G H G' H' ∧ Dv K G' d x) ∧ (ds.length ≤ i → J.stop i H)
def EvI (K : Kf) (W : Wish) (w : TI) (f : Md (List D)) : Prop := ∀ c G ρ σ H, Rel K c G ρ σ H → ∀ R : It → Hp → Prop,
  Out K W c G σ (f ρ) (fun ds _ G' H' => ∀ J, ItD K J G' ds → R J H') → w σ H R
section
variable {K : Kf} {W : Wish}
theorem itd_list {G0 : Hp} {a : Addr} {vs : List V} {ds : List D} (s : SqL K G0 a vs) (h : DvAll K G0 ds vs) : ItD K (Itl K a) G0 ds := by
  intro G H e l i
  have s' : SqL K H a vs := sql_le l (sql_ex e s)
  have h' := DvAll.ex e _ h
  refine ⟨fun d hd => ?_, fun hl => ⟨vs, s', by rw [h.length]; exact hl⟩⟩
  obtain ⟨v, hv, q⟩ := h'.get hd
  refine ⟨⟨vs, v, s', hv⟩, fun x H' y => ?_⟩
  obtain ⟨rfl, y⟩ := y
  have := y vs s'
  rw [hv] at this; cases this
  exact ⟨G, .refl, q⟩
theorem itd_tup {G0 : Hp} {a : Addr} {vs : List V} {ds : List D} (s : G0 a = some (.tup vs)) (h : DvAll K G0 ds vs) : ItD K (Itt K a) G0 ds := by
  intro G H e l i
  have s' : SqT K H a vs := sqt_le l (sqt_ex e s)
  have h' := DvAll.ex e _ h
  refine ⟨fun d hd => ?_, fun hl => ⟨vs, s', by rw [h.length]; exact hl⟩⟩
  obtain ⟨v, hv, q⟩ := h'.get hd
  refine ⟨⟨vs, v, s', hv⟩, fun x H' y => ?_⟩
  obtain ⟨rfl, y⟩ := y
  have := y vs s'
  rw [hv] at this; cases this
  exact ⟨G, .refl, q⟩
/-- a list or a tuple, whichever it is -/
def iSeq (K : Kf) (tl : TE) : TI := fun σ H R => tl σ H fun x H1 => (∃ a, x = .ref a ∧ (∃ xs, SqL K H1 a xs) ∧ R (Itl K a) H1) ∨ ∃ a, x = .ref a ∧ (∃ xs, SqT K H1 a xs) ∧ R (Itt K a) H1
theorem pi_seq {X : Cx} {tg l : Expr} {tl : TE} (hl : PE X l tl) : PI X tg l (iSeq X.K tl) := by
  refine ⟨fun pins s σ H R I h => ?_⟩
  refine thn (hl.run pins s σ H _ I h) fun v s1 ⟨x, H1, I1, r1, q1⟩ => ?_
  rcases q1 with ⟨a, e, ⟨xs, hq⟩, q⟩ | ⟨a, e, ⟨xs, hq⟩, q⟩
  · subst e
    cases r1
    obtain ⟨its, rv, p, hz⟩ := I1.list hq
    refine wpAny_pyIter_list p.isList ?_
    exact pi_one (tk := s1.toks) I1 { cls := .type "list_iterator", data := .fields #[.ref a, .int 0 0] } (turn_list a _) ⟨_, Heap.get?_push_size _ rfl, rfl, rfl⟩ q
  · subst e
    cases r1
    obtain ⟨its, rv, p, hz⟩ := I1.tuple hq
    refine wpAny_pyIter_tuple (show s1.heap.IsTuple a its.toArray from p) ?_
    exact pi_one (tk := s1.toks) I1 { cls := .type "tuple_iterator", data := .fields #[.ref a, .int 0 0] } (turn_tuple a _) ⟨_, Heap.get?_push_size _ rfl, rfl, rfl⟩ q
def items : D → Option (List D)
  | .list ds => some ds
  | .tuple ds => some ds
  | _ => none
def mSeq (f : Md Opd) : Md (List D) := Md.bind f fun o ρ => Md.opt (do let d ← im ρ o; items d) ρ
theorem ei_seq {tl : TE} {f : Md Opd} (h : EvO K W tl f) : EvI K W (iSeq K tl) (mSeq f) := by
  intro c G ρ σ H R Q q
  refine h c G ρ σ H R _ (q.bind.mono fun o ρ1 G1 H1 e1 R1 h1 v r => ?_)
  obtain ⟨ds, eo, h3⟩ := h1.opt
  simp only [Option.bind_eq_bind, Option.bind_eq_some_iff] at eo
  obtain ⟨d, q1, q2⟩ := eo
  have dv := dv_of R1 r q1
  cases d with
  | list es =>
    cases q2
    unfold Dv at dv
    obtain ⟨a, vs, rfl, s, q⟩ := dv
    exact .inl ⟨a, rfl, ⟨vs, sql_le R1.le s⟩, h3.ret R1 _ (itd_list s q)⟩
  | tuple es =>
    cases q2
    unfold Dv at dv
    obtain ⟨a, vs, rfl, s, q⟩ := dv
    exact .inr ⟨a, rfl, ⟨vs, sqt_le R1.le s⟩, h3.ret R1 _ (itd_tup s q)⟩
  | _ => cases q2
/-! range -/
def rangeD (lo hi : Int) : List D := (List.range (hi - lo).toNat).map fun i => .int (lo + (i : Nat))
theorem itd_range {G0 : Hp} {lo hi : Int} : ItD K (Itr lo (hi - lo).toNat) G0 (rangeD lo hi) := by
  intro G H e l i
  unfold rangeD
  refine ⟨fun d hd => ?_, fun hl => by
    show (hi - lo).toNat ≤ i
    simpa only [List.length_map, List.length_range] using hl⟩
  rw [List.getElem?_map] at hd
  obtain ⟨j, hj, rfl⟩ := Option.map_eq_some_iff.mp hd
  obtain ⟨h1, h2⟩ := List.getElem?_eq_some_iff.mp hj
  have hl : i < (hi - lo).toNat := by simpa using h1
  have ej : j = i := by rw [← h2]; simp
  subst ej
  refine ⟨hl, fun x H' y => ?_⟩
  obtain ⟨rfl, rfl⟩ := y
  exact ⟨G, .refl, dv_int⟩
def small62 (i : Int) : Bool := decide (-(2 ^ 62) ≤ i) && decide (i < 2 ^ 62)
def mRange1 (fa : Md (List Opd)) : Md (List D) := Md.bind fa fun os ρ => match rss ρ os with
  | some [.int n] => if small62 n then .ok (rangeD 0 n) ρ else .stuck
  | _ => .stuck
def mRange2 (fa : Md (List Opd)) : Md (List D) := Md.bind fa fun os ρ => match rss ρ os with
  | some [.int m, .int n] => if small62 m && small62 n then .ok (rangeD m n) ρ else .stuck
  | _ => .stuck
theorem small62_ok {i : Int} (h : small62 i = true) : -(2 ^ 62) ≤ i ∧ i < 2 ^ 62 := by
  unfold small62 at h
  rw [Bool.and_eq_true] at h
  exact ⟨of_decide_eq_true h.1, of_decide_eq_true h.2⟩
theorem ei_range1 {ta : TA} {fa : Md (List Opd)} (h : EvA K W ta fa) : EvI K W (iRng1 ta) (mRange1 fa) := by
  intro c G ρ σ H R Q q
  refine h c G ρ σ H R _ (q.bind.mono fun os ρ1 G1 H1 e1 R1 h1 vs r => ?_)
  split at h1
  · rename_i n eo
    split at h1
    · rename_i hn
      obtain ⟨v, rfl, hv⟩ := vws1 (vws_of R1 r eo)
      obtain ⟨b1, b2⟩ := small62_ok hn
      have z := h1.ret R1 _ (itd_range (G0 := G1) (lo := 0) (hi := n))
      rw [show v = .int n from hv]
      exact ⟨n, rfl, b1, b2, by simpa using z⟩
    · exact False.elim h1
  · exact False.elim h1
theorem ei_range2 {ta : TA} {fa : Md (List Opd)} (h : EvA K W ta fa) : EvI K W (iRng2 ta) (mRange2 fa) := by
  intro c G ρ σ H R Q q
  refine h c G ρ σ H R _ (q.bind.mono fun os ρ1 G1 H1 e1 R1 h1 vs r => ?_)
  split at h1
  · rename_i m n eo
    split at h1
    · rename_i hn
      rw [Bool.and_eq_true] at hn
      obtain ⟨v, w, rfl, hv, hw⟩ := vws2 (vws_of R1 r eo)
      obtain ⟨b1, b2⟩ := small62_ok hn.1
      obtain ⟨b3, b4⟩ := small62_ok hn.2
      rw [show v = .int m from hv, show w = .int n from hw]
      exact ⟨m, n, rfl, ⟨b1, b2, b3, b4⟩, h1.ret R1 _ itd_range⟩
    · exact False.elim h1
  · exact False.elim h1
/-! a text, sign by sign -/
def signs (z : Str) : List D := z.cps.toList.map fun c => .str ⟨#[c]⟩
theorem itd_str {G0 : Hp} {z : Str} : ItD K (Its z) G0 (signs z) := by
  intro G H e l i
  unfold signs
  refine ⟨fun d hd => ?_, fun hl => by
    show z.cps.size ≤ i
    simpa using hl⟩
  rw [List.getElem?_map] at hd
  obtain ⟨c, hj, rfl⟩ := Option.map_eq_some_iff.mp hd
  obtain ⟨h1, h2⟩ := List.getElem?_eq_some_iff.mp hj
  refine ⟨by show i < z.cps.size; simpa using h1, fun x H' y => ?_⟩
  obtain ⟨rfl, c', hc, rfl⟩ := y
  have : c' = c := by
    rw [Array.getElem?_toList] at hj
    rw [hc] at hj
    exact Option.some.inj hj
  subst this
  exact ⟨G, .refl, dv_str⟩
def mStr (f : Md Opd) : Md (List D) := Md.bind f fun o ρ => match rs ρ o with
  | some (.str z) => .ok (signs z) ρ
  | _ => .stuck
theorem ei_str {tl : TE} {f : Md Opd} (h : EvO K W tl f) : EvI K W (iStr tl) (mStr f) := by
  intro c G ρ σ H R Q q
  refine h c G ρ σ H R _ (q.bind.mono fun o ρ1 G1 H1 e1 R1 h1 v r => ?_)
  split at h1
  · rename_i z ez
    exact ⟨z, vw_of R1 r ez, h1.ret R1 _ itd_str⟩
  · exact False.elim h1
end

/-! ### enumerate of a list, of a tuple -/
def IteT (K : Kf) (a : Addr) : It :=
  ⟨fun i H => ∃ (xs : List V) (x : V), SqT K H a xs ∧ xs[i]? = some x, fun i H v H' => ∃ T x, v = .ref T ∧ H T = none ∧ H' = upd H T (.tup [.int (i : Nat), x]) ∧ ∀ xs, SqT K H a xs → xs[i]? = some x, fun i H => ∃ xs : List V, SqT K H a xs ∧ xs.length ≤ i⟩
theorem turn_enumT {P : Program} {w : World} {K : PySem.W.Frag} {elts : List Expr} {kk : Nat} {tpos : Pos} (a e it : Addr) :
    Turn P w K (.Tuple elts kk tpos) (IteT K a) [e, it] e (fun i h => (∃ old, IsEnum h e it ((i : Nat) : Int) old) ∧ h.IsTupleIter it a i ∧ e ≠ it) where
  mem := by simp
  obj := fun i h st b hb => by
    obtain ⟨⟨old, he⟩, ⟨o, ho, hc, hd⟩, _⟩ := st
    have e' : b = e ∨ b = it := by simpa using hb
    rcases e' with z | z
    · rw [z]; exact ⟨_, he, fun v q => nomatch q⟩
    · rw [z]; exact ⟨o, ho, fun v q => by rw [hd] at q; cases q⟩
  keep := fun i h h' st k => let ⟨⟨old, he⟩, hi, hne⟩ := st; ⟨⟨old, k e (by simp) _ he⟩, hi.at fun o q => k it (by simp) o q, hne⟩
  item := by
    intro X hP hw hK hc i pins s σ H E I hf st hg
    subst hP hw hK
    obtain ⟨⟨old, he⟩, hit, hne⟩ := st
    obtain ⟨xs, x, hq, hx⟩ := hg
    obtain ⟨its, rv, p, hz⟩ := I.tuple hq
    obtain ⟨u, hu, ru⟩ := rv.get hx
    have hel : e < s.heap.objs.size := Heap.lt_size he
    have hil : it < s.heap.objs.size := by obtain ⟨_, q, _⟩ := hit; exact Heap.lt_size q
    have pt : s.heap.IsTuple a its.toArray := p
    have hai : a ≠ it := fun z => by
      obtain ⟨o1, q1, c1, _⟩ := pt
      obtain ⟨o2, q2, c2, _⟩ := hit
      rw [z, q2] at q1; cases q1
      rw [c2] at c1; exact absurd (Value.type.inj c1) (by decide)
    have hae : e ≠ a := fun z => by
      obtain ⟨o1, q1, c1, _⟩ := pt
      rw [← z] at q1
      rw [show s.heap.get? e = some _ from he] at q1
      cases q1; exact absurd (Value.type.inj c1) (by decide)
    have hlt : i < its.toArray.size := by
      have := (List.getElem?_eq_some_iff.mp hu).1
      simpa using this
    refine wpAny_pyNext_enum_itemD (Draws.tuple (prog := X.prog) (w := X.w) (A := X.A.in1) (I.ok.hd hc) it a hai its.toArray) he ⟨hit, pt⟩ hlt hne (by simp [hne, hae]) fun u' h' tk hPu ho hst' hT hsz hk => ?_
    have eu : u' = u := by
      have hPu' : its.toArray[i]? = some u' := hPu
      have : its[i]? = some u' := by simpa using hPu'
      rw [hu] at this; exact (Option.some.inj this).symm
    subst eu
    refine ⟨_, rfl, wpAny_letOwnedTupleGo_enum (s := { s with heap := h', toks := tk + 1 }) ho fun h'' he' sb => ?_⟩
    have hT2 : h''.get? s.heap.objs.size = some { cls := .type "tuple", data := .seq #[.int i tk, u'] } := (sb.2 _ (Nat.ne_of_gt hel)).trans hT
    have new : ObjOk X.prog X.w (upd H s.heap.objs.size (.tup [.int (i : Nat), x])) h'' s.heap.objs.size (.tup [.int (i : Nat), x]) :=
      ⟨by show 2 ≤ sizeLine; decide, [.int i tk, u'], .cons ⟨_, rfl⟩ (.cons ru .nil), ⟨_, hT2, rfl, _, rfl⟩⟩
    have I1 : Inv X pins σ (upd H s.heap.objs.size (.tup [.int (i : Nat), x])) { s with heap := h'', toks := tk + 1 } :=
      I.turnedNew (ch := [e, it]) (fun b ob hb q => (sb.2 b (fun z => hb (by simp [z]))).trans (hk b ob (fun z => hb (by simp [z])) (fun z => hb (by simp [z])) q)) hf (Nat.le_refl _) new
    refine ⟨.ref s.heap.objs.size, _, I1, rfl, ⟨_, x, rfl, I.hok.fresh (Nat.le_refl _), rfl, fun ys hy => by rw [I.tuple_inj hy hq]; exact hx⟩, ⟨⟨u', ?_⟩, hst'.1.at fun o q => (sb.2 it (Ne.symm hne)).trans q, hne⟩, fun b hb => ?_⟩
    · have e1 : ((i + 1 : Nat) : Int) = (i : Int) + 1 := by omega
      rw [e1]; exact he'
    · have hb' : b < s.heap.objs.size := by
        have e' : b = e ∨ b = it := by simpa using hb
        rcases e' with z | z
        · rw [z]; exact hel
        · rw [z]; exact hil
      rw [upd_ne (Nat.ne_of_lt hb')]
      exact (hf b hb).1
  done := by
    intro X hP hw hK hc i pins s σ H E I hf st hg
    subst hP hw hK
    obtain ⟨⟨old, he⟩, hit, hne⟩ := st
    obtain ⟨xs, hq, hx⟩ := hg
    obtain ⟨its, rv, p, hz⟩ := I.tuple hq
    have pt : s.heap.IsTuple a its.toArray := p
    have hai : a ≠ it := fun z => by
      obtain ⟨o1, q1, c1, _⟩ := pt
      obtain ⟨o2, q2, c2, _⟩ := hit
      rw [z, q2] at q1; cases q1
      rw [c2] at c1; exact absurd (Value.type.inj c1) (by decide)
    obtain ⟨f0, f1, f2, f3, f4, f5⟩ := hf it (by simp)
    have hl := rv.length
    have hT : s.TypeIs (.ref e) "enumerate" := ⟨_, he, rfl⟩
    unfold pyNext
    refine wpAny_bind (wpAny_attempt (wpAny_callSpecial?_slot (name := Str.ofString "__next__") hT F.slot_enumerate_next
      (wpAny_call_entry F.slot_enumerate_next hT F.entry_enumerate_next ?_ (F.args_enumerate_next_1 _))))
    show wpAny _ _ (field (.ref e) 2 >>= _) _ _ _
    refine wpAny_bind (wpAny_field he rfl (x := .ref it) rfl ?_)
    refine wpAny_bind (wpAny_nextOf_tuple_end (I.ok.hd hc) hit pt (by simp; omega) fun h' x he' hx' => ?_)
    obtain ⟨o, ho, hc'⟩ := hx'
    refine wpAny_bind (wpAny_isInstance (T := "StopIteration") (b := true) ⟨o, ho, hc'⟩ isSubtype_stop ?_)
    exact wpAny_pure ⟨rfl, I.turned (t' := s.toks) (fun b o hb q => he' b o hb q) f0 f1 f3 f4 f5⟩
  self := fun A i s Q E st h => let ⟨⟨_, he⟩, _⟩ := st; wpAny_pyIter_enum he h
open AutoSeq1 (wpAny_loadPart') in
theorem meets_enumerate_newTup (l : Addr) (items : Array Value) (n : Nat) (dct : Option Addr) (sl : Array (Option Value)) :
    Meets (Builtin.«enumerate.__new__» ⟨[.type "enumerate", .ref l], []⟩) (fun _ R s => s.heap.get? l = some { cls := .type "tuple", dict := dct, data := .seq items n, slots := sl } ∧
      R (.ok (.ret (.ref (s.heap.push { cls := .type "tuple_iterator", data := .fields #[.ref l, .int 0 0] }).objs.size)))
        { s with heap := (s.heap.push { cls := .type "tuple_iterator", data := .fields #[.ref l, .int 0 0] }).push { cls := .type "enumerate", data := .fields #[.none, .bool false, .ref s.heap.objs.size, rawInt 0, .none, .none] } }) :=
  .of_wp fun prog w A R s h => by
    obtain ⟨hp, g, d, tk, os⟩ := s; obtain ⟨hl, h⟩ := h
    have hsub := sub_enumerate
    have hL : Heap.IsTuple (Shared.heap ⟨hp, g, d, tk, os⟩) l items := ⟨_, hl, rfl, n, rfl⟩
    wp_walk using wpAny_loadPart' hl
    refine wpAny_stack_any fun st => wpAny_pure ?_
    split
    · rename_i c _ _ _ _ _
      cases (c == Value.type "enumerate")
      · wp_walk using wpAny_loadPart' hl, wpAny_pyIter_tuple hL
        exact ⟨_, rfl, h⟩
      · wp_walk using wpAny_loadPart' hl, wpAny_pyIter_tuple hL
        exact ⟨_, rfl, h⟩
    · wp_walk using wpAny_loadPart' hl, wpAny_pyIter_tuple hL
      exact ⟨_, rfl, h⟩
section
variable {prog : Program} {w : World} {A : Around} {E : Value → Shared → Prop} {s : Shared}
theorem call_enumerate_tup {l : Addr} {items : Array Value} {Q : Value → Shared → Prop} (hL : s.heap.IsTuple l items)
    (h : ∀ h', IsEnum h' (s.heap.objs.size + 1) s.heap.objs.size 0 .none → h'.IsTupleIter s.heap.objs.size l 0 → h'.objs.size = s.heap.objs.size + 2 →
      (∀ b o, s.heap.get? b = some o → h'.get? b = some o) → Q (.ref (s.heap.objs.size + 1)) { s with heap := h' }) :
    wpAny (model prog w) A (call (.type "enumerate") [.ref l]) Q E s := by
  obtain ⟨⟨c, dct, dt, sl⟩, hl, hc, n, hd⟩ := hL
  replace hc : c = .type "tuple" := hc
  replace hd : dt = .seq items n := hd
  subst hc hd
  refine callType_new F.called_enumerate (by decide) (F.typeCall_enumerate_1 _) (F.newCall_enumerate_1 _) (fun obj => F.args_object_init_2 obj _) F.entry_enumerate_new
    (meets_enumerate_newTup l items n dct sl) ⟨hl, ?_⟩
  have hz : (s.heap.push { cls := .type "tuple_iterator", data := .fields #[.ref l, .int 0 0] }).objs.size = s.heap.objs.size + 1 := Heap.size_push ..
  show _ ∧ _
  rw [hz]
  have he : IsEnum ((s.heap.push { cls := .type "tuple_iterator", data := .fields #[.ref l, .int 0 0] }).push
      { cls := .type "enumerate", data := .fields #[.none, .bool false, .ref s.heap.objs.size, rawInt 0, .none, .none] }) (s.heap.objs.size + 1) s.heap.objs.size 0 .none := by
    have := Heap.get?_push_size (s.heap.push { cls := .type "tuple_iterator", data := .fields #[.ref l, .int 0 0] })
      (o := { cls := .type "enumerate", data := .fields #[.none, .bool false, .ref s.heap.objs.size, rawInt 0, .none, .none] }) rfl
    rw [hz] at this; exact this
  refine ⟨⟨_, he, rfl⟩, h _ he ⟨_, Heap.get?_push_of_some _ (Heap.get?_push_size _ rfl), rfl, rfl⟩ (by rw [Heap.size_push, hz]) fun b o x => Heap.get?_push_of_some _ (Heap.get?_push_of_some _ x)⟩
end
def iEnumA (K : Kf) (ta : TA) : TI := fun σ H R => ta σ H fun vs H1 => (∃ a xs, vs = [.ref a] ∧ SqL K H1 a xs ∧ R (Ite K a) H1) ∨ ∃ a xs, vs = [.ref a] ∧ SqT K H1 a xs ∧ R (IteT K a) H1
open PySem.Spec PyProof.Rows in
theorem pi_enumA {X : Cx} {e : Expr} {ta : TA} {p pos tpos : Pos} {elts : List Expr} {kk : Nat} (hg : Gl X "enumerate") (hm : X.mg "enumerate" = none) (ha : PA X [e] ta) (hs : starEach [e] X.env = [(false, eval e X.env)] := by rfl) :
    PI X (.Tuple elts kk tpos) (.Call (.Name "enumerate" p) [e] [] pos) (iEnumA X.K ta) := by
  refine ⟨fun pins s σ H R I h => ?_⟩
  refine Call_ (ld_blt I hg hm boot_enumerate (PyProof.Rows.callWith_type1 (thn (ha.run pos pins s σ H _ I h) fun us s1 ⟨vs, H1, I1, r1, q1⟩ => ?_) hs rfl))
  have fin : ∀ b, b ∈ [s1.heap.objs.size + 1, s1.heap.objs.size] → FpOk X pins H1 b := fun b hb => by
    have e' : b = s1.heap.objs.size + 1 ∨ b = s1.heap.objs.size := by simpa using hb
    have hle : s1.heap.objs.size ≤ b := by
      rcases e' with z | z
      · rw [z]; exact Nat.le_add_right _ _
      · rw [z]; exact Nat.le_refl _
    exact I1.fpOk hle (I1.hok.fresh hle)
  rcases q1 with ⟨a, xs, ex, hq, q⟩ | ⟨a, xs, ex, hq, q⟩
  · subst ex
    cases r1 with
    | cons r rr =>
      cases rr
      cases r
      obtain ⟨its, rv, p', hz⟩ := I1.list hq
      refine call_enumerate_list p'.isList fun h' he hit hsz hk => wpAny_pyIter_enum he ?_
      have I2 : Inv X pins σ H1 { s1 with heap := h' } := I1.kept (t' := s1.toks) hk
      exact ⟨s1.heap.objs.size + 1, [s1.heap.objs.size + 1, s1.heap.objs.size], _, _, H1, rfl, I2, turn_enum a (s1.heap.objs.size + 1) s1.heap.objs.size, ⟨⟨.none, he⟩, hit, Nat.succ_ne_self _⟩, fin, q⟩
  · subst ex
    cases r1 with
    | cons r rr =>
      cases rr
      cases r
      obtain ⟨its, rv, p', hz⟩ := I1.tuple hq
      refine call_enumerate_tup (show s1.heap.IsTuple a its.toArray from p') fun h' he hit hsz hk => wpAny_pyIter_enum he ?_
      have I2 : Inv X pins σ H1 { s1 with heap := h' } := I1.kept (t' := s1.toks) hk
      exact ⟨s1.heap.objs.size + 1, [s1.heap.objs.size + 1, s1.heap.objs.size], _, _, H1, rfl, I2, turn_enumT a (s1.heap.objs.size + 1) s1.heap.objs.size, ⟨⟨.none, he⟩, hit, Nat.succ_ne_self _⟩, fin, q⟩
section
variable {K : Kf} {W : Wish}
def enumD : Nat → List D → List D
  | _, [] => []
  | n, d :: r => .tuple [.int (n : Nat), d] :: enumD (n + 1) r
theorem enumD_length : ∀ (n : Nat) (ds : List D), (enumD n ds).length = ds.length
  | _, [] => rfl
  | n, d :: r => by show (enumD (n + 1) r).length + 1 = r.length + 1; rw [enumD_length]
theorem enumD_get : ∀ (ds : List D) (n i : Nat), (enumD n ds)[i]? = (ds[i]?).map fun d => .tuple [.int ((n + i : Nat)), d]
  | [], n, i => by simp [enumD]
  | d :: r, n, 0 => by simp [enumD]
  | d :: r, n, i + 1 => by
    show (enumD (n + 1) r)[i]? = (r[i]?).map _
    rw [enumD_get r (n + 1) i]
    have : n + 1 + i = n + (i + 1) := by omega
    rw [this]
theorem dv_pair {G H : Hp} {T : Addr} {d e : D} {v w : V} (l : Le G H) (hT : H T = none) (h : Dv K G d v) (h' : Dv K G e w) : ∃ G', Al G H G' (upd H T (.tup [v, w])) ∧ Dv K G' (.tuple [d, e]) (.ref T) := by
  have al : Al G H (upd G T (.tup [v, w])) (upd H T (.tup [v, w])) := Al.one hT
  have ex := al.ex l
  exact ⟨_, al, dv_tup (.cons (Dv.ex ex _ h) (.cons (Dv.ex ex _ h') .nil)) upd_same⟩
theorem itd_enumL {G0 : Hp} {a : Addr} {vs : List V} {ds : List D} (s : SqL K G0 a vs) (h : DvAll K G0 ds vs) : ItD K (Ite K a) G0 (enumD 0 ds) := by
  intro G H e l i
  have s' : SqL K H a vs := sql_le l (sql_ex e s)
  have h' := DvAll.ex e _ h
  refine ⟨fun d hd => ?_, fun hl => ⟨vs, s', by rw [h.length]; rw [enumD_length] at hl; exact hl⟩⟩
  rw [enumD_get] at hd
  obtain ⟨d', hd', rfl⟩ := Option.map_eq_some_iff.mp hd
  obtain ⟨v, hv, q⟩ := h'.get hd'
  refine ⟨⟨vs, v, s', hv⟩, fun x H' y => ?_⟩
  obtain ⟨T, y', rfl, hT, rfl, y⟩ := y
  have := y vs s'
  rw [hv] at this; cases this
  rw [Nat.zero_add]
  exact dv_pair l hT dv_int q
theorem itd_enumT {G0 : Hp} {a : Addr} {vs : List V} {ds : List D} (s : G0 a = some (.tup vs)) (h : DvAll K G0 ds vs) : ItD K (IteT K a) G0 (enumD 0 ds) := by
  intro G H e l i
  have s' : SqT K H a vs := sqt_le l (sqt_ex e s)
  have h' := DvAll.ex e _ h
  refine ⟨fun d hd => ?_, fun hl => ⟨vs, s', by rw [h.length]; rw [enumD_length] at hl; exact hl⟩⟩
  rw [enumD_get] at hd
  obtain ⟨d', hd', rfl⟩ := Option.map_eq_some_iff.mp hd
  obtain ⟨v, hv, q⟩ := h'.get hd'
  refine ⟨⟨vs, v, s', hv⟩, fun x H' y => ?_⟩
  obtain ⟨T, y', rfl, hT, rfl, y⟩ := y
  have := y vs s'
  rw [hv] at this; cases this
  rw [Nat.zero_add]
  exact dv_pair l hT dv_int q
theorem vws_dvs {c : Cn} {G H : Hp} {ρ : Env} {σ : L2.St} (R : Rel K c G ρ σ H) {os : List Opd} {vs : List V} {d : D} (r : OReps K G σ os vs) (e : ims ρ os = some [d]) : ∃ v, vs = [v] ∧ Dv K G d v := by
  obtain ⟨v, r, rfl, h1, h2⟩ := (dvs_of R r e).cons_inv
  rw [h2.nil_inv]
  exact ⟨v, rfl, h1⟩
theorem vws_dvs2 {c : Cn} {G H : Hp} {ρ : Env} {σ : L2.St} (R : Rel K c G ρ σ H) {os : List Opd} {vs : List V} {d d' : D} (r : OReps K G σ os vs) (e : ims ρ os = some [d, d']) : ∃ v w, vs = [v, w] ∧ Dv K G d v ∧ Dv K G d' w := by
  obtain ⟨v, r, rfl, h1, h2⟩ := (dvs_of R r e).cons_inv
  obtain ⟨w, r, rfl, h3, h4⟩ := h2.cons_inv
  rw [h4.nil_inv]
  exact ⟨v, w, rfl, h1, h3⟩
def mEnum (fa : Md (List Opd)) : Md (List D) := Md.bind fa fun os ρ => match ims ρ os with
  | some [d] => (Md.opt (items d) ρ : Rs (List D)) |> fun r => match r with
    | .ok ds ρ => .ok (enumD 0 ds) ρ
    | _ => .stuck
  | _ => .stuck
theorem ei_enum {ta : TA} {fa : Md (List Opd)} (h : EvA K W ta fa) : EvI K W (iEnumA K ta) (mEnum fa) := by
  intro c G ρ σ H R Q q
  refine h c G ρ σ H R _ (q.bind.mono fun os ρ1 G1 H1 e1 R1 h1 vs r => ?_)
  split at h1
  · rename_i d eo
    obtain ⟨v, rfl, dv⟩ := vws_dvs R1 r eo
    cases d with
    | list es =>
      unfold Dv at dv
      obtain ⟨a, vs, rfl, s, q⟩ := dv
      exact .inl ⟨a, vs, rfl, sql_le R1.le s, h1.ret R1 _ (itd_enumL s q)⟩
    | tuple es =>
      unfold Dv at dv
      obtain ⟨a, vs, rfl, s, q⟩ := dv
      exact .inr ⟨a, vs, rfl, sqt_le R1.le s, h1.ret R1 _ (itd_enumT s q)⟩
    | _ => exact False.elim h1
  · exact False.elim h1
/-! zip of two lists, of two tuples -/
def zipD (as bs : List D) : List D := (as.zip bs).map fun p => .tuple [p.1, p.2]
theorem zipD_get {as bs : List D} {i : Nat} {d : D} (h : (zipD as bs)[i]? = some d) : ∃ a b, as[i]? = some a ∧ bs[i]? = some b ∧ d = .tuple [a, b] := by
  unfold zipD at h
  rw [List.getElem?_map] at h
  obtain ⟨p, hp, rfl⟩ := Option.map_eq_some_iff.mp h
  rw [List.getElem?_zip_eq_some] at hp
  exact ⟨p.1, p.2, hp.1, hp.2, rfl⟩
theorem itd_zipL {G0 : Hp} {a b : Addr} {vs ws : List V} {ds es : List D} (s : SqL K G0 a vs) (h : DvAll K G0 ds vs) (s2 : SqL K G0 b ws) (h2 : DvAll K G0 es ws) : ItD K (Itz K a b) G0 (zipD ds es) := by
  intro G H e l i
  have s' : SqL K H a vs := sql_le l (sql_ex e s)
  have h' := DvAll.ex e _ h
  have s2' : SqL K H b ws := sql_le l (sql_ex e s2)
  have h2' := DvAll.ex e _ h2
  refine ⟨fun d hd => ?_, fun hl => ⟨vs, ws, s', s2', ?_⟩⟩
  · obtain ⟨x, y, hx, hy, rfl⟩ := zipD_get hd
    obtain ⟨v, hv, q⟩ := h'.get hx
    obtain ⟨w, hw, q2⟩ := h2'.get hy
    refine ⟨⟨vs, ws, v, w, s', s2', hv, hw⟩, fun z H' y => ?_⟩
    obtain ⟨T, v', w', rfl, hT, rfl, y1, y2⟩ := y
    have e1 := y1 vs s'
    have e2 := y2 ws s2'
    rw [hv] at e1; cases e1
    rw [hw] at e2; cases e2
    exact dv_pair l hT q q2
  · rw [h.length, h2.length]
    unfold zipD at hl
    rw [List.length_map, List.length_zip] at hl
    omega
theorem itd_zipT {G0 : Hp} {a b : Addr} {vs ws : List V} {ds es : List D} (s : G0 a = some (.tup vs)) (h : DvAll K G0 ds vs) (s2 : G0 b = some (.tup ws)) (h2 : DvAll K G0 es ws) : ItD K (RZ.ItzT K a b) G0 (zipD ds es) := by
  intro G H e l i
  have s' : SqT K H a vs := sqt_le l (sqt_ex e s)
  have h' := DvAll.ex e _ h
  have s2' : SqT K H b ws := sqt_le l (sqt_ex e s2)
  have h2' := DvAll.ex e _ h2
  refine ⟨fun d hd => ?_, fun hl => ⟨vs, ws, s', s2', ?_⟩⟩
  · obtain ⟨x, y, hx, hy, rfl⟩ := zipD_get hd
    obtain ⟨v, hv, q⟩ := h'.get hx
    obtain ⟨w, hw, q2⟩ := h2'.get hy
    refine ⟨⟨vs, ws, v, w, s', s2', hv, hw⟩, fun z H' y => ?_⟩
    obtain ⟨T, v', w', rfl, hT, rfl, y1, y2⟩ := y
    have e1 := y1 vs s'
    have e2 := y2 ws s2'
    rw [hv] at e1; cases e1
    rw [hw] at e2; cases e2
    exact dv_pair l hT q q2
  · rw [h.length, h2.length]
    unfold zipD at hl
    rw [List.length_map, List.length_zip] at hl
    omega
def mZip (fa : Md (List Opd)) : Md (List D) := Md.bind fa fun os ρ => match ims ρ os with
  | some [.list ds, .list es] => .ok (zipD ds es) ρ
  | some [.tuple ds, .tuple es] => .ok (zipD ds es) ρ
  | _ => .stuck
theorem ei_zip {ta : TA} {fa : Md (List Opd)} (h : EvA K W ta fa) : EvI K W (RZ.iZipA K ta) (mZip fa) := by
  intro c G ρ σ H R Q q
  refine h c G ρ σ H R _ (q.bind.mono fun os ρ1 G1 H1 e1 R1 h1 vs r => ?_)
  split at h1
  · rename_i ds es eo
    obtain ⟨v, w, rfl, dv, dw⟩ := vws_dvs2 R1 r eo
    unfold Dv at dv dw
    obtain ⟨a, vs, rfl, s, q⟩ := dv
    obtain ⟨b, ws, rfl, s2, q2⟩ := dw
    exact ⟨a, b, vs, ws, rfl, .inl ⟨sql_le R1.le s, sql_le R1.le s2, h1.ret R1 _ (itd_zipL s q s2 q2)⟩⟩
  · rename_i ds es eo
    obtain ⟨v, w, rfl, dv, dw⟩ := vws_dvs2 R1 r eo
    unfold Dv at dv dw
    obtain ⟨a, vs, rfl, s, q⟩ := dv
    obtain ⟨b, ws, rfl, s2, q2⟩ := dw
    exact ⟨a, b, vs, ws, rfl, .inr ⟨sqt_le R1.le s, sqt_le R1.le s2, h1.ret R1 _ (itd_zipT s q s2 q2)⟩⟩
  · exact False.elim h1
end
end DV

set_option Elab.async false
set_option linter.all false
set_option maxRecDepth 100000
set_option maxHeartbeats 2000000
set_option autoImplicit false
/-! DvBlk: targets, statements, loops, comprehensions. -/
namespace DV
open PySem L2

/-! ### targets -/
/-- g stores d by tg, within the slots vs -/
def TgD (K : Kf) (vs : List Nat) (g : TG) (tg : D → Env → Option Env) : Prop := ∀ c G ρ σ H d v ρ', Rel K c G ρ σ H → Dv K G d v → tg d ρ = some ρ' → ∀ Q : St → Hp → Prop,
  (∀ σ', wipe σ' vs = wipe σ vs → Rel K c G ρ' σ' H → Q σ' H) → g v σ H Q
def TgsD (K : Kf) (vs : List Nat) (g : TGs) (tg : List D → Env → Option Env) : Prop := ∀ c G ρ σ H ds ws ρ', Rel K c G ρ σ H → DvAll K G ds ws → tg ds ρ = some ρ' → ∀ Q : St → Hp → Prop,
  (∀ σ', wipe σ' vs = wipe σ vs → Rel K c G ρ' σ' H → Q σ' H) → g ws σ H Q
theorem wipe_get {σ : St} {j : Nat} : ∀ {vs : List Nat}, (wipe σ vs)[j]? = if j ∈ vs ∧ j < σ.length then some none else σ[j]?
  | [] => by simp [wipe]
  | v :: vs => by
    unfold wipe
    by_cases h : v = j
    · subst h
      by_cases hl : v < σ.length
      · rw [List.getElem?_set_self (by rw [wipe_length]; exact hl), if_pos ⟨List.mem_cons_self, hl⟩]
      · rw [if_neg (fun z => hl z.2), List.getElem?_eq_none (by rw [List.length_set, wipe_length]; omega), List.getElem?_eq_none (by omega)]
    · rw [List.getElem?_set_ne h, wipe_get]
      have : (j ∈ v :: vs) ↔ j ∈ vs := ⟨fun z => (List.mem_cons.mp z).resolve_left (Ne.symm h), List.mem_cons_of_mem _⟩
      simp only [this]
theorem wipe_set {σ : St} {i : Nat} {x : Option V} {vs : List Nat} (h : i ∈ vs) : wipe (σ.set i x) vs = wipe σ vs := List.ext_getElem? fun j => by
  rw [wipe_get, wipe_get, List.length_set]
  by_cases hj : j ∈ vs
  · by_cases hl : j < σ.length
    · rw [if_pos ⟨hj, hl⟩, if_pos ⟨hj, hl⟩]
    · rw [if_neg (fun z => hl z.2), if_neg (fun z => hl z.2), List.getElem?_eq_none (by rw [List.length_set]; omega), List.getElem?_eq_none (by omega)]
  · rw [if_neg (fun z => hj z.1), if_neg (fun z => hj z.1), List.getElem?_set_ne (fun z => hj (by rw [← z]; exact h))]
def tN (i : Nat) (d : D) (ρ : Env) : Option Env := if canSet ρ i then some (ρ.set i (some (.imm d))) else none
theorem tg_name {K : Kf} {vs : List Nat} {i : Nat} (h : i ∈ vs := by decide) : TgD K vs (gName i) (tN i) := by
  intro c G ρ σ H d v ρ' R dv e Q q
  obtain ⟨hc, rfl⟩ := ifSome (show (if canSet ρ i = true then some (ρ.set i (some (.imm d))) else none) = some ρ' from e)
  exact q _ (wipe_set h) (R.setImm (R.canSet hc) dv)
def tsNil (ds : List D) (ρ : Env) : Option Env := match ds with
  | [] => some ρ
  | _ => none
def tsCons (t : D → Env → Option Env) (u : List D → Env → Option Env) (ds : List D) (ρ : Env) : Option Env := match ds with
  | d :: r => (t d ρ).bind (u r)
  | [] => none
theorem tgs_nil {K : Kf} {vs : List Nat} : TgsD K vs gNil tsNil := by
  intro c G ρ σ H ds ws ρ' R dv e Q q
  cases ds with
  | nil => cases e; exact ⟨dv.nil_inv, q σ rfl R⟩
  | cons d r => cases e
theorem tgs_cons {K : Kf} {vs : List Nat} {g : TG} {gs : TGs} {t : D → Env → Option Env} {u : List D → Env → Option Env} (h1 : TgD K vs g t) (h2 : TgsD K vs gs u) : TgsD K vs (gCons g gs) (tsCons t u) := by
  intro c G ρ σ H ds ws ρ' R dv e Q q
  cases ds with
  | nil => cases e
  | cons d r =>
    obtain ⟨v, r', rfl, q1, q2⟩ := dv.cons_inv
    obtain ⟨ρ1, e1, e2⟩ := Option.bind_eq_some_iff.mp (show (t d ρ).bind (u r) = some ρ' from e)
    refine ⟨v, r', rfl, h1 c G ρ σ H d v ρ1 R q1 e1 _ fun σ1 w1 R1 => ?_⟩
    exact h2 c G ρ1 σ1 H r r' ρ' R1 q2 e2 Q fun σ2 w2 R2 => q σ2 (w2.trans w1) R2
def tTupT (n : Nat) (t : List D → Env → Option Env) (d : D) (ρ : Env) : Option Env := match d with
  | .tuple ds => if ds.length = n then t ds ρ else none
  | _ => none
theorem tg_tup {K : Kf} {vs : List Nat} {gs : TGs} {t : List D → Env → Option Env} {n : Nat} (h : TgsD K vs gs t) : TgD K vs (gTup K n gs) (tTupT n t) := by
  intro c G ρ σ H d v ρ' R dv e Q q
  cases d with
  | tuple ds =>
    have e' : (if ds.length = n then t ds ρ else none) = some ρ' := e
    split at e'
    · rename_i hl
      unfold Dv at dv
      obtain ⟨a, ws, rfl, s, r⟩ := dv
      exact ⟨a, ws, rfl, sqt_le R.le s, by rw [r.length]; exact hl, h c G ρ σ H ds ws ρ' R r e' Q q⟩
    · cases e'
  | _ => cases e

/-! ### small statements -/
section
variable {K : Kf} {W : Wish}
def sNx : Md Fw := Md.ret .nx
def sSeq (f g : Md Fw) : Md Fw := Md.bind f fun x => match x with
  | .nx => g
  | y => Md.ret y
theorem st_next : StD K W tNext sNx := fun c G ρ σ H R D h => OutS.ret (P := fun fl _ σ' G' H' => Leave K c D fl σ' G' H') R h
theorem st_break : StD K W tBreak (Md.ret .br) := fun c G ρ σ H R D h => OutS.ret (P := fun fl _ σ' G' H' => Leave K c D fl σ' G' H') R h
theorem st_cont : StD K W tCont (Md.ret .ct) := fun c G ρ σ H R D h => OutS.ret (P := fun fl _ σ' G' H' => Leave K c D fl σ' G' H') R h
theorem st_seq {t u : TS} {f g : Md Fw} (h1 : StD K W t f) (h2 : StD K W u g) : StD K W (tSeq t u) (sSeq f g) := by
  intro c G ρ σ H R D h
  refine h1 c G ρ σ H R _ ?_
  unfold sSeq Md.bind at h
  cases e : f ρ with
  | ok fl ρ1 =>
    rw [e] at h
    intro σ1 G1 H1 e1 R1
    cases fl with
    | nx =>
      show u D σ1 H1
      exact h2 c G1 ρ1 σ1 H1 R1 D (OutS.weak e1 h)
    | br => exact h σ1 G1 H1 e1 R1
    | ct => exact h σ1 G1 H1 e1 R1
    | rt a => exact h σ1 G1 H1 e1 R1
  | raise x ρ1 => rw [e] at h; exact h
  | stuck => rw [e] at h; exact h
def sIf (t : Md Bool) (f g : Md Fw) : Md Fw := Md.bind t fun b => if b then f else g
theorem st_if {t : TT} {ft : Md Bool} {u v : TS} {f g : Md Fw} (h : EvT K W t ft) (h1 : StD K W u f) (h2 : StD K W v g) : StD K W (tIfS t u v) (sIf ft f g) := by
  intro c G ρ σ H R D q
  refine h c G ρ σ H R _ (Out.mono (OutS.bindE (σ := σ) q) fun b ρ1 G1 H1 e1 R1 h => ?_)
  cases b with
  | true =>
    rw [if_pos rfl] at h ⊢
    exact h1 c G1 ρ1 σ H1 R1 D h
  | false =>
    rw [if_neg Bool.false_ne_true] at h ⊢
    exact h2 c G1 ρ1 σ H1 R1 D h
def sDrop (f : Md Opd) : Md Fw := Md.bind f fun _ => sNx
theorem st_drop {t : TE} {f : Md Opd} (h : EvO K W t f) : StD K W (tDrop t) (sDrop f) := by
  intro c G ρ σ H R D q
  exact h c G ρ σ H R _ (Out.mono (OutS.bindE (σ := σ) q) fun o ρ1 G1 H1 e1 R1 h1 v r => OutS.ret (P := fun fl _ σ' G' H' => Leave K c D fl σ' G' H') R1 h1)
/-- return e: data, or a slot's own cell -/
def sRet (f : Md Opd) : Md Fw := Md.bind f fun o ρ => match o with
  | .dat d => .ok (.rt (.imm d)) ρ
  | .slot i => match ρ[i]? with
    | some (some (.imm d)) => .ok (.rt (.imm d)) ρ
    | some (some (.own false o)) => .ok (.rt (.own false o)) ρ
    | _ => .stuck
theorem st_ret {t : TE} {f : Md Opd} (h : EvO K W t f) : StD K W (tRet t) (sRet f) := by
  intro c G ρ σ H R D q
  refine h c G ρ σ H R _ (Out.mono (OutS.bindE (σ := σ) q) fun o ρ1 G1 H1 e1 R1 h1 v r => ?_)
  cases o with
  | dat d => exact OutS.ret (P := fun fl _ σ' G' H' => Leave K c D fl σ' G' H') R1 h1 v r
  | slot i =>
    simp only at h1
    split at h1
    · rename_i d e
      exact OutS.ret (P := fun fl _ σ' G' H' => Leave K c D fl σ' G' H') R1 h1 v (dv_of (o := .slot i) R1 r (by show (match ρ1[i]? with | some (some (.imm d)) => some d | _ => none) = some d; rw [e]))
    · rename_i o' e
      obtain ⟨p, ob, s, hp, rr, g, z⟩ := R1.own i false o' e
      have r' : σ[i]? = some (some v) := r
      rw [s] at r'; cases r'
      exact OutS.ret (P := fun fl _ σ' G' H' => Leave K c D fl σ' G' H') R1 h1 _ ⟨p, ob, rfl, hp, rr, g, z⟩
    · exact False.elim h1
def sRetN (f : Md Own) : Md Fw := Md.bind f fun o => Md.ret (.rt (.own false o))
theorem st_retN {t : TE} {f : Md Own} (h : EvN K W t f) : StD K W (tRet t) (sRetN f) := by
  intro c G ρ σ H R D q
  refine h c G ρ σ H R _ (Out.mono (OutS.bindE (σ := σ) q) fun o ρ1 G1 H1 e1 R1 h1 v r => ?_)
  obtain ⟨p, ob, rfl, hp, rr, g, z, kz, no⟩ := r
  exact OutS.ret (P := fun fl _ σ' G' H' => Leave K c D fl σ' G' H') R1 h1 _ ⟨p, ob, rfl, hp, rr, g, z⟩
def sRetNone : Md Fw := Md.ret (.rt (.imm .none))
theorem st_retNone : StD K W tRetN sRetNone := fun c G ρ σ H R D h => OutS.ret (P := fun fl _ σ' G' H' => Leave K c D fl σ' G' H') R h .non (show Dv K G .none .non from dv_non)
/-! stores to names -/
def sTg (tg : D → Env → Option Env) (f : Md Opd) : Md Fw := Md.bind f fun o ρ => match (im ρ o).bind fun d => tg d ρ with
  | some ρ' => .ok .nx ρ'
  | none => .stuck
theorem st_tg {t : TE} {f : Md Opd} {g : TG} {tg : D → Env → Option Env} {vs : List Nat} (h : EvO K W t f) (hg : TgD K vs g tg) : StD K W (tAsg t g) (sTg tg f) := by
  intro c G ρ σ H R D q
  refine h c G ρ σ H R _ (Out.mono (OutS.bindE (σ := σ) q) fun o ρ1 G1 H1 e1 R1 h1 v r => ?_)
  split at h1
  · rename_i ρ' e
    obtain ⟨d, ed, et⟩ := Option.bind_eq_some_iff.mp e
    exact hg c G1 ρ1 σ H1 d v ρ' R1 (dv_of R1 r ed) et _ fun σ' _ R2 => OutS.ret (P := fun fl _ σ' G' H' => Leave K c D fl σ' G' H') R2 h1
  · exact False.elim h1
def sSet (i : Nat) (f : Md Opd) : Md Fw := sTg (tN i) f
theorem st_set {t : TE} {f : Md Opd} {i : Nat} (h : EvO K W t f) : StD K W (tAsg t (gName i)) (sSet i f) := st_tg (vs := [i]) h (tg_name (by simp))
def sSetN (i : Nat) (f : Md Own) : Md Fw := Md.bind f fun o ρ => if canSet ρ i then .ok .nx (ρ.set i (some (.own false o))) else .stuck
theorem st_setN {t : TE} {f : Md Own} {i : Nat} (h : EvN K W t f) : StD K W (tAsg t (gName i)) (sSetN i f) := by
  intro c G ρ σ H R D q
  refine h c G ρ σ H R _ (Out.mono (OutS.bindE (σ := σ) q) fun o ρ1 G1 H1 e1 R1 h1 v r => ?_)
  split at h1
  · rename_i hc
    obtain ⟨p, ob, rfl, hp, rr, g, z, kz, no⟩ := r
    exact OutS.ret (P := fun fl _ σ' G' H' => Leave K c D fl σ' G' H') (R1.setOwn (R1.canSet hc) hp rr g z kz no) h1
  · exact False.elim h1
/-- x = y: y's cell goes over to x -/
def sMove (i j : Nat) : Md Fw := fun ρ => match ρ[j]? with
  | some (some (.own false o)) => if canSet ρ i && decide (i ≠ j) then .ok .nx ((ρ.set j none).set i (some (.own false o))) else .stuck
  | _ => .stuck
theorem st_move {i j : Nat} : StD K W (tAsg (tVar j) (gName i)) (sMove i j) := by
  intro c G ρ σ H R D q
  unfold sMove at q
  split at q
  · rename_i o e
    split at q
    · rename_i hc
      rw [Bool.and_eq_true, decide_eq_true_eq] at hc
      obtain ⟨p, ob, s, hp, rr, g, z⟩ := R.own j false o e
      refine ⟨_, s, ?_⟩
      have lj := (List.getElem?_eq_some_iff.mp e).1
      have R1 : Rel K c G (ρ.set j none) (σ.set j (some (.ref p))) H := R.drop (R.canSet (by unfold DV.canSet; rw [e]))
      have es : σ.set j (some (.ref p)) = σ := List.ext_getElem? fun k => by
        by_cases hk : j = k
        · subst hk; rw [List.getElem?_set_self (by rw [← R.len]; exact lj), s]
        · rw [List.getElem?_set_ne hk]
      rw [es] at R1
      have no : NotOwn (ρ.set j none) σ p := fun k b o' hk hs => by
        rcases get_set hk with ⟨rfl, q, hl⟩ | ⟨ne, q2⟩
        · cases q
        · exact ne (R.dis j k false o b o' p e q2 s hs)
      have kz : c.keep p = none := by
        cases ek : c.keep p with
        | none => rfl
        | some u => exact absurd s ((R.kp p u ek).2.2 j false o e)
      have hc2 : canSet (ρ.set j none) i = true := by
        have h1 := hc.1
        unfold DV.canSet at h1 ⊢
        rw [List.getElem?_set_ne (Ne.symm hc.2)]
        exact h1
      exact OutS.ret (P := fun fl _ σ' G' H' => Leave K c D fl σ' G' H') (R1.setOwn (R1.canSet hc2) hp rr g z kz no) q
    · exact False.elim q
  · exact False.elim q
/-- a slot's cell comes to stand still (no code) -/
def sFrz (i : Nat) (f : Md Fw) : Md Fw := fun ρ => match ρ[i]? with
  | some (some (.own false o)) => match ownD o with
    | some d => f (ρ.set i (some (.imm d)))
    | none => .stuck
  | some (some (.imm _)) => f ρ
  | _ => .stuck
theorem st_frz {t : TS} {f : Md Fw} {i : Nat} (h : StD K W t f) : StD K W t (sFrz i f) := by
  intro c G ρ σ H R D q
  unfold sFrz at q
  split at q
  · rename_i o e
    split at q
    · rename_i d ed
      obtain ⟨p, ob, s, g, R2, dv⟩ := R.frzSlot e ed
      exact h c _ _ σ H R2 D (OutS.weak (Ex.new g) q)
    · exact False.elim q
  · exact h c G ρ σ H R D q
  · exact False.elim q
end

/-! ### for -/
/-- over the data ds -/
def forL (tg : D → Env → Option Env) (body : Md Fw) : List D → Md Fw
  | [], ρ => .ok .nx ρ
  | d :: ds, ρ => match tg d ρ with
    | none => .stuck
    | some ρ1 => match body ρ1 with
      | .ok .nx ρ2 => forL tg body ds ρ2
      | .ok .ct ρ2 => forL tg body ds ρ2
      | .ok .br ρ2 => .ok .nx ρ2
      | .ok (.rt a) ρ2 => .ok (.rt a) ρ2
      | .raise e ρ2 => .raise e ρ2
      | .stuck => .stuck
def sFor (it : Md (List D)) (tg : D → Env → Option Env) (body : Md Fw) : Md Fw := Md.bind it fun ds => forL tg body ds
section
variable {K : Kf} {W : Wish}
/-- the iterator gives ds wherever the run stands -/
def ItR (K : Kf) (J : It) (c : Cn) (G0 : Hp) (ds : List D) : Prop := ∀ G ρ σ H, Ex G0 G → Rel K c G ρ σ H → ∀ i : Nat,
  (∀ d, ds[i]? = some d → J.go i H ∧ ∀ x H', J.yld i H x H' → ∃ G', Al G H G' H' ∧ Dv K G' d x) ∧ (ds.length ≤ i → J.stop i H)
theorem ItD.r {J : It} {c : Cn} {G0 : Hp} {ds : List D} (h : ItD K J G0 ds) : ItR K J c G0 ds := fun G ρ σ H e R i => h G H e R.le i
theorem for_core {c : Cn} {G1 H1 : Hp} {ρ1 : Env} {σ : St} {D : Ends} {J : It} {ds : List DV.D} {g : TG} {tb : TS} {tg : DV.D → Env → Option Env} {body : Md Fw} {vs : List Nat} (hJ : ItR K J c G1 ds) (hg : TgD K vs g tg) (hb : StD K W tb body) (R1 : Rel K c G1 ρ1 σ H1)
    (h1 : OutS K W c G1 (forL tg body ds ρ1) (fun fl _ σ' G' H' => Leave K c D fl σ' G' H')) :
    ∃ W : Nat → Nat → St → Hp → Prop, (∃ m, W 0 m σ H1) ∧ ∀ i m σ H, W i m σ H →
      (J.stop i H ∧ D.nx σ H) ∨ (J.go i H ∧ ∃ N : St → Hp → Prop, (∀ σ' H', N σ' H' → ∃ m', m' < m ∧ W (i + 1) m' σ' H') ∧ ∀ x H', J.yld i H x H' → g x σ H' fun σ2 H2 => tb { D with nx := N, ct := N, bk := D.nx } σ2 H2) := by
  let P : Fw → Env → St → Hp → Hp → Prop := fun fl _ σ' G' H' => Leave K c D fl σ' G' H'
  refine ⟨fun i m σ' H' => ∃ G' ρ', m = ds.length - i ∧ i ≤ ds.length ∧ Ex G1 G' ∧ Rel K c G' ρ' σ' H' ∧ OutS K W c G' (forL tg body (ds.drop i) ρ') P, ⟨ds.length, G1, ρ1, by omega, Nat.zero_le _, Ex.refl _, R1, by rw [List.drop_zero]; exact h1⟩, ?_⟩
  rintro i m σ2 H2 ⟨G2, ρ2, rfl, hi, ex2, R2, h2⟩
  obtain ⟨j1, j2⟩ := hJ G2 ρ2 σ2 H2 ex2 R2 i
  by_cases hl : i < ds.length
  · have hd : ds[i]? = some ds[i] := List.getElem?_eq_getElem hl
    obtain ⟨go, yl⟩ := j1 _ hd
    have ed : ds.drop i = ds[i] :: ds.drop (i + 1) := List.drop_eq_getElem_cons hl
    rw [ed] at h2
    refine .inr ⟨go, fun σ' H' => ∃ G' ρ', Ex G1 G' ∧ Rel K c G' ρ' σ' H' ∧ OutS K W c G' (forL tg body (ds.drop (i + 1)) ρ') P, fun σ' H' ⟨G', ρ', a, b, d⟩ => ⟨ds.length - (i + 1), by omega, G', ρ', rfl, hl, a, b, d⟩, fun x H3 hy => ?_⟩
    obtain ⟨G3, al, dv⟩ := yl x H3 hy
    obtain ⟨R3, ex3, _⟩ := Rel.al al R2
    unfold forL at h2
    split at h2
    · exact False.elim h2
    · rename_i ρ3 et
      refine hg c G3 ρ2 σ2 H3 _ x ρ3 R3 dv et _ fun σ3 _ R4 => ?_
      refine hb c G3 ρ3 σ3 H3 R4 _ ?_
      have ex13 := ex2.trans ex3
      cases eb : body ρ3 with
      | ok fl ρ4 =>
        rw [eb] at h2
        intro σ4 G4 H4 e4 R5
        have ex14 := ex13.trans e4
        cases fl with
        | nx => exact ⟨G4, ρ4, ex14, R5, OutS.weak (ex3.trans e4) h2⟩
        | ct => exact ⟨G4, ρ4, ex14, R5, OutS.weak (ex3.trans e4) h2⟩
        | br => exact h2 σ4 G4 H4 (ex3.trans e4) R5
        | rt a => exact h2 σ4 G4 H4 (ex3.trans e4) R5
      | raise x ρ4 =>
        rw [eb] at h2
        exact fun σ4 G4 H4 e4 R5 => h2 σ4 G4 H4 (ex3.trans e4) R5
      | stuck => rw [eb] at h2; exact h2
  · have e : i = ds.length := by omega
    subst e
    rw [List.drop_length] at h2
    exact .inl ⟨j2 (Nat.le_refl _), OutS.ret (P := P) R2 h2⟩
theorem st_for {wi : TI} {g : TG} {tb : TS} {fi : Md (List D)} {tg : D → Env → Option Env} {body : Md Fw} {vs : List Nat} (hi : EvI K W wi fi) (hg : TgD K vs g tg) (hb : StD K W tb body) : StD K W (tFor wi g tb) (sFor fi tg body) := by
  intro c G ρ σ H R D q
  refine hi c G ρ σ H R _ (Out.mono (OutS.bindE (σ := σ) q) fun ds ρ1 G1 H1 e1 R1 h1 J hJ => ?_)
  exact for_core hJ.r hg hb R1 h1
/-! while, at most n turns -/
def whileL (t : Md Bool) (body : Md Fw) : Nat → Md Fw
  | 0, _ => .stuck
  | n + 1, ρ => match t ρ with
    | .ok false ρ1 => .ok .nx ρ1
    | .ok true ρ1 => match body ρ1 with
      | .ok .nx ρ2 => whileL t body n ρ2
      | .ok .ct ρ2 => whileL t body n ρ2
      | .ok .br ρ2 => .ok .nx ρ2
      | .ok (.rt a) ρ2 => .ok (.rt a) ρ2
      | .raise e ρ2 => .raise e ρ2
      | .stuck => .stuck
    | .raise e ρ2 => .raise e ρ2
    | .stuck => .stuck
theorem st_while {t : TT} {ft : Md Bool} {tb : TS} {body : Md Fw} {n : Nat} (ht : EvT K W t ft) (hb : StD K W tb body) : StD K W (tWhile t tb) (whileL ft body n) := by
  intro c G ρ σ H R D q
  let P : Fw → Env → St → Hp → Hp → Prop := fun fl _ σ' G' H' => Leave K c D fl σ' G' H'
  refine ⟨fun m σ' H' => ∃ G' ρ', Ex G G' ∧ Rel K c G' ρ' σ' H' ∧ OutS K W c G' (whileL ft body m ρ') P, ⟨n, G, ρ, Ex.refl _, R, q⟩, ?_⟩
  rintro m σ1 H1 ⟨G1, ρ1, ex1, R1, h1⟩
  cases m with
  | zero => exact False.elim h1
  | succ m =>
    refine ht c G1 ρ1 σ1 H1 R1 _ ?_
    unfold whileL at h1
    cases et : ft ρ1 with
    | ok b ρ2 =>
      rw [et] at h1
      intro G2 H2 e2 R2
      cases b with
      | false =>
        rw [if_neg Bool.false_ne_true]
        exact h1 σ1 G2 H2 e2 R2
      | true =>
        rw [if_pos rfl]
        refine ⟨fun σ' H' => ∃ G' ρ', Ex G G' ∧ Rel K c G' ρ' σ' H' ∧ OutS K W c G' (whileL ft body m ρ') P, fun σ' H' ⟨G', ρ', a, b, d⟩ => ⟨m, Nat.lt_succ_self m, G', ρ', a, b, d⟩, ?_⟩
        refine hb c G2 ρ2 σ1 H2 R2 _ ?_
        dsimp only at h1
        cases eb : body ρ2 with
        | ok fl ρ4 =>
          rw [eb] at h1
          intro σ4 G4 H4 e4 R5
          have ex14 := (ex1.trans e2).trans e4
          cases fl with
          | nx => exact ⟨G4, ρ4, ex14, R5, OutS.weak (e2.trans e4) h1⟩
          | ct => exact ⟨G4, ρ4, ex14, R5, OutS.weak (e2.trans e4) h1⟩
          | br => exact h1 σ4 G4 H4 (e2.trans e4) R5
          | rt a => exact h1 σ4 G4 H4 (e2.trans e4) R5
        | raise x ρ4 =>
          rw [eb] at h1
          exact fun σ4 G4 H4 e4 R5 => h1 σ4 G4 H4 (e2.trans e4) R5
        | stuck => rw [eb] at h1; exact h1
    | raise x ρ2 =>
      rw [et] at h1
      exact fun G2 H2 e2 R2 => h1 σ1 G2 H2 e2 R2
    | stuck => rw [et] at h1; exact h1
end

/-! ### comprehensions -/
def wipeE (ρ : Env) : List Nat → Env
  | [] => ρ
  | v :: vs => (wipeE ρ vs).set v none
theorem wipeE_get {ρ : Env} {j : Nat} : ∀ {vs : List Nat}, (wipeE ρ vs)[j]? = if j ∈ vs ∧ j < ρ.length then some none else ρ[j]?
  | [] => by simp [wipeE]
  | v :: vs => by
    have hw : ∀ ws : List Nat, (wipeE ρ ws).length = ρ.length := fun ws => by
      induction ws with
      | nil => rfl
      | cons w ws ih => unfold wipeE; rw [List.length_set, ih]
    unfold wipeE
    by_cases h : v = j
    · subst h
      by_cases hl : v < ρ.length
      · rw [List.getElem?_set_self (by rw [hw]; exact hl), if_pos ⟨List.mem_cons_self, hl⟩]
      · rw [if_neg (fun z => hl z.2), List.getElem?_eq_none (by rw [List.length_set, hw]; omega), List.getElem?_eq_none (by omega)]
    · rw [List.getElem?_set_ne h, wipeE_get]
      have : (j ∈ v :: vs) ↔ j ∈ vs := ⟨fun z => (List.mem_cons.mp z).resolve_left (Ne.symm h), List.mem_cons_of_mem _⟩
      simp only [this]
/-- the slots vs of ρ stand in ρ' again -/
def backE (ρ : Env) (vs : List Nat) (ρ' : Env) : Env := match vs with
  | [] => ρ'
  | v :: vs => (backE ρ vs ρ').set v ((ρ[v]?).getD none)
theorem backE_len {ρ ρ' : Env} : ∀ {vs : List Nat}, (backE ρ vs ρ').length = ρ'.length
  | [] => rfl
  | v :: vs => by unfold backE; rw [List.length_set, backE_len]
theorem backE_get {ρ ρ' : Env} {j : Nat} : ∀ {vs : List Nat}, (backE ρ vs ρ')[j]? = if j ∈ vs ∧ j < ρ'.length then some ((ρ[j]?).getD none) else ρ'[j]?
  | [] => by simp [backE]
  | v :: vs => by
    unfold backE
    by_cases h : v = j
    · subst h
      by_cases hl : v < ρ'.length
      · rw [List.getElem?_set_self (by rw [backE_len]; exact hl), if_pos ⟨List.mem_cons_self, hl⟩]
      · rw [if_neg (fun z => hl z.2), List.getElem?_eq_none (by rw [List.length_set, backE_len]; omega), List.getElem?_eq_none (by omega)]
    · rw [List.getElem?_set_ne h, backE_get]
      have : (j ∈ v :: vs) ↔ j ∈ vs := ⟨fun z => (List.mem_cons.mp z).resolve_left (Ne.symm h), List.mem_cons_of_mem _⟩
      simp only [this]
/-- no cell stands there -/
def noOwn (ρ : Env) (i : Nat) : Bool := match ρ[i]? with
  | some (some (.own _ _)) => false
  | _ => true
section
variable {K : Kf} {c : Cn} {G G' H H' : Hp} {ρ ρ' : Env} {σ : St} {vs : List Nat}
theorem Rel.wipe (R : Rel K c G ρ σ H) (h : ∀ j ∈ vs, noOwn ρ j = true) : Rel K c G (wipeE ρ vs) (L2.wipe σ vs) H := by
  have hw : (wipeE ρ vs).length = ρ.length := by
    clear h
    induction vs with
    | nil => rfl
    | cons w ws ih => unfold wipeE; rw [List.length_set, ih]
  have away : ∀ {j : Nat} {a : A}, (wipeE ρ vs)[j]? = some (some a) → ρ[j]? = some (some a) ∧ (L2.wipe σ vs)[j]? = σ[j]? := fun {j a} e => by
    rw [wipeE_get] at e
    split at e
    · cases e
    · rename_i hj
      refine ⟨e, ?_⟩
      rw [wipe_get, if_neg (by rw [← R.len]; exact hj)]
  have own' : ∀ {j : Nat} {b o}, ρ[j]? = some (some (.own b o)) → (wipeE ρ vs)[j]? = some (some (.own b o)) ∧ (L2.wipe σ vs)[j]? = σ[j]? := fun {j b o} e => by
    have nj : j ∉ vs := fun z => by
      have := h j z
      unfold noOwn at this
      rw [e] at this; cases this
    exact ⟨by rw [wipeE_get, if_neg (fun z => nj z.1)]; exact e, by rw [wipe_get, if_neg (fun z => nj z.1)]⟩
  refine ⟨R.le, R.fr, R.g0, R.gnew, by rw [hw, wipe_length]; exact R.len, fun j d e => ?_, fun j b o e => ?_, fun i j b o b' o' p h1 h2 h3 h4 => ?_, fun j p e => ?_, fun p o e => ?_⟩
  · obtain ⟨e1, e2⟩ := away e
    rw [e2]; exact R.imm j d e1
  · obtain ⟨e1, e2⟩ := away e
    rw [e2]; exact R.own j b o e1
  · obtain ⟨e1, e2⟩ := away h1
    obtain ⟨e3, e4⟩ := away h2
    rw [e2] at h3; rw [e4] at h4
    exact R.dis i j b o b' o' p e1 e3 h3 h4
  · obtain ⟨s, o, r⟩ := R.pin j p e
    obtain ⟨e1, e2⟩ := own' r
    exact ⟨by rw [e2]; exact s, o, e1⟩
  · obtain ⟨k1, k2, k3⟩ := R.kp p o e
    refine ⟨k1, k2, fun j b o' hj hs => ?_⟩
    obtain ⟨e1, e2⟩ := away hj
    rw [e2] at hs
    exact k3 j b o' e1 hs
/-- behind the block the slots stand as they stood -/
theorem Rel.back (R : Rel K c G ρ σ H) (R' : Rel K c G' ρ' (L2.wipe σ vs) H') (ex : Ex G G') (h : ∀ j ∈ vs, noOwn ρ j = true) : Rel K c G' (backE ρ vs ρ') σ H' := by
  have hl : ρ'.length = ρ.length := by rw [R'.len, wipe_length, R.len]
  have cases' : ∀ {j : Nat} {a : A}, (backE ρ vs ρ')[j]? = some (some a) → (j ∈ vs ∧ ρ[j]? = some (some a)) ∨ (j ∉ vs ∧ ρ'[j]? = some (some a) ∧ (L2.wipe σ vs)[j]? = σ[j]?) := fun {j a} e => by
    rw [backE_get] at e
    split at e
    · rename_i hj
      refine .inl ⟨hj.1, ?_⟩
      have e' := Option.some.inj e
      cases q : ρ[j]? with
      | none => rw [q] at e'; cases e'
      | some x => rw [q] at e'; have e'' : x = some a := e'; rw [e'']
    · rename_i hj
      have nj : j ∉ vs := fun z => hj ⟨z, (List.getElem?_eq_some_iff.mp e).1⟩
      exact .inr ⟨nj, e, by rw [wipe_get, if_neg (fun z => nj z.1)]⟩
  have own' : ∀ {j : Nat} {b o}, (backE ρ vs ρ')[j]? = some (some (.own b o)) → ρ'[j]? = some (some (.own b o)) ∧ (L2.wipe σ vs)[j]? = σ[j]? := fun {j b o} e => by
    rcases cases' e with ⟨hj, e⟩ | ⟨_, e, s⟩
    · have := h j hj
      unfold noOwn at this
      rw [e] at this; cases this
    · exact ⟨e, s⟩
  refine ⟨R'.le, R'.fr, R'.g0, R'.gnew, by rw [backE_len, hl]; exact R.len, fun j d e => ?_, fun j b o e => ?_, fun i j b o b' o' p h1 h2 h3 h4 => ?_, fun j p e => ?_, fun p o e => ?_⟩
  · rcases cases' e with ⟨hj, e⟩ | ⟨_, e, s⟩
    · obtain ⟨v, s, q⟩ := R.imm j d e
      exact ⟨v, s, q.ex ex⟩
    · rw [← s]; exact R'.imm j d e
  · obtain ⟨e1, s⟩ := own' e
    rw [← s]; exact R'.own j b o e1
  · obtain ⟨e1, s1⟩ := own' h1
    obtain ⟨e2, s2⟩ := own' h2
    rw [← s1] at h3; rw [← s2] at h4
    exact R'.dis i j b o b' o' p e1 e2 h3 h4
  · obtain ⟨s, o, r⟩ := R'.pin j p e
    have nj : j ∉ vs := fun z => by
      have lj := (List.getElem?_eq_some_iff.mp r).1
      rw [wipe_get, if_pos ⟨z, by rw [← R.len, ← hl]; exact lj⟩] at s
      cases s
    refine ⟨by rw [wipe_get, if_neg (fun z => nj z.1)] at s; exact s, o, ?_⟩
    rw [backE_get, if_neg (fun z => nj z.1)]; exact r
  · obtain ⟨k1, k2, k3⟩ := R'.kp p o e
    refine ⟨k1, k2, fun j b o' hj hs => ?_⟩
    obtain ⟨e1, s1⟩ := own' hj
    rw [← s1] at hs
    exact k3 j b o' e1 hs
end

section
variable {K : Kf} {W : Wish}
/-- the turns of a comprehension -/
def lcL (vs : List Nat) (tg : D → Env → Option Env) (test : Md Bool) (elt : Md Opd) : List D → List D → Md (List D)
  | [], acc, ρ => .ok acc ρ
  | d :: ds, acc, ρ => match tg d ρ with
    | none => .stuck
    | some ρ1 => match test ρ1 with
      | .ok false ρ2 => if vs.all (noOwn ρ2) then lcL vs tg test elt ds acc (wipeE ρ2 vs) else .stuck
      | .ok true ρ2 => match elt ρ2 with
        | .ok o ρ3 => match im ρ3 o with
          | some e => if acc.length < lim ∧ vs.all (noOwn ρ3) = true then lcL vs tg test elt ds (acc ++ [e]) (wipeE ρ3 vs) else .stuck
          | none => .stuck
        | _ => .stuck
      | _ => .stuck
def mLc (vs : List Nat) (it : Md (List D)) (tg : D → Env → Option Env) (test : Md Bool) (elt : Md Opd) : Md Own := Md.bind it fun ds ρ =>
  if vs.all (noOwn ρ) then match lcL vs tg test elt ds [] (wipeE ρ vs) with
    | .ok acc ρ' => .ok (.lst acc) (backE ρ vs ρ')
    | _ => .stuck
  else .stuck
theorem et_yes : EvT K W tYes (Md.ret true) := fun c G ρ σ H R Q h => h.ret R
/-- one thing more is laid aside -/
def Cn.with (c : Cn) (p : Addr) (o : HO) : Cn := { c with keep := upd c.keep p o }
theorem Rel.with {c : Cn} {G H : Hp} {ρ : Env} {σ : St} (R : Rel K c G ρ σ H) {p : Addr} {o : HO} (h : H p = some o) (hg : KOk G p o) (no : NotOwn ρ σ p) : Rel K (c.with p o) G ρ σ H := by
  refine ⟨R.le, R.fr, R.g0, R.gnew, R.len, R.imm, R.own, R.dis, R.pin, fun a u e => ?_⟩
  have e' : upd c.keep p o a = some u := e
  by_cases q : a = p
  · subst q; rw [upd_same] at e'; cases e'; exact ⟨h, hg, no⟩
  · rw [upd_ne q] at e'; exact R.kp a u e'
theorem Rel.unwith {c : Cn} {G H : Hp} {ρ : Env} {σ : St} {p : Addr} {o : HO} (R : Rel K (c.with p o) G ρ σ H) (hk : c.keep p = none) : Rel K c G ρ σ H ∧ H p = some o ∧ KOk G p o ∧ NotOwn ρ σ p := by
  refine ⟨⟨R.le, R.fr, R.g0, R.gnew, R.len, R.imm, R.own, R.dis, R.pin, fun a u e => R.kp a u ?_⟩, R.kp p o (by show upd c.keep p o p = some o; exact upd_same)⟩
  show upd c.keep p o a = some u
  rw [upd_ne (ne_of_none e hk)]; exact e
/-- the thing laid aside changes -/
theorem Rel.aside {c : Cn} {G H : Hp} {ρ : Env} {σ : St} (R : Rel K c G ρ σ H) {p : Addr} {ob : HO} (hg : G p = none) (h0 : c.H0 p = none) (hk : c.keep p = none) (no : NotOwn ρ σ p) : Rel K c G ρ σ (upd H p ob) := by
  refine ⟨R.le.mut hg, fun a o e f => ?_, R.g0, R.gnew, R.len, R.imm, fun i b o e => ?_, R.dis, R.pin, fun a o e => ?_⟩
  · rw [upd_ne (ne_of_none e h0)]; exact R.fr a o e f
  · obtain ⟨a, ob', s, ha, q, g, z⟩ := R.own i b o e
    have ne : a ≠ p := fun z => no i b o e (by rw [← z]; exact s)
    exact ⟨a, ob', s, by rw [upd_ne ne]; exact ha, q, g, z⟩
  · obtain ⟨k1, k2, k3⟩ := R.kp a o e
    exact ⟨by rw [upd_ne (ne_of_none e hk)]; exact k1, k2, k3⟩
theorem noOwn_wipe {ρ : Env} {vs : List Nat} : ∀ j ∈ vs, noOwn (wipeE ρ vs) j = true := fun j hj => by
  unfold noOwn
  rw [wipeE_get]
  by_cases h : j < ρ.length
  · rw [if_pos ⟨hj, h⟩]
  · rw [if_neg (fun z => h z.2), List.getElem?_eq_none (by omega)]
theorem NotOwn.wipe {ρ : Env} {σ : St} {p : Addr} {vs : List Nat} (hl : ρ.length = σ.length) (no : NotOwn ρ σ p) : NotOwn (wipeE ρ vs) (L2.wipe σ vs) p := fun j b o hj hs => by
  rw [wipeE_get] at hj
  split at hj
  · cases hj
  · rename_i h
    rw [wipe_get, if_neg (by rw [← hl]; exact h)] at hs
    exact no j b o hj hs
theorem wipe_wipe {σ : St} {vs : List Nat} : L2.wipe (L2.wipe σ vs) vs = L2.wipe σ vs := List.ext_getElem? fun j => by
  rw [wipe_get, wipe_get, wipe_length]
  split <;> rfl
/-- a comprehension's run over ds (lcL's answer is accF, ρF) -/
theorem lc_core {c : Cn} {G1 H1 : Hp} {ρ1 : Env} {σ : St} {J : It} {ds : List D} {g : TG} {tt : TT} {te : TE} {vs : List Nat} {tg : D → Env → Option Env} {test : Md Bool} {elt : Md Opd} {Q : VK}
    (hJ : ItR K J c G1 ds) (hg : TgD K vs g tg) (ht : EvT K V0 tt test) (he : EvO K V0 te elt) (R1 : Rel K c G1 ρ1 σ H1) (hv : ∀ j ∈ vs, noOwn ρ1 j = true) {accF : List D} {ρF : Env} (eF : lcL vs tg test elt ds [] (wipeE ρ1 vs) = .ok accF ρF)
    (h1 : ∀ G' H', Ex G1 G' → Rel K c G' (backE ρ1 vs ρF) σ H' → ∀ v, NRep K c G' (backE ρ1 vs ρF) σ H' (.lst accF) v → Q v H') {p : Addr} (hp : H1 p = none) :
    ∃ W : Nat → Nat → Hp → Prop, (∃ m, W 0 m (upd H1 p (.lst []))) ∧ ∀ i m H, W i m H →
      (J.stop i H ∧ Q (.ref p) H) ∨ (J.go i H ∧ ∃ Nx : Hp → Prop, (∀ H', Nx H' → ∃ m', m' < m ∧ W (i + 1) m' H') ∧ ∀ x H', J.yld i H x H' → g x (L2.wipe σ vs) H' fun σ2 H2 => L2.wipe σ2 vs = L2.wipe σ vs ∧ tt σ2 H2 fun b H3 =>
        if b = true then te σ2 H3 fun y H4 => ∃ acc, H4 p = some (.lst acc) ∧ acc.length < sizeLine ∧ Nx (upd H4 p (.lst (acc ++ [y]))) else Nx H3) := by
  have hgp := R1.gh hp
  have h0p := R1.h0 hp
  have hkp := R1.k0 hp
  have nop := R1.notOwn hp
  have R0 : Rel K c G1 ρ1 σ (upd H1 p (.lst [])) := R1.side hp
  refine ⟨fun i m H' => ∃ G' ρ' acc vacc, m = ds.length - i ∧ i ≤ ds.length ∧ Ex G1 G' ∧ Rel K c G' ρ' (L2.wipe σ vs) H' ∧ (∀ j ∈ vs, noOwn ρ' j = true) ∧ H' p = some (.lst vacc) ∧ DvAll K G' acc vacc ∧ G' p = none ∧ NotOwn ρ' (L2.wipe σ vs) p ∧ lcL vs tg test elt (ds.drop i) acc ρ' = .ok accF ρF,
    ⟨ds.length, G1, wipeE ρ1 vs, [], [], by omega, Nat.zero_le _, Ex.refl _, R0.wipe hv, noOwn_wipe, upd_same, .nil, hgp, NotOwn.wipe R1.len nop, by rw [List.drop_zero]; exact eF⟩, ?_⟩
  rintro i m H2 ⟨G2, ρ2, acc, vacc, rfl, hi, ex2, R2, nw, hpv, dv2, hg2, no2, h2⟩
  obtain ⟨j1, j2⟩ := hJ G2 ρ2 _ H2 ex2 R2 i
  by_cases hl : i < ds.length
  · have hd : ds[i]? = some ds[i] := List.getElem?_eq_getElem hl
    obtain ⟨go, yl⟩ := j1 _ hd
    have ed : ds.drop i = ds[i] :: ds.drop (i + 1) := List.drop_eq_getElem_cons hl
    rw [ed] at h2
    refine .inr ⟨go, fun H' => ∃ G' ρ' acc vacc, Ex G1 G' ∧ Rel K c G' ρ' (L2.wipe σ vs) H' ∧ (∀ j ∈ vs, noOwn ρ' j = true) ∧ H' p = some (.lst vacc) ∧ DvAll K G' acc vacc ∧ G' p = none ∧ NotOwn ρ' (L2.wipe σ vs) p ∧ lcL vs tg test elt (ds.drop (i + 1)) acc ρ' = .ok accF ρF,
      fun H' ⟨G', ρ', a, b, r⟩ => ⟨ds.length - (i + 1), by omega, G', ρ', a, b, rfl, hl, r⟩, fun x H3 hy => ?_⟩
    obtain ⟨G3, al, dvx⟩ := yl x H3 hy
    have R2' : Rel K (c.with p (.lst vacc)) G2 ρ2 (L2.wipe σ vs) H2 := R2.with hpv (.inl hg2) no2
    obtain ⟨R3, ex3, _⟩ := Rel.al al R2'
    unfold lcL at h2
    split at h2
    · cases h2
    · rename_i ρ3 et
      refine hg _ G3 ρ2 _ H3 _ x ρ3 R3 dvx et _ fun σ3 w3 R4 => ⟨by rw [w3]; exact wipe_wipe, ?_⟩
      refine ht _ G3 ρ3 σ3 H3 R4 _ ?_
      -- behind the turn
      have fin : ∀ {G5 H5 : Hp} {ρ5 : Env} {acc' : List D} {vacc' : List V}, Ex G3 G5 → Rel K c G5 ρ5 σ3 H5 → NotOwn ρ5 σ3 p → (wipeE ρ5 vs = wipeE ρ5 vs) → (∀ j ∈ vs, noOwn ρ5 j = true) → H5 p = some (.lst vacc') → DvAll K G5 acc' vacc' → G5 p = none →
          lcL vs tg test elt (ds.drop (i + 1)) acc' (wipeE ρ5 vs) = .ok accF ρF →
          ∃ G' ρ' acc vacc, Ex G1 G' ∧ Rel K c G' ρ' (L2.wipe σ vs) H5 ∧ (∀ j ∈ vs, noOwn ρ' j = true) ∧ H5 p = some (.lst vacc) ∧ DvAll K G' acc vacc ∧ G' p = none ∧ NotOwn ρ' (L2.wipe σ vs) p ∧ lcL vs tg test elt (ds.drop (i + 1)) acc ρ' = .ok accF ρF := by
        intro G5 H5 ρ5 acc' vacc' ex5 R5 no5 _ nw5 hp5 dv5 hg5 h5
        refine ⟨G5, wipeE ρ5 vs, acc', vacc', (ex2.trans ex3).trans ex5, ?_, noOwn_wipe, hp5, dv5, hg5, ?_, h5⟩
        · have := R5.wipe nw5
          rw [w3, wipe_wipe] at this
          exact this
        · have := NotOwn.wipe (vs := vs) R5.len no5
          rw [w3, wipe_wipe] at this
          exact this
      have inv : ∀ {G5 H5 : Hp} {ρ5 : Env}, Rel K (c.with p (.lst vacc)) G5 ρ5 σ3 H5 → Rel K c G5 ρ5 σ3 H5 ∧ H5 p = some (.lst vacc) ∧ G5 p = none ∧ NotOwn ρ5 σ3 p := fun R5 => by
        obtain ⟨a1, a2, a3, a4⟩ := R5.unwith hkp
        refine ⟨a1, a2, ?_, a4⟩
        rcases a3 with a3 | ⟨_, _, a3, _⟩
        · exact a3
        · cases a3
      cases e4 : test ρ3 with
      | ok b ρ4 =>
        rw [e4] at h2
        intro G4 H4 x4 R5
        cases b with
        | false =>
          rw [if_neg Bool.false_ne_true]
          obtain ⟨Rc, hp4, hg4, no4⟩ := inv R5
          dsimp only at h2
          split at h2
          case isFalse => cases h2
          rename_i hnw
          have nw5 : ∀ j ∈ vs, noOwn ρ4 j = true := List.all_eq_true.mp hnw
          exact fin x4 Rc no4 rfl nw5 hp4 (DvAll.ex (ex3.trans x4) _ dv2) hg4 h2
        | true =>
          rw [if_pos rfl]
          dsimp only at h2
          refine he _ G4 ρ4 σ3 H4 R5 _ ?_
          cases e5 : elt ρ4 with
          | ok o ρ5 =>
            rw [e5] at h2
            dsimp only at h2
            intro G5 H5 x5 R6 v rv
            split at h2
            · rename_i e ee
              split at h2
              · rename_i hlen
                obtain ⟨Rc, hp5, hg5, no5⟩ := inv R6
                have nw5 : ∀ j ∈ vs, noOwn ρ5 j = true := List.all_eq_true.mp hlen.2
                have dvacc := DvAll.ex ((ex3.trans x4).trans x5) _ dv2
                refine ⟨vacc, hp5, by rw [dvacc.length]; exact lim_lt hlen.1, ?_⟩
                exact fin (x4.trans x5) (Rc.aside hg5 h0p hkp no5) no5 rfl nw5 upd_same (dvacc.append (.cons (dv_of R6 rv ee) .nil)) hg5 h2
              · cases h2
            · cases h2
          | raise z ρ5 => rw [e5] at h2; cases h2
          | stuck => rw [e5] at h2; cases h2
      | raise z ρ4 => rw [e4] at h2; cases h2
      | stuck => rw [e4] at h2; cases h2
  · have e : i = ds.length := by omega
    subst e
    rw [List.drop_length] at h2
    have h2' : (Rs.ok acc ρ2 : Rs (List D)) = .ok accF ρF := h2
    cases h2'
    refine .inl ⟨j2 (Nat.le_refl _), h1 G2 H2 ex2 (R1.back R2 ex2 hv) _ ⟨p, .lst vacc, rfl, hpv, ⟨vacc, rfl, dv2⟩, hg2, h0p, hkp, ?_⟩⟩
    intro j b o hj hs
    rw [backE_get] at hj
    split at hj
    · rename_i hj2
      have hn := hv j hj2.1
      unfold noOwn at hn
      cases q : ρ1[j]? with
      | none => rw [q] at hj; cases hj
      | some y =>
        rw [q] at hj
        have : y = some (.own b o) := Option.some.inj hj
        rw [q, this] at hn; cases hn
    · rename_i hj2
      have nj : j ∉ vs := fun z => hj2 ⟨z, (List.getElem?_eq_some_iff.mp hj).1⟩
      exact no2 j b o hj (by rw [wipe_get, if_neg (fun z => nj z.1)]; exact hs)

theorem en_lc {wi : TI} {g : TG} {tt : TT} {te : TE} {vs : List Nat} {fi : Md (List D)} {tg : D → Env → Option Env} {test : Md Bool} {elt : Md Opd}
    (hi : EvI K W wi fi) (hg : TgD K vs g tg) (ht : EvT K V0 tt test) (he : EvO K V0 te elt) : EvN K W (tLc wi g tt te vs) (mLc vs fi tg test elt) := by
  intro c G ρ σ H R Q q
  refine hi c G ρ σ H R _ (q.bind.mono fun ds ρ1 G1 H1 e1 R1 h1 J hJ p hp => ?_)
  split at h1
  · rename_i hv
    rw [List.all_eq_true] at hv
    split at h1
    · rename_i accF ρF eF
      exact lc_core hJ.r hg ht he R1 hv eF h1 hp
    · exact False.elim h1
  · exact False.elim h1
end
end DV

set_option Elab.async false
set_option linter.all false
set_option maxRecDepth 100000
set_option maxHeartbeats 2000000
set_option autoImplicit false
/-! DvFn: defs and their calls. -/
namespace DV
open PySem L2

def startE (n : Nat) (as : List A) : Env := as.map some ++ List.replicate (n - as.length) none
/-- what a caller gets back of a def's slots: the cells it lent -/
def keepA (np i : Nat) (a : Option A) : Option A := if i < np then match a with
  | some (.own b o) => some (.own b o)
  | _ => none
  else none
def keepO (np : Nat) (ρ : Env) : Env := ρ.mapIdx (keepA np)
/-- a def's run: n names, its body -/
def runFn (n : Nat) (body : Md Fw) (as : List A) : Rs A := match body (startE n as) with
  | .ok (.rt a) ρ => .ok a (keepO as.length ρ)
  | .ok .nx ρ => .ok (.imm .none) (keepO as.length ρ)
  | .ok _ _ => .stuck
  | .raise e ρ => .raise e ρ
  | .stuck => .stuck
/-- what a def promises that raises nothing: n parameters, k names -/
def spOf (K : Kf) (n k : Nat) (m : List A → Rs A) : Sp := fun vs H Q _ => vs.length = n ∧ ∃ (c : Cn) (G : Hp) (as : List A), c.H0 = H ∧ c.G0 = G ∧
  Rel K c G (startE k as) (vs.map some ++ List.replicate (k - vs.length) none) H ∧
  Sat (m as) (fun a ρ' => ∀ v σ' G' H', Ex G G' → Rel K c G' ρ' σ' H' → RRep K c G' H' a v → Q v H') fun _ _ => False
theorem keepO_get {np : Nat} {ρ : Env} {i : Nat} {a : A} (h : (keepO np ρ)[i]? = some (some a)) : ρ[i]? = some (some a) ∧ ∃ b o, a = .own b o := by
  unfold keepO at h
  rw [List.getElem?_mapIdx] at h
  cases e : ρ[i]? with
  | none => rw [e] at h; cases h
  | some x =>
    rw [e] at h
    have h : keepA np i x = some a := Option.some.inj h
    unfold keepA at h
    split at h
    · split at h
      · cases h; exact ⟨rfl, _, _, rfl⟩
      · cases h
    · cases h
theorem keepO_own {np : Nat} {ρ : Env} {i : Nat} {b : Bool} {o : Own} (hi : i < np) (h : ρ[i]? = some (some (.own b o))) : (keepO np ρ)[i]? = some (some (.own b o)) := by
  unfold keepO
  rw [List.getElem?_mapIdx, h]
  show some (keepA np i (some (.own b o))) = _
  unfold keepA
  rw [if_pos hi]
theorem Rel.keepO {K : Kf} {c : Cn} {G H : Hp} {ρ : Env} {σ : St} {np : Nat} (R : Rel K c G ρ σ H) (hp : ∀ (j : Nat) p, c.pins[j]? = some (some p) → j < np) : Rel K c G (keepO np ρ) σ H := by
  refine ⟨R.le, R.fr, R.g0, R.gnew, ?_, fun j e hj => ?_, fun j b2 o2 hj => ?_, fun j k b1 o1 b2 o2 p2 h1 h2 h3 h4 => ?_, fun j p hj => ?_, fun a u e => ?_⟩
  · unfold DV.keepO; rw [List.length_mapIdx]; exact R.len
  · obtain ⟨_, _, _, q⟩ := keepO_get hj; cases q
  · exact R.own j b2 o2 (keepO_get hj).1
  · exact R.dis j k b1 o1 b2 o2 p2 (keepO_get h1).1 (keepO_get h2).1 h3 h4
  · obtain ⟨s, o, q⟩ := R.pin j p hj
    exact ⟨s, o, keepO_own (hp j p hj) q⟩
  · obtain ⟨k1, k2, k3⟩ := R.kp a u e
    exact ⟨k1, k2, fun j b o hj hs => k3 j b o (keepO_get hj).1 hs⟩
theorem startE_lt {n : Nat} {as : List A} {i : Nat} {a : A} (h : (startE n as)[i]? = some (some a)) : i < as.length := by
  unfold startE at h
  by_cases hl : i < as.length
  · exact hl
  · rw [List.getElem?_append_right (by simpa using hl), List.getElem?_replicate] at h
    split at h <;> cases h
section
variable {P : Program} {w : World} {K : PySem.W.Frag} {mg : Str → Option Value} {base : Heap}
theorem fn_ok {x qual : Str} {st : Stmt} {f : Addr} {fd : FuncData} {N ps : List Str} {k : Nat} {body : Md Fw} (F : Fun K x qual st f fd) (S : FnScope N ps (defScope st))
    (hb : ∀ (cdv : Value) (A : Around) (out : List PySem.Env) (s : Shared) (H : Hp) (E : XK), Room k (A.deeper (PyProof.Rows.envOfC qual (defScope st) s.heap.objs.size f cdv)) →
      ∃ t, PSs (cxOf CX0 P w K mg base N qual (defScope st) f cdv A out s H E).nox (defBody st) t ∧ StD K V0 t body) :
    FnOk P w K mg base CX0 (k + 1) f fd ps (spOf K ps.length N.length (runFn N.length body)) := by
  refine F.ok S (fun vs H Q E h => h.1) (fun cdv A outer s H vs Q E hr h => ?_)
  obtain ⟨t, pt, ht⟩ := hb cdv A outer s H E hr
  refine ⟨t, pt, ?_⟩
  obtain ⟨hl, c, G, as, hH, hG, R, sat⟩ := h
  refine ht c G _ _ H R _ ?_
  have pl : ∀ (j : Nat) p, c.pins[j]? = some (some p) → j < as.length := fun j p e => by
    obtain ⟨_, o, q⟩ := R.pin j p e
    exact startE_lt q
  unfold runFn at sat
  cases e : body (startE N.length as) with
  | ok fl ρ' =>
    rw [e] at sat
    intro σ' G' H' ex R'
    cases fl with
    | nx => exact sat .non σ' G' H' ex (R'.keepO pl) (show Dv K G' .none .non from dv_non)
    | rt a => exact fun v r => sat v σ' G' H' ex (R'.keepO pl) r
    | br => exact False.elim sat
    | ct => exact False.elim sat
  | raise x ρ' => rw [e] at sat; exact False.elim sat
  | stuck => rw [e] at sat; exact sat
end

/-! ### calls -/
def argOf (ρ : Env) : Opd → Option A
  | .dat d => some (.imm d)
  | .slot i => match ρ[i]? with
    | some (some (.imm d)) => some (.imm d)
    | some (some (.own _ o)) => some (.own true o)
    | _ => none
def argsOf (ρ : Env) : List Opd → Option (List A)
  | [] => some []
  | o :: os => do let a ← argOf ρ o; let as ← argsOf ρ os; pure (a :: as)
def slotOf : Opd → Option Nat
  | .dat _ => none
  | .slot i => some i
def isSlot (i : Nat) : Opd → Bool
  | .dat _ => false
  | .slot j => decide (j = i)
/-- a def's cells as they came back -/
def backA (os : List Opd) (ρ' : Env) (i : Nat) (a : Option A) : Option A := match os.findIdx? (isSlot i) with
  | none => a
  | some j => match a with
    | some (.own b _) => match ρ'[j]? with
      | some (some (.own _ o')) => some (.own b o')
      | _ => none
    | a => a
def cellsBack (os : List Opd) (ρ' ρ : Env) : Env := ρ.mapIdx (backA os ρ')
def mCallA (n : Nat) (m : List A → Rs A) (fa : Md (List Opd)) : Md A := Md.bind fa fun os ρ => match argsOf ρ os with
  | some as => if os.length = n ∧ (os.filterMap slotOf).Nodup then match m as with
    | .ok a ρ' => .ok a (cellsBack os ρ' ρ)
    | _ => .stuck
    else .stuck
  | none => .stuck
/-- a result: data, or a new cell -/
def ARes (K : Kf) (c : Cn) (G : Hp) (ρ : Env) (σ : St) (H : Hp) : A → V → Prop
  | .imm d, v => Dv K G d v
  | .own _ o, v => NRep K c G ρ σ H o v
  | .pair o1 o2, v => ∃ t p1 p2, v = .ref t ∧ H t = some (.tup [.ref p1, .ref p2]) ∧ NRep K c G ρ σ H o1 (.ref p1) ∧ NRep K c G ρ σ H o2 (.ref p2) ∧ p1 ≠ p2
def EvR (K : Kf) (W : Wish) (t : TE) (f : Md A) : Prop := ∀ c G ρ σ H, Rel K c G ρ σ H → ∀ Q : VK,
  Out K W c G σ (f ρ) (fun a ρ' G' H' => ∀ v, ARes K c G' ρ' σ H' a v → Q v H') → t σ H Q
def mImm (f : Md A) : Md Opd := Md.bind f fun a ρ => match a with
  | .imm d => .ok (.dat d) ρ
  | .own _ o => match ownD o with
    | some d => .ok (.dat d) ρ
    | none => .stuck
  | .pair _ _ => .stuck
def mOwn (f : Md A) : Md Own := Md.bind f fun a ρ => match a with
  | .own _ o => .ok o ρ
  | _ => .stuck
section
variable {K : Kf} {W : Wish}
theorem ev_imm {t : TE} {f : Md A} (h : EvR K W t f) : EvO K W t (mImm f) := by
  intro c G ρ σ H R Q q
  refine h c G ρ σ H R _ (q.bind.mono fun a ρ1 G1 H1 e1 R1 h1 v r => ?_)
  cases a with
  | imm d => exact h1.ret R1 v r
  | own b o =>
    dsimp only at h1
    split at h1
    · rename_i d ed
      obtain ⟨p, ob, rfl, hp, rr, g, z, kz, no⟩ := r
      have e2 := Ex.new (o := ob) g
      exact h1 _ _ e2 (R1.still hp g z kz no) _ (own_dv (rr.ex e2) upd_same ed)
    · exact False.elim h1
  | pair o1 o2 => exact False.elim h1
theorem en_own {t : TE} {f : Md A} (h : EvR K W t f) : EvN K W t (mOwn f) := by
  intro c G ρ σ H R Q q
  refine h c G ρ σ H R _ (q.bind.mono fun a ρ1 G1 H1 e1 R1 h1 v r => ?_)
  cases a with
  | imm d => exact False.elim h1
  | own b o => exact h1.ret R1 v r
  | pair o1 o2 => exact False.elim h1
/-- return f(..) -/
def sRetA (f : Md A) : Md Fw := Md.bind f fun a ρ => match a with
  | .imm d => .ok (.rt (.imm d)) ρ
  | .own _ o => .ok (.rt (.own false o)) ρ
  | .pair _ _ => .stuck
theorem st_retA {t : TE} {f : Md A} (h : EvR K W t f) : StD K W (tRet t) (sRetA f) := by
  intro c G ρ σ H R D q
  refine h c G ρ σ H R _ (Out.mono (OutS.bindE (σ := σ) q) fun a ρ1 G1 H1 e1 R1 h1 v r => ?_)
  cases a with
  | imm d => exact OutS.ret (P := fun fl _ σ' G' H' => Leave K c D fl σ' G' H') R1 h1 v r
  | own b o =>
    obtain ⟨p, ob, rfl, hp, rr, g, z, kz, no⟩ := r
    exact OutS.ret (P := fun fl _ σ' G' H' => Leave K c D fl σ' G' H') R1 h1 _ ⟨p, ob, rfl, hp, rr, g, z⟩
  | pair o1 o2 => exact False.elim h1
end
section
variable {K : Kf} {c : Cn} {G H : Hp} {ρ : Env} {σ : St}
theorem args_at : ∀ {os : List Opd} {vs : List V} {as : List A}, OReps K G σ os vs → argsOf ρ os = some as → vs.length = as.length ∧ os.length = as.length ∧ ∀ (j : Nat) a, as[j]? = some a → ∃ o v, os[j]? = some o ∧ vs[j]? = some v ∧ ORep K G σ o v ∧ argOf ρ o = some a
  | _, _, _, .nil, e => by
    cases e
    exact ⟨rfl, rfl, fun j a h => by simp at h⟩
  | _, _, _, .cons (a := o) (b := v) h t, e => by
    unfold argsOf at e
    simp only [Option.bind_eq_bind, Option.bind_eq_some_iff, Option.pure_def, Option.some.injEq] at e
    obtain ⟨a, e1, as, e2, rfl⟩ := e
    obtain ⟨l1, l2, f⟩ := args_at t e2
    refine ⟨by rw [List.length_cons, List.length_cons, l1], by rw [List.length_cons, List.length_cons, l2], fun j a' hj => ?_⟩
    cases j with
    | zero =>
      have : a = a' := Option.some.inj hj
      subst this
      exact ⟨o, v, rfl, rfl, h, e1⟩
    | succ j => exact f j a' hj
def pinOf : A → V → Option Addr
  | .own _ _, .ref p => some p
  | _, _ => none
theorem nodup_slots : ∀ {os : List Opd}, (os.filterMap slotOf).Nodup → ∀ {i j k : Nat}, os[i]? = some (.slot k) → os[j]? = some (.slot k) → i = j
  | [], _, i, j, k, h, _ => by simp at h
  | o :: os, nd, i, j, k, h1, h2 => by
    have nd' : (os.filterMap slotOf).Nodup := by
      cases o with
      | dat d => exact nd
      | slot z => exact (List.nodup_cons.mp nd).2
    have notin : ∀ {z m : Nat}, o = .slot z → os[m]? = some (.slot z) → False := fun {z m} e hm => by
      subst e
      refine (List.nodup_cons.mp nd).1 (List.mem_filterMap.mpr ⟨.slot z, List.mem_of_getElem? hm, rfl⟩)
    cases i with
    | zero =>
      cases j with
      | zero => rfl
      | succ j =>
        have e : o = .slot k := Option.some.inj h1
        exact (notin e h2).elim
    | succ i =>
      cases j with
      | zero =>
        have e : o = .slot k := Option.some.inj h2
        exact (notin e h1).elim
      | succ j => rw [nodup_slots nd' (i := i) (j := j) (k := k) h1 h2]
theorem startE_get {n : Nat} {as : List A} {i : Nat} {a : A} (h : (startE n as)[i]? = some (some a)) : as[i]? = some a := by
  unfold startE at h
  by_cases hl : i < as.length
  · rw [List.getElem?_append_left (by simpa using hl), List.getElem?_map] at h
    cases e : as[i]? with
    | none => rw [e] at h; cases h
    | some b => rw [e] at h; cases h; rfl
  · rw [List.getElem?_append_right (by simpa using hl), List.getElem?_replicate] at h
    split at h <;> cases h
theorem start_get {n : Nat} {vs : List V} {i : Nat} {v : V} (h : vs[i]? = some v) : (vs.map some ++ List.replicate n none : St)[i]? = some (some v) := by
  rw [List.getElem?_append_left (by simpa using (List.getElem?_eq_some_iff.mp h).1), List.getElem?_map, h]
  rfl
theorem arg_own {o : Opd} {b : Bool} {ow : Own} (h : argOf ρ o = some (.own b ow)) : b = true ∧ ∃ k b0, o = .slot k ∧ ρ[k]? = some (some (.own b0 ow)) := by
  cases o with
  | dat d => cases h
  | slot k =>
    simp only [argOf] at h
    split at h
    · cases h
    · rename_i b0 o' e
      cases h
      exact ⟨rfl, k, b0, rfl, e⟩
    · cases h
theorem arg_imm {o : Opd} {d : D} (h : argOf ρ o = some (.imm d)) : im ρ o = some d := by
  cases o with
  | dat d' => cases h; rfl
  | slot k =>
    simp only [argOf] at h
    simp only [im]
    split at h
    · rename_i d' e
      cases h; rw [e]
    · cases h
    · cases h
/-- the callee's start -/
theorem Rel.enter (R : Rel K c G ρ σ H) {n : Nat} {os : List Opd} {vs : List V} {as : List A} (r : OReps K G σ os vs) (e : argsOf ρ os = some as) (nd : (os.filterMap slotOf).Nodup) :
    Rel K ⟨G, H, List.zipWith pinOf as vs, fun _ => none⟩ G (startE n as) (vs.map some ++ List.replicate (n - vs.length) none) H := by
  obtain ⟨l1, l2, f⟩ := args_at r e
  have pins : ∀ {j : Nat} {p : Addr}, (List.zipWith pinOf as vs)[j]? = some (some p) → ∃ b o, as[j]? = some (.own b o) ∧ vs[j]? = some (.ref p) := fun {j p} h => by
    rw [List.getElem?_zipWith] at h
    cases ea : as[j]? with
    | none => rw [ea] at h; simp at h
    | some a =>
      cases ev : vs[j]? with
      | none => rw [ea, ev] at h; simp at h
      | some v =>
        rw [ea, ev] at h
        have h' : pinOf a v = some p := Option.some.inj h
        cases a with
        | imm d => cases h'
        | pair o1 o2 => cases h'
        | own b o =>
          cases v with
          | ref q => cases h'; exact ⟨b, o, rfl, rfl⟩
          | _ => cases h'
  refine ⟨R.le, fun p o h _ => h, Ex.refl _, fun p o h => .inl h, ?_, fun i d h => ?_, fun i b o h => ?_, fun i j b o b' o' p h1 h2 h3 h4 => ?_, fun j p h => ?_, fun p o h => by cases h⟩
  · unfold startE
    rw [List.length_append, List.length_append, List.length_map, List.length_map, List.length_replicate, List.length_replicate, l1]
  · obtain ⟨o, v, h1, h2, h3, h4⟩ := f i _ (startE_get h)
    exact ⟨v, start_get h2, dv_of R h3 (arg_imm h4)⟩
  · have ha := startE_get h
    obtain ⟨op, v, h1, h2, h3, h4⟩ := f i _ ha
    obtain ⟨rfl, k, b0, rfl, ek⟩ := arg_own h4
    obtain ⟨p, ob, s, hp, q, g, z⟩ := R.own k b0 o ek
    have h3' : σ[k]? = some (some v) := h3
    rw [s] at h3'; cases h3'
    refine ⟨p, ob, start_get h2, hp, q, g, ?_⟩
    show (List.zipWith pinOf as vs)[i]? = some (some p)
    rw [List.getElem?_zipWith, ha, h2]
    rfl
  · obtain ⟨op, v, a1, a2, a3, a4⟩ := f i _ (startE_get h1)
    obtain ⟨op', v', b1, b2, b3, b4⟩ := f j _ (startE_get h2)
    obtain ⟨_, k, b0, rfl, ek⟩ := arg_own a4
    obtain ⟨_, k', b0', rfl, ek'⟩ := arg_own b4
    rw [start_get a2] at h3
    rw [start_get b2] at h4
    cases h3
    cases h4
    have : k = k' := R.dis k k' b0 o b0' o' p ek ek' a3 b3
    subst this
    exact nodup_slots nd a1 b1
  · obtain ⟨b, o, ha, hv⟩ := pins h
    obtain ⟨op, v, a1, a2, a3, a4⟩ := f j _ ha
    obtain ⟨rfl, k, b0, rfl, ek⟩ := arg_own a4
    refine ⟨start_get hv, o, ?_⟩
    unfold startE
    rw [List.getElem?_append_left (by simpa using (List.getElem?_eq_some_iff.mp ha).1), List.getElem?_map, ha]
    rfl
theorem back_get {os : List Opd} {ρ' : Env} {i : Nat} : (cellsBack os ρ' ρ)[i]? = (ρ[i]?).map fun a => match a with
    | some (.own b o) => match os.findIdx? (isSlot i) with
      | some j => match ρ'[j]? with
        | some (some (.own _ o')) => some (.own b o')
        | _ => none
      | none => some (.own b o)
    | a => a := by
  unfold cellsBack
  rw [List.getElem?_mapIdx]
  cases e : ρ[i]? with
  | none => rfl
  | some a =>
    show some (backA os ρ' i a) = some _
    unfold backA
    congr 1
    cases e2 : os.findIdx? (isSlot i) with
    | none =>
      cases a with
      | none => rfl
      | some a => cases a <;> rfl
    | some j =>
      cases a with
      | none => rfl
      | some a => cases a <;> rfl
theorem find_slot {os : List Opd} {i j : Nat} (h : os.findIdx? (isSlot i) = some j) : os[j]? = some (.slot i) := by
  obtain ⟨hl, h1, _⟩ := List.findIdx?_eq_some_iff_getElem.mp h
  rw [List.getElem?_eq_getElem hl]
  cases e : os[j] with
  | dat d => rw [e] at h1; cases h1
  | slot k =>
    rw [e] at h1
    have : k = i := of_decide_eq_true h1
    rw [this]
/-- behind the call -/
theorem Rel.leave (R : Rel K c G ρ σ H) {os : List Opd} {vs : List V} {as : List A} (r : OReps K G σ os vs) (e : argsOf ρ os = some as) (nd : (os.filterMap slotOf).Nodup) {G' H' : Hp} {ρ' : Env} {σ' : St} (ex : Ex G G')
    (R' : Rel K ⟨G, H, List.zipWith pinOf as vs, fun _ => none⟩ G' ρ' σ' H') : Rel K c G' (cellsBack os ρ' ρ) σ H' ∧ ∀ p, H p = none → NotOwn (cellsBack os ρ' ρ) σ p := by
  obtain ⟨l1, l2, f⟩ := args_at r e
  have pins : ∀ {j : Nat} {p : Addr}, (List.zipWith pinOf as vs)[j]? = some (some p) → ∃ k b0 o, os[j]? = some (.slot k) ∧ ρ[k]? = some (some (.own b0 o)) ∧ σ[k]? = some (some (.ref p)) := fun {j p} h => by
    rw [List.getElem?_zipWith] at h
    cases ea : as[j]? with
    | none => rw [ea] at h; simp at h
    | some a =>
      cases ev : vs[j]? with
      | none => rw [ea, ev] at h; simp at h
      | some v =>
        rw [ea, ev] at h
        have h' : pinOf a v = some p := Option.some.inj h
        cases a with
        | imm d => cases h'
        | pair o1 o2 => cases h'
        | own b o =>
          cases v with
          | ref q =>
            cases h'
            obtain ⟨op, v, a1, a2, a3, a4⟩ := f j _ ea
            obtain ⟨rfl, k, b0, rfl, ek⟩ := arg_own a4
            rw [ev] at a2; cases a2
            exact ⟨k, b0, o, a1, ek, a3⟩
          | _ => cases h'
  have pinned : ∀ {j k : Nat} {b0 : Bool} {o : Own} {p : Addr}, os[j]? = some (.slot k) → ρ[k]? = some (some (.own b0 o)) → σ[k]? = some (some (.ref p)) → (List.zipWith pinOf as vs)[j]? = some (some p) := fun {j k b0 o p} h1 h2 h3 => by
    have hj : j < as.length := by rw [← l2]; exact (List.getElem?_eq_some_iff.mp h1).1
    obtain ⟨op, v, a1, a2, a3, a4⟩ := f j _ (List.getElem?_eq_getElem hj)
    rw [h1] at a1; cases a1
    have a3' : σ[k]? = some (some v) := a3
    rw [h3] at a3'; cases a3'
    simp only [argOf, h2] at a4
    rw [List.getElem?_zipWith, List.getElem?_eq_getElem hj, a2, ← Option.some.inj a4]
    rfl
  -- an own cell's place behind the call
  have ownB : ∀ {i : Nat} {b o}, (cellsBack os ρ' ρ)[i]? = some (some (.own b o)) → ∃ o0, ρ[i]? = some (some (.own b o0)) ∧
      ((∃ (j : Nat) (b' : Bool), os[j]? = some (Opd.slot i) ∧ ρ'[j]? = some (some (A.own b' o))) ∨ (o0 = o ∧ ∀ j : Nat, os[j]? ≠ some (Opd.slot i))) := fun {i b o} h => by
    rw [back_get] at h
    cases q : ρ[i]? with
    | none => rw [q] at h; cases h
    | some a =>
      rw [q] at h
      have h := Option.some.inj h
      cases a with
      | none => cases h
      | some a =>
        cases a with
        | imm d => cases h
        | pair o1 o2 => cases h
        | own b0 o0 =>
          dsimp only at h
          split at h
          · rename_i j ej
            split at h
            · rename_i b' o' e'
              cases h
              exact ⟨o0, rfl, .inl ⟨j, b', find_slot ej, e'⟩⟩
            · cases h
          · rename_i ej
            cases h
            refine ⟨o, rfl, .inr ⟨rfl, fun j hj => ?_⟩⟩
            have := List.findIdx?_eq_none_iff.mp ej _ (List.mem_of_getElem? hj)
            simp [isSlot] at this
  have immB : ∀ {i : Nat} {d}, (cellsBack os ρ' ρ)[i]? = some (some (.imm d)) → ρ[i]? = some (some (.imm d)) := fun {i d} h => by
    rw [back_get] at h
    cases q : ρ[i]? with
    | none => rw [q] at h; cases h
    | some a =>
      rw [q] at h
      have h := Option.some.inj h
      cases a with
      | none => cases h
      | some a =>
        cases a with
        | imm d' => exact congrArg some h
        | pair o1 o2 => cases h
        | own b0 o0 =>
          dsimp only at h
          split at h
          · split at h <;> cases h
          · cases h
  have keepsP : ∀ {p : Addr} {o : HO}, H p = some o → (∀ j, (List.zipWith pinOf as vs)[j]? ≠ some (some p)) → H' p = some o := fun {p o} h n => R'.fr p o h n
  have gNone : ∀ {p : Addr} {o : HO}, H p = some o → G p = none → G' p = none := fun {p o} h g => by
    cases q : G' p with
    | none => rfl
    | some u =>
      rcases R'.gnew p u q with z | z
      · rw [show G p = some u from z] at g; cases g
      · rw [show H p = none from z] at h; cases h
  have notPin : ∀ {p : Addr}, NotOwn ρ σ p → ∀ j, (List.zipWith pinOf as vs)[j]? ≠ some (some p) := fun {p} no j h => by
    obtain ⟨k, b0, o, _, ek, sk⟩ := pins h
    exact no k b0 o ek sk
  refine ⟨⟨R'.le, fun p o h n => ?_, R.g0.trans ex, fun p o h => ?_, ?_, fun i d h => ?_, fun i b o h => ?_, fun i j b o b' o' p h1 h2 h3 h4 => ?_, fun j p h => ?_, fun p o h => ?_⟩, fun p hp i b o h hs => ?_⟩
  · have hH := R.fr p o h n
    refine keepsP hH fun j hj => ?_
    obtain ⟨k, b0, o0, _, ek, sk⟩ := pins hj
    obtain ⟨p', ob, s, _, _, _, z⟩ := R.own k b0 o0 ek
    rw [sk] at s; cases s
    cases b0 with
    | true => exact n k z
    | false => rw [show c.H0 p = none from z] at h; cases h
  · rcases R'.gnew p o h with z | z
    · exact R.gnew p o z
    · exact .inr (R.h0 z)
  · unfold cellsBack
    rw [List.length_mapIdx]; exact R.len
  · obtain ⟨v, s, q⟩ := R.imm i d (immB h)
    exact ⟨v, s, q.ex ex⟩
  · obtain ⟨o0, e0, q⟩ := ownB h
    obtain ⟨p, ob, s, hp, r0, g, z⟩ := R.own i b o0 e0
    rcases q with ⟨j, b', hj, e'⟩ | ⟨rfl, nj⟩
    · have pj := pinned hj e0 s
      obtain ⟨p', ob', s', hp', r', g', z'⟩ := R'.own j b' o e'
      obtain ⟨s2, o2, e2⟩ := R'.pin j p pj
      rw [s2] at s'; cases s'
      exact ⟨p, ob', s, hp', r', g', z⟩
    · refine ⟨p, ob, s, keepsP hp fun j hj => ?_, r0.ex ex, gNone hp g, z⟩
      obtain ⟨k, b0, o1, hk, ek, sk⟩ := pins hj
      have : i = k := R.dis i k b o0 b0 o1 p e0 ek s sk
      subst this
      exact nj j hk
  · obtain ⟨o0, e0, _⟩ := ownB h1
    obtain ⟨o1, e1, _⟩ := ownB h2
    exact R.dis i j b o0 b' o1 p e0 e1 h3 h4
  · obtain ⟨s, o, e0⟩ := R.pin j p h
    refine ⟨s, ?_⟩
    rw [back_get, e0]
    cases q : os.findIdx? (isSlot j) with
    | none => exact ⟨o, rfl⟩
    | some k =>
      obtain ⟨s2, o2, e2⟩ := R'.pin k p (pinned (find_slot q) e0 s)
      exact ⟨o2, by simp only [Option.map_some, e2]⟩
  · obtain ⟨k1, k2, k3⟩ := R.kp p o h
    refine ⟨keepsP k1 (notPin k3), ?_, fun i b ow hi hs => ?_⟩
    · rcases k2 with k2 | ⟨ob, kvs, e1, e2⟩
      · exact .inl (gNone k1 k2)
      · exact .inr ⟨ob, kvs, e1, ex _ _ e2⟩
    obtain ⟨o0, e0, _⟩ := ownB hi
    exact k3 i b o0 e0 hs
  · obtain ⟨o0, e0, _⟩ := ownB h
    exact R.notOwn hp i b o0 e0 hs
end
section
variable {K : Kf} {W : Wish}
theorem er_call {ta : TA} {fa : Md (List Opd)} {m : List A → Rs A} {n k : Nat} (ha : EvA K W ta fa) : EvR K W (tCall (spOf K n k m) [] E0 ta) (mCallA n m fa) := by
  intro c G ρ σ H R Q q
  refine ha c G ρ σ H R _ (q.bind.mono fun os ρ1 G1 H1 e1 R1 h1 vs r => ?_)
  split at h1
  · rename_i as ea
    split at h1
    · rename_i hn
      obtain ⟨l1, l2, _⟩ := args_at r ea
      rw [List.append_nil]
      refine ⟨by omega, _, G1, as, rfl, rfl, R1.enter r ea hn.2, ?_⟩
      cases em : m as with
      | ok a ρ' =>
        rw [em] at h1
        intro v σ' G' H' ex R' rr
        obtain ⟨R2, no⟩ := R1.leave r ea hn.2 ex R'
        refine h1 G' H' ex R2 v ?_
        cases a with
        | imm d => exact rr
        | own b o =>
          obtain ⟨p, ob, rfl, hp, q1, g, z⟩ := rr
          have z' : H1 p = none := z
          exact ⟨p, ob, rfl, hp, q1, g, R1.h0 z', R1.k0 z', no p z'⟩
        | pair o1 o2 =>
          obtain ⟨t, p1, p2, ob1, ob2, rfl, ht, hp1, q1, g1, z1, hp2, q2, g2, z2, ne⟩ := rr
          have z1' : H1 p1 = none := z1
          have z2' : H1 p2 = none := z2
          exact ⟨t, p1, p2, rfl, ht, ⟨p1, ob1, rfl, hp1, q1, g1, R1.h0 z1', R1.k0 z1', no p1 z1'⟩, ⟨p2, ob2, rfl, hp2, q2, g2, R1.h0 z2', R1.k0 z2', no p2 z2'⟩, ne⟩
      | raise x ρ' => rw [em] at h1; exact h1
      | stuck => rw [em] at h1; exact h1
    · exact False.elim h1
  · exact False.elim h1
theorem er_call0 {m : List A → Rs A} {k : Nat} : EvR K W (tCall (spOf K 0 k m) [] E0 tNil) (mCallA 0 m mNil) := er_call ea_nil
end
end DV

set_option Elab.async false
set_option linter.all false
set_option maxRecDepth 100000
set_option maxHeartbeats 2000000
set_option autoImplicit false
/-! DvMut: cells that change; dicts; isinstance. -/
namespace DV
open PySem L2

/-! ### methods that change a list -/
/-- a method of the cell at p -/
def OwnMt (K : Kf) (r : V → List V → Hp → VK → Prop) (g : List D → List D → Option (D × List D)) : Prop := ∀ (G H : Hp) (p : Addr) (xs : List V) (ds es es' : List D) (vs : List V) (d : D), Le G H → H p = some (.lst xs) → DvAll K G es xs → DvAll K G ds vs → g es ds = some (d, es') → ∀ Q : VK,
  (∀ v xs', Dv K G d v → DvAll K G es' xs' → Q v (upd H p (.lst xs'))) → r (.ref p) vs H Q
def isLst (ρ : Env) (i : Nat) : Bool := match ρ[i]? with
  | some (some (.own _ (.lst _))) => true
  | _ => false
def mMeth (i : Nat) (g : List D → List D → Option (D × List D)) (fa : Md (List Opd)) : Md Opd := fun ρ => if isLst ρ i then
  (Md.bind fa fun os ρ => match ρ[i]?, ims ρ os with
    | some (some (.own b (.lst es))), some ds => match g es ds with
      | some (d, es') => .ok (.dat d) (ρ.set i (some (.own b (.lst es'))))
      | none => .stuck
    | _, _ => .stuck) ρ
  else .stuck
section
variable {K : Kf} {W : Wish}
theorem isLst_at {c : Cn} {G H : Hp} {ρ : Env} {σ : St} (R : Rel K c G ρ σ H) {i : Nat} (h : isLst ρ i = true) : ∃ b ds p xs, ρ[i]? = some (some (.own b (.lst ds))) ∧ σ[i]? = some (some (.ref p)) ∧ H p = some (.lst xs) := by
  unfold isLst at h
  split at h
  · rename_i b ds e
    obtain ⟨p, ob, s, hp, ⟨xs, rfl, _⟩, _⟩ := R.own i b _ e
    exact ⟨b, ds, p, xs, e, s, hp⟩
  · cases h
theorem meth_fin {c : Cn} {G1 H1 : Hp} {ρ1 : Env} {σ : St} {i : Nat} {p : Addr} {r : V → List V → Hp → VK → Prop} {g : List D → List D → Option (D × List D)} {os : List Opd} {vs : List V} {Q : VK} (hr : OwnMt K r g) (R1 : Rel K c G1 ρ1 σ H1) (s : σ[i]? = some (some (.ref p))) (rr : OReps K G1 σ os vs)
    (h1 : Out K W c G1 σ (match ρ1[i]?, ims ρ1 os with
      | some (some (.own b (.lst es))), some ds => match g es ds with
        | some (d, es') => .ok (Opd.dat d) (ρ1.set i (some (.own b (.lst es'))))
        | none => .stuck
      | _, _ => .stuck) (fun o _ G' H' => ∀ v, ORep K G' σ o v → Q v H')) : r (.ref p) vs H1 Q := by
  split at h1
  · rename_i b es ds eo ei
    split at h1
    · rename_i d es' eg
      obtain ⟨p', ob, s', hp, ⟨xs, rfl, dv⟩, g0, z⟩ := R1.own i b _ eo
      rw [s] at s'; cases s'
      refine hr G1 H1 p xs ds es es' vs d R1.le hp dv (dvs_of R1 rr ei) eg Q fun v xs' dd dl => ?_
      exact h1 G1 _ (Ex.refl _) (R1.mut eo s ⟨xs', rfl, dl⟩) v dd
    · exact False.elim h1
  · exact False.elim h1
theorem ev_methB {r : V → List V → Hp → VK → Prop} {g : List D → List D → Option (D × List D)} {ta : TA} {fa : Md (List Opd)} {i : Nat} (hr : OwnMt K r g) (ha : EvA K W ta fa) : EvO K W (tBM K "list" r (tVar i) ta) (mMeth i g fa) := by
  intro c G ρ σ H R Q q
  unfold mMeth at q
  split at q
  · rename_i hl
    obtain ⟨b, ds, p, xs, e, s, hp⟩ := isLst_at R hl
    refine ⟨_, s, .inl ⟨rfl, xs, SqL.of hp⟩, ?_⟩
    refine ha c G ρ σ H R _ (q.bind.mono fun os ρ1 G1 H1 e1 R1 h1 vs rr => ?_)
    exact meth_fin hr R1 s rr h1
  · exact False.elim q
theorem ev_methB0 {r : V → List V → Hp → VK → Prop} {g : List D → List D → Option (D × List D)} {i : Nat} (hr : OwnMt K r g) : EvO K W (tBM0 K "list" r (tVar i)) (mMeth i g mNil) := by
  intro c G ρ σ H R Q q
  unfold mMeth at q
  split at q
  · rename_i hl
    obtain ⟨b, ds, p, xs, e, s, hp⟩ := isLst_at R hl
    exact ⟨_, s, .inl ⟨rfl, xs, SqL.of hp⟩, meth_fin hr R s .nil q⟩
  · exact False.elim q
def gAppend (es ds : List D) : Option (D × List D) := match ds with
  | [d] => if es.length < lim then some (.none, es ++ [d]) else none
  | _ => none
theorem g_append : OwnMt K rAppend gAppend := by
  intro G H p xs ds es es' vs d l hp dv dvs e Q q
  unfold gAppend at e
  split at e
  · rename_i d'
    obtain ⟨v, r, rfl, h1, h2⟩ := dvs.cons_inv
    rw [h2.nil_inv]
    obtain ⟨hl, e'⟩ := ifSome e
    cases e'
    exact ⟨p, xs, v, rfl, rfl, hp, by rw [dv.length]; exact lim_lt hl, q _ _ dv_non (dv.append (.cons h1 .nil))⟩
  · cases e
def gPop (es ds : List D) : Option (D × List D) := match ds with
  | [] => (es[es.length - 1]?).map fun d => (d, es.dropLast)
  | _ => none
theorem g_pop : OwnMt K rPop gPop := by
  intro G H p xs ds es es' vs d l hp dv dvs e Q q
  unfold gPop at e
  split at e
  · obtain ⟨d', ed, e'⟩ := Option.map_eq_some_iff.mp e
    cases e'
    obtain ⟨v, hv, h1⟩ := dv.get ed
    rw [dvs.nil_inv]
    exact ⟨p, xs, v, rfl, rfl, hp, by rw [dv.length]; exact hv, q _ _ h1 dv.dropLast⟩
  · cases e
def gPopAt (es ds : List D) : Option (D × List D) := match ds with
  | [.int i] => if small62 i then match ixN es.length i with
    | some j => (es[j]?).map fun d => (d, es.eraseIdx j)
    | none => none
    else none
  | _ => none
theorem g_popAt : OwnMt K rPopAt gPopAt := by
  intro G H p xs ds es es' vs d l hp dv dvs e Q q
  unfold gPopAt at e
  split at e
  · rename_i i
    split at e
    case isFalse => cases e
    rename_i hi
    obtain ⟨b1, b2⟩ := small62_ok hi
    split at e
    · rename_i j ej
      obtain ⟨d', ed, e'⟩ := Option.map_eq_some_iff.mp e
      cases e'
      obtain ⟨v, hv, h1⟩ := dv.get ed
      obtain ⟨w, r, rfl, g1, g2⟩ := dvs.cons_inv
      rw [g2.nil_inv]
      unfold Dv at g1
      subst g1
      obtain ⟨k1, k2, k3, k4⟩ := ixN_seq ej
      refine ⟨p, xs, i, j, v, rfl, rfl, hp, ?_, ?_, by rw [dv.length]; exact k1, hv, q _ _ h1 (dv.eraseIdx j)⟩
      · omega
      · omega
    · cases e
  · cases e

def gInsert (es ds : List D) : Option (D × List D) := match ds with
  | [.int i, d] => if es.length < lim ∧ 0 ≤ i ∧ i < 2 ^ 62 then some (.none, es.take i.toNat ++ [d] ++ es.drop i.toNat) else none
  | _ => none
theorem g_insert : OwnMt K (fun x vs H Q => ∃ (l : Addr) (xs : List V) (i : Int) (y : V), x = .ref l ∧ vs = [.int i, y] ∧ H l = some (.lst xs) ∧ xs.length < sizeLine ∧ 0 ≤ i ∧ i < 2 ^ 63 ∧
    Q .non (upd H l (.lst (xs.take i.toNat ++ [y] ++ xs.drop i.toNat)))) gInsert := by
  intro G H p xs ds es es' vs d l hp dv dvs e Q q
  unfold gInsert at e
  split at e
  · rename_i i d'
    obtain ⟨w, r, rfl, g1, g2⟩ := dvs.cons_inv
    obtain ⟨v, r, rfl, h1, h2⟩ := g2.cons_inv
    rw [h2.nil_inv]
    unfold Dv at g1
    subst g1
    obtain ⟨hl, e'⟩ := ifSome e
    cases e'
    exact ⟨p, xs, i, v, rfl, rfl, hp, by rw [dv.length]; exact lim_lt hl.1, hl.2.1, by omega, q _ _ dv_non (((dv.take _).append (.cons h1 .nil)).append (dv.drop _))⟩
  · cases e
def gReverse (es ds : List D) : Option (D × List D) := match ds with
  | [] => some (.none, es.reverse)
  | _ => none
theorem g_reverse : OwnMt K rReverse gReverse := by
  intro G H p xs ds es es' vs d l hp dv dvs e Q q
  unfold gReverse at e
  split at e
  · cases e
    rw [dvs.nil_inv]
    exact ⟨p, xs, rfl, rfl, hp, q _ _ dv_non dv.reverse⟩
  · cases e

/-! ### methods that only look -/
def MtD (K : Kf) (r : V → List V → Hp → VK → Prop) (g : D → List D → Option D) : Prop := ∀ (G H : Hp) (d1 d : D) (ds : List D) (x : V) (vs : List V), Le G H → Vw K G H d1 x → Vws K G H ds vs → g d1 ds = some d → ∀ Q : VK,
  (∀ v G' H', Al G H G' H' → Dv K G' d v → Q v H') → r x vs H Q
def isList : D → Bool
  | .list _ => true
  | _ => false
def mLook (g : D → List D → Option D) (f : Md Opd) (fa : Md (List Opd)) : Md Opd := Md.bind f fun o ρ => match rs ρ o with
  | some (.list _) => (Md.bind fa fun os ρ => Md.opt (do let d ← rs ρ o; let ds ← rss ρ os; let r ← g d ds; pure (.dat r)) ρ) ρ
  | _ => .stuck
theorem ev_look {r : V → List V → Hp → VK → Prop} {g : D → List D → Option D} {to : TE} {ta : TA} {f : Md Opd} {fa : Md (List Opd)} (hr : MtD K r g) (ho : EvO K W to f) (ha : EvA K W ta fa) : EvO K W (tBM K "list" r to ta) (mLook g f fa) := by
  intro c G ρ σ H R Q q
  refine ho c G ρ σ H R _ (q.bind.mono fun o ρ1 G1 H1 e1 R1 h1 x rx => ?_)
  split at h1
  · rename_i es eo
    obtain ⟨a, vs, rfl, s, dv⟩ := vw_of R1 rx eo
    refine ⟨.inl ⟨rfl, vs, s⟩, ?_⟩
    refine ha c G1 ρ1 σ H1 R1 _ (h1.bind.mono fun os ρ2 G2 H2 e2 R2 h2 ws rr => ?_)
    obtain ⟨o', eo', h3⟩ := h2.opt
    simp only [Option.bind_eq_bind, Option.bind_eq_some_iff, Option.pure_def, Option.some.injEq] at eo'
    obtain ⟨d1, q1, ds, q2, d, q3, rfl⟩ := eo'
    refine hr G2 H2 d1 d ds _ ws R2.le (vw_of R2 (rx.ex e2) q1) (vws_of R2 rr q2) q3 Q fun v G' H' al dv => ?_
    obtain ⟨R3, e3, _⟩ := Rel.al al R2
    exact h3 G' H' e3 R3 v dv
  · exact False.elim h1
def gIndex (d : D) (ds : List D) : Option D := match d, ds with
  | .list es, [e] => if SeqAt.shaped (.list es) && SeqAt.shaped e then (es.findIdx? fun z => PyData.eqv z e).map fun j => .int (j : Nat) else none
  | _, _ => none
theorem g_index : MtD K (rIndexD K) gIndex := by
  intro G H d1 d ds x vs l h1 h2 e Q q
  unfold gIndex at e
  split at e
  · rename_i es e0
    split at e
    case isFalse => cases e
    rename_i hs
    rw [Bool.and_eq_true] at hs
    obtain ⟨j, ej, rfl⟩ := Option.map_eq_some_iff.mp e
    obtain ⟨w, rfl, hw⟩ := vws1 h2
    obtain ⟨hj, k1, k2⟩ := List.findIdx?_eq_some_iff_getElem.mp ej
    have dp := dp_vw l (SeqAt.canLay_of_shaped hs.1) h1
    obtain ⟨a, xs, rfl, _⟩ := h1
    refine ⟨a, w, e0, es, j, es[j], rfl, rfl, dp, dp_vw l (SeqAt.canLay_of_shaped hs.2) hw, hs.1, hs.2, List.getElem?_eq_getElem hj, k1, fun m z' hm hz => ?_, q _ _ _ .refl dv_int⟩
    obtain ⟨hml, rfl⟩ := List.getElem?_eq_some_iff.mp hz
    have := k2 m hm
    simpa using this
  · cases e
end

/-! ### stores by place -/
section
variable {X : Cx}
theorem PSet.or {t u : TSet} (h : PSet X t) (h' : PSet X u) : PSet X (fun o i v H Q => t o i v H Q ∨ u o i v H Q) := by
  intro pins s σ H o i v ov iv uu Q I r1 r2 r3 q
  rcases q with q | q
  · exact h pins s σ H o i v ov iv uu Q I r1 r2 r3 q
  · exact h' pins s σ H o i v ov iv uu Q I r1 r2 r3 q
theorem PGet.or {t u : V → V → Hp → VK → Prop} (h : PGet X t) (h' : PGet X u) : PGet X (fun o i H Q => t o i H Q ∨ u o i H Q) := by
  intro pins s σ H o i ov iv Q I r1 r2 q
  rcases q with q | q
  · exact h pins s σ H o i ov iv Q I r1 r2 q
  · exact h' pins s σ H o i ov iv Q I r1 r2 q
def rSetD : TSet := fun o i v H Q => ∃ a H', o = .ref a ∧ DPut H a i v H' ∧ Q H'
theorem set_dict (hu : X.A.units + 1 < cLine) : PSet X rSetD := by
  intro pins s σ H o i v ov iv u Q I r1 r2 r3 h
  obtain ⟨a, H', rfl, g, q⟩ := h
  cases r1
  exact d_setItem hu I g r2 r3 fun s' I' => ⟨H', I', q⟩
def rSetAll : TSet := fun o i v H Q => rSetL o i v H Q ∨ rSetD o i v H Q
theorem set_all (hu : X.A.units + 1 < cLine) : PSet X rSetAll := PSet.or set_list (set_dict hu)
theorem get_list : PGet X (rIxL X.K) := by
  intro pins s σ H x y v u Q I rx ry h
  obtain ⟨p, xs, i, z, rfl, rfl, hq, he, q⟩ := h
  cases rx
  obtain ⟨t, rfl⟩ := ry
  obtain ⟨its, r, pl, hz⟩ := I.list hq
  obtain ⟨j, h1, h2, h3, h4, h5⟩ := atI_get he
  obtain ⟨w, ew, rw'⟩ := r.get h2
  have hl := r.length
  have hn := line63
  have fin : EP X pins σ Q w s := ⟨z, H, I, rw', q⟩
  by_cases h0 : 0 ≤ i
  · have hj : i.toNat = j := by
      rw [seqIndex_of h0 h5] at h1
      exact Option.some.inj h1
    exact wpAny_getItem_list pl.isList h0 (by omega) (by rw [hj]; simpa using ew) fin
  · have hj : (i + (its.toArray.size : Int)).toNat = j := by
      rw [seqIndex_neg (by omega) h4] at h1
      rw [List.size_toArray, ← hl]
      exact Option.some.inj h1
    exact wpAny_getItem_list_neg pl.isList (by omega) (by rw [List.size_toArray] <;> omega) (by omega) (by rw [hj]; simpa using ew) fin
theorem get_dict (hu : X.A.units + 1 < cLine) : PGet X rIxD := by
  intro pins s σ H x y v u Q I rx ry h
  obtain ⟨a, z, rfl, g, q⟩ := h
  cases rx
  exact d_getItem hu I g ry fun w' s' I' r' => ⟨z, H, I', r', q⟩
def rGetAll (K : Kf) : V → V → Hp → VK → Prop := fun o i H Q => rIxL K o i H Q ∨ rIxD o i H Q
theorem get_all (hu : X.A.units + 1 < cLine) : PGet X (rGetAll X.K) := PGet.or get_list (get_dict hu)
end
/-- a list of pairs as a table -/
def lookG {κ : Type} [DecidableEq κ] (kvs : List (κ × D)) (k : κ) : Option D := (kvs.find? fun kv => decide (kv.1 = k)).map (·.2)
def putG {κ : Type} [DecidableEq κ] (kvs : List (κ × D)) (k : κ) (v : D) : List (κ × D) :=
  if (kvs.any fun kv => decide (kv.1 = k)) = true then kvs.map (fun kv => if kv.1 = k then (kv.1, v) else kv) else kvs ++ [(k, v)]
theorem kv_any {κ : Type} [DecidableEq κ] {K : Kf} {G : Hp} {k : κ} : ∀ {kvs : List (κ × D)} {ks : List (κ × V)}, KvRep K G kvs ks → (kvs.any fun kv => decide (kv.1 = k)) = ks.any fun kv => decide (kv.1 = k)
  | _, _, .nil => rfl
  | _, _, .cons h t => by rw [List.any_cons, List.any_cons, kv_any t, h.1]
theorem kv_append {κ : Type} {K : Kf} {G : Hp} : ∀ {kvs kvs' : List (κ × D)} {ks ks' : List (κ × V)}, KvRep K G kvs ks → KvRep K G kvs' ks' → KvRep K G (kvs ++ kvs') (ks ++ ks')
  | _, _, _, _, .nil, q => q
  | _, _, _, _, .cons h t, q => .cons h (kv_append t q)
theorem kv_repl {κ : Type} [DecidableEq κ] {K : Kf} {G : Hp} {k : κ} {d : D} {v : V} (hd : Dv K G d v) : ∀ {kvs : List (κ × D)} {ks : List (κ × V)}, KvRep K G kvs ks → KvRep K G (kvs.map fun kv => if kv.1 = k then (kv.1, d) else kv) (ks.map fun kv => if kv.1 = k then (kv.1, v) else kv)
  | _, _, .nil => .nil
  | (a, x) :: r, (b, y) :: r', .cons h t => by
    obtain ⟨h1, h2⟩ := h
    have h1' : a = b := h1
    subst h1'
    refine .cons ?_ (kv_repl hd t)
    by_cases e : a = k
    · show (if a = k then (a, d) else (a, x)).1 = (if a = k then (a, v) else (a, y)).1 ∧ Dv K G (if a = k then (a, d) else (a, x)).2 (if a = k then (a, v) else (a, y)).2
      rw [if_pos e, if_pos e]; exact ⟨rfl, hd⟩
    · show (if a = k then (a, d) else (a, x)).1 = (if a = k then (a, v) else (a, y)).1 ∧ Dv K G (if a = k then (a, d) else (a, x)).2 (if a = k then (a, v) else (a, y)).2
      rw [if_neg e, if_neg e]; exact ⟨rfl, h2⟩
theorem kv_put {κ : Type} [DecidableEq κ] {K : Kf} {G : Hp} {k : κ} {d : D} {v : V} (hd : Dv K G d v) {kvs : List (κ × D)} {ks : List (κ × V)} (h : KvRep K G kvs ks) : KvRep K G (putG kvs k d) (putK ks k v) := by
  unfold putG putK
  rw [kv_any h]
  split
  · exact kv_repl hd h
  · exact kv_append h (.cons ⟨rfl, hd⟩ .nil)
theorem kv_look {κ : Type} [DecidableEq κ] {K : Kf} {G : Hp} {k : κ} : ∀ {kvs : List (κ × D)} {ks : List (κ × V)}, KvRep K G kvs ks → (lookG kvs k = none ∧ valV ks k = none) ∨ ∃ d v, lookG kvs k = some d ∧ valV ks k = some v ∧ Dv K G d v
  | _, _, .nil => .inl ⟨rfl, rfl⟩
  | (a, x) :: r, (b, y) :: r', .cons h t => by
    obtain ⟨h1, h2⟩ := h
    have h1' : a = b := h1
    subst h1'
    by_cases e : a = k
    · subst e
      refine .inr ⟨x, y, ?_, valV_pos rfl, h2⟩
      unfold lookG
      rw [List.find?_cons_of_pos (by simp)] <;> rfl
    · have : lookG ((a, x) :: r) k = lookG r k := by
        unfold lookG
        rw [List.find?_cons_of_neg (by simp [e])]
      rw [this, valV_neg (p := (a, y)) e]
      exact kv_look t
theorem kv_length {κ : Type} {K : Kf} {G : Hp} {kvs : List (κ × D)} {ks : List (κ × V)} (h : KvRep K G kvs ks) : ks.length = kvs.length := (Paired.length h).symm
def keysOf : List D → Option (List Key)
  | [] => some []
  | d :: r => do let k ← keyOf d; let ks ← keysOf r; pure (k :: ks)
theorem keysOf_v {K : Kf} {G : Hp} : ∀ {ds : List D} {vs : List V} {ks : List Key}, DvAll K G ds vs → keysOf ds = some ks → vs = ks.map kV
  | [], _, _, h, e => by rw [h.nil_inv]; cases e; rfl
  | d :: r, _, _, h, e => by
    obtain ⟨v, vs, rfl, h1, h2⟩ := h.cons_inv
    unfold keysOf at e
    simp only [Option.bind_eq_bind, Option.bind_eq_some_iff, Option.pure_def, Option.some.injEq] at e
    obtain ⟨k, e1, ks, e2, rfl⟩ := e
    rw [List.map_cons, keysOf_v h2 e2]
    have : v = kV k := by
      cases d with
      | int i => cases e1; unfold Dv at h1; exact h1
      | str s => cases e1; unfold Dv at h1; exact h1
      | _ => cases e1
    rw [this]
/-- the cell's content behind a store at k -/
def putO (o : Own) (k d : D) : Option Own := match o with
  | .lst es => match k with
    | .int i => (ixN es.length i).map fun j => .lst (es.set j d)
    | _ => none
  | .dK kvs => if kvs.length < lim then (keyOf k).map fun q => .dK (putG kvs q d) else none
  | .dT kvs => match k with
    | .tuple ds => if kvs.length < lim then (keysOf ds).map fun q => .dT (putG kvs q d) else none
    | _ => none
  | _ => none
/-- its item at k -/
def getO (o : Own) (k : D) : Option D := match o with
  | .lst es => match k with
    | .int i => atI es i
    | _ => none
  | .dK kvs => match keyOf k with
    | some q => lookG kvs q
    | none => none
  | .dT kvs => match k with
    | .tuple ds => match keysOf ds with
      | some q => lookG kvs q
      | none => none
    | _ => none
  | _ => none
section
variable {K : Kf} {W : Wish}
theorem put_run {G H : Hp} {o o' : Own} {ob : HO} {p : Addr} {k d : D} {y v : V} (l : Le G H) (hp : H p = some ob) (hr : ObRep K G o ob) (hk : Dv K G k y) (hd : Dv K G d v) (e : putO o k d = some o') {Q : Hp → Prop} (q : ∀ ob', ObRep K G o' ob' → Q (upd H p ob')) : rSetAll (.ref p) y v H Q := by
  cases o with
  | lst es =>
    obtain ⟨xs, rfl, dv⟩ := hr
    unfold putO at e
    dsimp only at e
    split at e
    · rename_i i
      obtain ⟨j, ej, rfl⟩ := Option.map_eq_some_iff.mp e
      unfold Dv at hk
      exact .inl ⟨p, xs, i, j, rfl, hk, hp, by rw [dv.length]; exact ej, q _ ⟨_, rfl, dv.set hd j⟩⟩
    · cases e
  | dK kvs =>
    obtain ⟨ks, rfl, dv⟩ := hr
    unfold putO at e
    dsimp only at e
    split at e
    case isFalse => cases e
    rename_i hl
    obtain ⟨k', ek, rfl⟩ := Option.map_eq_some_iff.mp e
    have ey := keyOf_vw (hk.vw l) ek
    exact .inr ⟨p, _, rfl, .inl ⟨ks, k', hp, ey, by rw [kv_length dv]; exact lim_lt hl, rfl⟩, q _ ⟨_, rfl, kv_put hd dv⟩⟩
  | dT kvs =>
    obtain ⟨ks, rfl, dv⟩ := hr
    unfold putO at e
    dsimp only at e
    split at e
    · rename_i ds
      split at e
      case isFalse => cases e
      rename_i hl
      obtain ⟨k', ek, rfl⟩ := Option.map_eq_some_iff.mp e
      unfold Dv at hk
      obtain ⟨b, vs, rfl, s, r⟩ := hk
      have ev := keysOf_v r ek
      subst ev
      exact .inr ⟨p, _, rfl, .inr ⟨ks, k', b, hp, rfl, tup_le l s, by rw [kv_length dv]; exact lim_lt hl, rfl⟩, q _ ⟨_, rfl, kv_put hd dv⟩⟩
    · cases e
  | ins C fs => cases e
theorem get_run {G H : Hp} {o : Own} {ob : HO} {p : Addr} {k d : D} {y : V} (l : Le G H) (hp : H p = some ob) (hr : ObRep K G o ob) (hk : Dv K G k y) (e : getO o k = some d) {Q : VK} (q : ∀ v, Dv K G d v → Q v H) : rGetAll K (.ref p) y H Q := by
  cases o with
  | lst es =>
    obtain ⟨xs, rfl, dv⟩ := hr
    unfold getO at e
    dsimp only at e
    split at e
    · rename_i i
      obtain ⟨v, ev, dd⟩ := atI_dv dv e
      unfold Dv at hk
      exact .inl ⟨p, xs, i, v, rfl, hk, SqL.of hp, ev, q v dd⟩
    · cases e
  | dK kvs =>
    obtain ⟨ks, rfl, dv⟩ := hr
    unfold getO at e
    dsimp only at e
    split at e
    · rename_i k' ek
      have ey := keyOf_vw (hk.vw l) ek
      rcases kv_look (k := k') dv with ⟨e1, e2⟩ | ⟨d', v, e1, e2, dd⟩
      · rw [e1] at e; cases e
      · rw [e1] at e; cases e
        exact .inr ⟨p, v, rfl, .inl ⟨ks, k', .inl hp, ey, e2.symm⟩, q v dd⟩
    · cases e
  | dT kvs =>
    obtain ⟨ks, rfl, dv⟩ := hr
    unfold getO at e
    dsimp only at e
    split at e
    · rename_i ds
      split at e
      · rename_i k' ek
        unfold Dv at hk
        obtain ⟨b, vs, rfl, s, r⟩ := hk
        have ev := keysOf_v r ek
        subst ev
        rcases kv_look (k := k') dv with ⟨e1, e2⟩ | ⟨d', v, e1, e2, dd⟩
        · rw [e1] at e; cases e
        · rw [e1] at e; cases e
          exact .inr ⟨p, v, rfl, .inr ⟨ks, k', b, .inl hp, rfl, tup_le l s, e2.symm⟩, q v dd⟩
      · cases e
    · cases e
  | ins C fs => cases e
/-- x[k] = e, x a slot's cell -/
def sPut (i : Nat) (fk fe : Md Opd) : Md Fw := Md.bind fe fun oe ρ1 => match ρ1[i]? with
  | some (some (.own _ _)) => (Md.bind fk fun ok ρ => match ρ[i]? with
    | some (some (.own b o)) => match (do let d ← im ρ oe; let k ← im ρ ok; putO o k d : Option Own) with
      | some o' => .ok .nx (ρ.set i (some (.own b o')))
      | none => .stuck
    | _ => .stuck) ρ1
  | _ => .stuck
theorem st_put {te ti : TE} {fe fk : Md Opd} {i : Nat} (he : EvO K W te fe) (hk : EvO K W ti fk) : StD K W (tAsg te (L2.gSub (tVar i) ti rSetAll)) (sPut i fk fe) := by
  intro c G ρ σ H R D q
  refine he c G ρ σ H R _ (Out.mono (OutS.bindE (σ := σ) q) fun oe ρ1 G1 H1 e1 R1 h1 v rv => ?_)
  split at h1
  · rename_i b0 o0 e0
    obtain ⟨p, ob, s, hp, hr, g, z⟩ := R1.own i b0 o0 e0
    refine ⟨_, s, ?_⟩
    refine hk c G1 ρ1 σ H1 R1 _ (Out.mono (OutS.bindE (σ := σ) h1) fun ok ρ2 G2 H2 e2 R2 h2 y ry => ?_)
    split at h2
    · rename_i b o eo
      split at h2
      · rename_i o' ep
        simp only [Option.bind_eq_bind, Option.bind_eq_some_iff] at ep
        obtain ⟨d, ed, k, ek, ep⟩ := ep
        obtain ⟨p', ob', s', hp', hr', g', z'⟩ := R2.own i b o eo
        rw [s] at s'; cases s'
        exact put_run R2.le hp' hr' (dv_of R2 ry ek) (dv_of R2 (rv.ex e2) ed) ep fun ob2 r2 => OutS.ret (P := fun fl _ σ' G' H' => Leave K c D fl σ' G' H') (R2.mut eo s r2) h2
      · exact False.elim h2
    · exact False.elim h2
  · exact False.elim h1
/-- x[k] op= e -/
def sAug (i : Nat) (g : D → D → Option D) (fk fe : Md Opd) : Md Fw := fun ρ0 => match ρ0[i]? with
  | some (some (.own _ _)) => (Md.bind fk fun ok ρ1 => match ρ1[i]? with
    | some (some (.own _ o)) => match (do let k ← im ρ1 ok; let x ← getO o k; pure (k, x) : Option (D × D)) with
      | some (k, x) => (Md.bind fe fun oe ρ => match ρ[i]? with
        | some (some (.own b o)) => match (do let y ← rs ρ oe; let z ← g x y; putO o k z : Option Own) with
          | some o' => .ok .nx (ρ.set i (some (.own b o')))
          | none => .stuck
        | _ => .stuck) ρ1
      | none => .stuck
    | _ => .stuck) ρ0
  | _ => .stuck
theorem st_aug {ti te : TE} {fe fk : Md Opd} {i : Nat} {r : R2} {g : D → D → Option D} (hg : Op2 K r g) (hk : EvO K W ti fk) (he : EvO K W te fe) : StD K W (tAugS (tVar i) ti te (rGetAll K) r rSetAll) (sAug i g fk fe) := by
  intro c G ρ σ H R D q
  unfold sAug at q
  split at q
  · rename_i b0 o0 e0
    obtain ⟨p, ob, s, hp, hr, g0, z⟩ := R.own i b0 o0 e0
    refine ⟨_, s, ?_⟩
    refine hk c G ρ σ H R _ (Out.mono (OutS.bindE (σ := σ) q) fun ok ρ1 G1 H1 e1 R1 h1 y ry => ?_)
    split at h1
    · rename_i b1 o1 eo
      obtain ⟨p1, ob1, s1, hp1, hr1, g1, z1⟩ := R1.own i b1 o1 eo
      rw [s] at s1; cases s1
      split at h1
      · rename_i k x ep
        simp only [Option.bind_eq_bind, Option.bind_eq_some_iff, Option.pure_def, Option.some.injEq, Prod.mk.injEq] at ep
        obtain ⟨k', ek, x', ex, rfl, rfl⟩ := ep
        have dk := dv_of R1 ry ek
        refine get_run R1.le hp1 hr1 dk ex fun v dx => ?_
        refine he c G1 ρ1 σ H1 R1 _ (Out.mono (OutS.bindE (σ := σ) h1) fun oe ρ2 G2 H2 e2 R2 h2 w rw' => ?_)
        split at h2
        · rename_i b o eo2
          split at h2
          · rename_i o' ep
            simp only [Option.bind_eq_bind, Option.bind_eq_some_iff] at ep
            obtain ⟨y', ey, z', ez, ep⟩ := ep
            refine hg G2 H2 x' y' z' v w R2.le ((dx.ex e2).vw R2.le) (vw_of R2 rw' ey) ez _ fun u G3 H3 al du => ?_
            obtain ⟨R3, e3, _⟩ := Rel.al al R2
            obtain ⟨p', ob', s', hp', hr', g', z''⟩ := R3.own i b o eo2
            rw [s] at s'; cases s'
            exact put_run R3.le hp' hr' ((dk.ex e2).ex e3) du ep fun ob2 r2 => OutS.ret (P := fun fl _ σ' G' H' => Leave K c D fl σ' G' H') (R3.mut eo2 s r2) (OutS.weak e3 h2)
          · exact False.elim h2
        · exact False.elim h2
      · exact False.elim h1
    · exact False.elim h1
  · exact False.elim q
/-- x op= e, x data -/
def sAugN (i : Nat) (g : D → D → Option D) (fe : Md Opd) : Md Fw := fun ρ0 => match ρ0[i]? with
  | some (some (.imm x)) => (Md.bind fe fun oe ρ => match (do let y ← rs ρ oe; g x y : Option D) with
    | some z => if canSet ρ i then .ok .nx (ρ.set i (some (.imm z))) else .stuck
    | none => .stuck) ρ0
  | _ => .stuck
theorem st_augN {te : TE} {fe : Md Opd} {i : Nat} {r : R2} {g : D → D → Option D} (hg : Op2 K r g) (he : EvO K W te fe) : StD K W (tAug i te r) (sAugN i g fe) := by
  intro c G ρ σ H R D q
  unfold sAugN at q
  split at q
  · rename_i x e0
    obtain ⟨v, s, dx⟩ := R.imm i x e0
    refine ⟨v, s, ?_⟩
    refine he c G ρ σ H R _ (Out.mono (OutS.bindE (σ := σ) q) fun oe ρ2 G2 H2 e2 R2 h2 w rw' => ?_)
    split at h2
    · rename_i z ez
      simp only [Option.bind_eq_bind, Option.bind_eq_some_iff] at ez
      obtain ⟨y', ey, ez⟩ := ez
      split at h2
      · rename_i hc
        refine hg G2 H2 x y' z v w R2.le ((dx.ex e2).vw R2.le) (vw_of R2 rw' ey) ez _ fun u G3 H3 al du => ?_
        obtain ⟨R3, e3, _⟩ := Rel.al al R2
        exact OutS.ret (P := fun fl _ σ' G' H' => Leave K c D fl σ' G' H') (R3.setImm (R3.canSet hc) du) (OutS.weak e3 h2)
      · exact False.elim h2
    · exact False.elim h2
  · exact False.elim q
/-- x += e, x a slot's list -/
def sAugL (i : Nat) (fe : Md Opd) : Md Fw := fun ρ0 => match ρ0[i]? with
  | some (some (.own _ (.lst _))) => (Md.bind fe fun oe ρ => match ρ[i]?, im ρ oe with
    | some (some (.own b (.lst es))), some (.list fs) => if es.length + fs.length ≤ lim then .ok .nx (ρ.set i (some (.own b (.lst (es ++ fs))))) else .stuck
    | _, _ => .stuck) ρ0
  | _ => .stuck
def rExtR (K : Kf) : R2 := fun x y H Q => ∃ l b xs zs, x = .ref l ∧ y = .ref b ∧ H l = some (.lst xs) ∧ Rd H b (.lst zs) ∧ xs.length + zs.length ≤ sizeLine ∧ Q (.ref l) (upd H l (.lst (xs ++ zs)))
end
end DV

set_option Elab.async false
set_option linter.all false
set_option maxRecDepth 100000
set_option maxHeartbeats 2000000
set_option autoImplicit false
/-! DvDict: dicts walked and made; isinstance; += of lists; tuples times a number. -/
namespace DV
open PySem L2
section
variable {K : Kf} {W : Wish}
/-! {} -/
def mDict : Md Own := Md.ret (.dK [])
def mDictT : Md Own := Md.ret (.dT [])
theorem en_dict : EvN K W tDNewK mDict := fun c G ρ σ H R Q h p hp => h G _ (Ex.refl _) (R.side hp) _ (R.nrep hp ⟨[], rfl, .nil⟩)
theorem en_dictT : EvN K W tDNewT mDictT := fun c G ρ σ H R Q h p hp => h G _ (Ex.refl _) (R.side hp) _ (R.nrep hp ⟨[], rfl, .nil⟩)
/-! d.get(k, x) -/
def gGet (d k x : D) : Option D := match d with
  | .dict kvs => match keyOf k with
    | some q => some ((lookD kvs q).getD x)
    | none => none
  | _ => none
def mGet (fd fk fx : Md Opd) : Md Opd := Md.bind fd fun od ρ0 => match rs ρ0 od with
  | some (.dict _) => (Md.bind fk fun ok => Md.bind fx fun ox ρ => Md.opt (do let d ← rs ρ od; let k ← rs ρ ok; let x ← im ρ ox; let r ← gGet d k x; pure (.dat r)) ρ) ρ0
  | _ => .stuck
theorem ev_get {td tk tx : TE} {fd fk fx : Md Opd} (hd : EvO K W td fd) (hk : EvO K W tk fk) (hx : EvO K W tx fx) : EvO K W (tDGet2 td tk tx) (mGet fd fk fx) := by
  intro c G ρ σ H R Q q
  refine hd c G ρ σ H R _ (q.bind.mono fun od ρ1 G1 H1 e1 R1 h1 x rx => ?_)
  split at h1
  · rename_i kvs0 e0
    obtain ⟨a, ks0, rfl, r0, _⟩ := vw_of R1 rx e0
    refine ⟨a, rfl, .inl ⟨ks0, r0⟩, ?_⟩
    refine hk c G1 ρ1 σ H1 R1 _ (h1.bind.mono fun ok ρ2 G2 H2 e2 R2 h2 y ry => ?_)
    refine hx c G2 ρ2 σ H2 R2 _ (h2.bind.mono fun ox ρ3 G3 H3 e3 R3 h3 z rz => ?_)
    obtain ⟨o, eo, h4⟩ := h3.opt
    simp only [Option.bind_eq_bind, Option.bind_eq_some_iff, Option.pure_def, Option.some.injEq] at eo
    obtain ⟨d, ed, k, ek, x, ex, r, er, rfl⟩ := eo
    unfold gGet at er
    split at er
    · rename_i kvs
      split at er
      · rename_i q' eq
        cases er
        obtain ⟨a', ks, ea, r, hk⟩ := vw_of R3 (rx.ex (e2.trans e3)) ed
        cases ea
        have ey := keyOf_vw (vw_of R3 (ry.ex e3) ek) eq
        subst ey
        have dz := dv_of R3 rz ex
        refine ⟨valV ks q', .inl ⟨ks, q', r, rfl, rfl⟩, h4.ret R3 _ ?_⟩
        rcases look_ks q' hk with ⟨e1, e2⟩ | ⟨d', v, e1, e2, dv⟩
        · rw [e1, e2]; exact dz
        · rw [e1, e2]; exact dv
      · cases er
    · cases er
  · exact False.elim h1

/-! ### a dict is walked: it is locked meanwhile -/
theorem Rel.locked {c : Cn} {G H : Hp} {ρ : Env} {σ : St} (R : Rel K c G ρ σ H) {p : Addr} {od : Obj} {ks : List (Key × V)} (hg : G p = some (.dK ks)) (hp : H p = some (.dK ks)) (h0 : c.H0 p = none) (hk : c.keep p = none) (no : NotOwn ρ σ p) :
    Rel K (c.with p (.frz od (.dK ks))) G ρ σ (upd H p (.frz od (.dK ks))) := by
  refine ⟨fun a o e => ?_, fun a o e f => ?_, R.g0, R.gnew, R.len, R.imm, fun i b o e => ?_, R.dis, R.pin, fun a o e => ?_⟩
  · by_cases ha : a = p
    · subst ha
      rw [hg] at e; cases e
      exact .inr ⟨od, ks, rfl, upd_same⟩
    · rw [upd_ne ha]; exact R.le a o e
  · have e' : c.H0 a = some o := e
    rw [upd_ne (ne_of_none e' h0)]; exact R.fr a o e f
  · obtain ⟨a, ob', s, ha, q, g, z⟩ := R.own i b o e
    have ne : a ≠ p := fun z => no i b o e (by rw [← z]; exact s)
    exact ⟨a, ob', s, by rw [upd_ne ne]; exact ha, q, g, z⟩
  · have e' : upd c.keep p (.frz od (.dK ks)) a = some o := e
    by_cases ha : a = p
    · subst ha
      rw [upd_same] at e'; cases e'
      exact ⟨upd_same, .inr ⟨od, ks, rfl, hg⟩, no⟩
    · rw [upd_ne ha] at e'
      obtain ⟨k1, k2, k3⟩ := R.kp a o e'
      exact ⟨by rw [upd_ne ha]; exact k1, k2, k3⟩
theorem Rel.unlocked {c : Cn} {G H : Hp} {ρ : Env} {σ : St} {p : Addr} {od : Obj} {ks : List (Key × V)} (R : Rel K (c.with p (.frz od (.dK ks))) G ρ σ H) (h0 : c.H0 p = none) (hk : c.keep p = none) :
    H p = some (.frz od (.dK ks)) ∧ Rel K c G ρ σ (upd H p (.dK ks)) := by
  obtain ⟨R', hp, kg, no⟩ := R.unwith hk
  refine ⟨hp, ⟨fun a o e => ?_, fun a o e f => ?_, R'.g0, R'.gnew, R'.len, R'.imm, fun i b o e => ?_, R'.dis, R'.pin, fun a o e => ?_⟩⟩
  · by_cases ha : a = p
    · subst ha
      rw [upd_same]
      rcases kg with kg | ⟨ob, kvs, e1, e2⟩
      · rw [kg] at e; cases e
      · cases e1
        rw [e2] at e; cases e
        exact .inl rfl
    · rw [upd_ne ha]; exact R'.le a o e
  · rw [upd_ne (ne_of_none e h0)]; exact R'.fr a o e f
  · obtain ⟨a, ob', s, ha, q, g, z⟩ := R'.own i b o e
    have ne : a ≠ p := fun z => no i b o e (by rw [← z]; exact s)
    exact ⟨a, ob', s, by rw [upd_ne ne]; exact ha, q, g, z⟩
  · obtain ⟨k1, k2, k3⟩ := R'.kp a o e
    exact ⟨by rw [upd_ne (ne_of_none e hk)]; exact k1, k2, k3⟩
def keysD (kvs : List (Key × D)) : List D := kvs.map fun p => keyD p.1
theorem kv_get' {kvs : List (Key × D)} {ks : List (Key × V)} {G : Hp} (h : KvRep K G kvs ks) : ∀ {i : Nat} {k : Key} {d : D}, kvs[i]? = some (k, d) → ∃ v, ks[i]? = some (k, v) ∧ Dv K G d v := by
  intro i k d e
  obtain ⟨⟨k', v⟩, h1, h2, h3⟩ := paired_get h e
  have h2' : k = k' := h2
  subst h2'
  exact ⟨v, h1, h3⟩
theorem dv_key {G : Hp} {k : Key} : Dv K G (keyD k) (kV k) := by
  cases k with
  | inl i => exact dv_int
  | inr s => exact dv_str
theorem itr_keys {c : Cn} {G0 : Hp} {p : Addr} {od : Obj} {kvs : List (Key × D)} {ks : List (Key × V)} (h : KvRep K G0 kvs ks) : ItR K (Itk p od ks) (c.with p (.frz od (.dK ks))) G0 (keysD kvs) := by
  intro G ρ σ H ex R i
  have hp : H p = some (.frz od (.dK ks)) := (R.kp p _ (by show upd c.keep p _ p = _; exact upd_same)).1
  have hl := kv_length h
  refine ⟨fun d hd => ?_, fun hi => ⟨hp, by unfold keysD at hi; rw [List.length_map] at hi; rw [hl]; exact hi⟩⟩
  unfold keysD at hd
  rw [List.getElem?_map] at hd
  obtain ⟨⟨k, d'⟩, hk, rfl⟩ := Option.map_eq_some_iff.mp hd
  obtain ⟨v, hv, _⟩ := kv_get' h hk
  refine ⟨⟨hp, (List.getElem?_eq_some_iff.mp hv).1⟩, fun x H' y => ?_⟩
  obtain ⟨rfl, k2, v2, e2, rfl⟩ := y
  rw [hv] at e2; cases e2
  exact ⟨G, .refl, dv_key⟩
theorem itr_vals {c : Cn} {G0 : Hp} {p : Addr} {od : Obj} {kvs : List (Key × D)} {ks : List (Key × V)} (h : KvRep K G0 kvs ks) : ItR K (Itd p od ks) (c.with p (.frz od (.dK ks))) G0 (kvs.map (·.2)) := by
  intro G ρ σ H ex R i
  have hp : H p = some (.frz od (.dK ks)) := (R.kp p _ (by show upd c.keep p _ p = _; exact upd_same)).1
  have hl := kv_length h
  refine ⟨fun d hd => ?_, fun hi => ⟨hp, by rw [List.length_map] at hi; rw [hl]; exact hi⟩⟩
  rw [List.getElem?_map] at hd
  obtain ⟨⟨k, d'⟩, hk, rfl⟩ := Option.map_eq_some_iff.mp hd
  obtain ⟨v, hv, dv⟩ := kv_get' h hk
  refine ⟨⟨hp, (List.getElem?_eq_some_iff.mp hv).1⟩, fun x H' y => ?_⟩
  obtain ⟨rfl, k2, e2⟩ := y
  rw [hv] at e2; cases e2
  exact ⟨G, .refl, dv.ex ex⟩
theorem itr_items {c : Cn} {G0 : Hp} {p : Addr} {od : Obj} {kvs : List (Key × D)} {ks : List (Key × V)} (h : KvRep K G0 kvs ks) : ItR K (Iti p od ks) (c.with p (.frz od (.dK ks))) G0 (kvs.map fun q => .tuple [keyD q.1, q.2]) := by
  intro G ρ σ H ex R i
  have hp : H p = some (.frz od (.dK ks)) := (R.kp p _ (by show upd c.keep p _ p = _; exact upd_same)).1
  have hl := kv_length h
  refine ⟨fun d hd => ?_, fun hi => ⟨hp, by rw [List.length_map] at hi; rw [hl]; exact hi⟩⟩
  rw [List.getElem?_map] at hd
  obtain ⟨⟨k, d'⟩, hk, rfl⟩ := Option.map_eq_some_iff.mp hd
  obtain ⟨v, hv, dv⟩ := kv_get' h hk
  refine ⟨⟨hp, (List.getElem?_eq_some_iff.mp hv).1⟩, fun x H' y => ?_⟩
  obtain ⟨T, k2, v2, e2, rfl, hT, rfl⟩ := y
  rw [hv] at e2; cases e2
  exact dv_pair R.le hT dv_key (dv.ex ex)
/-- for k in d, d a slot's own dict -/
def sForKeys (i : Nat) (tg : D → Env → Option Env) (body : Md Fw) : Md Fw := fun ρ => match ρ[i]? with
  | some (some (.own false (.dK kvs))) => forL tg body (keysD kvs) (ρ.set i (some (.imm (.dict (kvs.map fun p => (keyD p.1, p.2))))))
  | _ => .stuck
theorem st_forKeys {g : TG} {tb : TS} {tg : D → Env → Option Env} {body : Md Fw} {vs : List Nat} {i : Nat} (hg : TgD K vs g tg) (hb : StD K V0 tb body) : StD K V0 (tLock (tFor (iKeys (tVar i)) g tb)) (sForKeys i tg body) := by
  intro c G ρ σ H R D q
  unfold sForKeys at q
  split at q
  · rename_i kvs e
    obtain ⟨p, ob, s, hp, ⟨ks, rfl, hr⟩, hg0, z⟩ := R.own i false _ e
    have z' : c.H0 p = none := z
    have kz : c.keep p = none := by
      cases ek : c.keep p with
      | none => rfl
      | some u => exact absurd s ((R.kp p u ek).2.2 i false _ e)
    obtain ⟨p', ob', s', g', R2, dv⟩ := R.frzSlot e (d := .dict (kvs.map fun p => (keyD p.1, p.2))) rfl
    rw [s] at s'; cases s'
    have no : NotOwn (ρ.set i (some (.imm (.dict (kvs.map fun p => (keyD p.1, p.2)))))) σ p := fun j b o hj hs => by
      rcases get_set hj with ⟨rfl, q, hl⟩ | ⟨ne, q2⟩
      · cases q
      · exact ne (R.dis i j false _ b o p e q2 s hs)
    have eob : ob' = .dK ks := by
      have := R2.le p ob' upd_same
      rcases this with h | ⟨_, kv, e1, h⟩
      · rw [hp] at h; exact (Option.some.inj h).symm
      · rw [hp] at h; cases h
    subst eob
    refine ⟨p, .dK ks, hp, trivial, fun od => ?_⟩
    have R3 := R2.locked (od := od) upd_same hp z' kz no
    refine ⟨_, s, p, od, rfl, .inl ⟨ks, upd_same, ?_⟩⟩
    refine for_core (K := K) (W := V0) (c := c.with p (.frz od (.dK ks))) (itr_keys (hr.ex (Ex.new g'))) hg hb R3 ?_
    -- each way out unlocks
    have q' := OutS.weak (Ex.new (o := .dK ks) g') q
    cases ef : forL tg body (keysD kvs) (ρ.set i (some (.imm (.dict (kvs.map fun p => (keyD p.1, p.2)))))) with
    | ok fl ρ' =>
      rw [ef] at q'
      intro σ' G' H' ex R'
      obtain ⟨hp', R''⟩ := R'.unlocked z' kz
      have fin := q' σ' G' _ ex R''
      cases fl with
      | nx => exact ⟨hp', fin⟩
      | br => exact ⟨hp', fin⟩
      | ct => exact ⟨hp', fin⟩
      | rt a =>
        intro v rr
        refine ⟨hp', fin v ?_⟩
        have up : ∀ {a : Addr} {ob : HO}, H' a = some ob → (c.with p (.frz od (.dK ks))).H0 a = none → a ≠ p → upd H' p (.dK ks) a = some ob := fun {a ob} h _ ne => by rw [upd_ne ne]; exact h
        cases a with
        | imm d => exact rr
        | own b o =>
          obtain ⟨p1, ob1, rfl, h1, r1, g1, z1⟩ := rr
          have ne : p1 ≠ p := fun e => by
            subst e
            rw [hp'] at h1; cases h1
            cases o with
            | lst ds => obtain ⟨_, e, _⟩ := r1; cases e
            | dK ds => obtain ⟨_, e, _⟩ := r1; cases e
            | dT ds => obtain ⟨_, e, _⟩ := r1; cases e
            | ins C fs => obtain ⟨_, _, e, _⟩ := r1; cases e
          exact ⟨p1, ob1, rfl, up h1 z1 ne, r1, g1, z1⟩
        | pair o1 o2 =>
          obtain ⟨t, p1, p2, ob1, ob2, rfl, ht, h1, r1, g1, z1, h2, r2, g2, z2, nn⟩ := rr
          have ne1 : ∀ {o : Own} {p1 : Addr} {ob1 : HO}, H' p1 = some ob1 → ObRep K G' o ob1 → p1 ≠ p := fun {o p1 ob1} h1 r1 e => by
            subst e
            rw [hp'] at h1; cases h1
            cases o with
            | lst ds => obtain ⟨_, e, _⟩ := r1; cases e
            | dK ds => obtain ⟨_, e, _⟩ := r1; cases e
            | dT ds => obtain ⟨_, e, _⟩ := r1; cases e
            | ins C fs => obtain ⟨_, _, e, _⟩ := r1; cases e
          have net : t ≠ p := fun e => by subst e; rw [hp'] at ht; cases ht
          exact ⟨t, p1, p2, ob1, ob2, rfl, by rw [upd_ne net]; exact ht, up h1 z1 (ne1 h1 r1), r1, g1, z1, up h2 z2 (ne1 h2 r2), r2, g2, z2, nn⟩
    | raise x ρ' =>
      rw [ef] at q'
      intro σ' G' H' ex R'
      obtain ⟨hp', R''⟩ := R'.unlocked z' kz
      exact (show False from q' σ' G' _ ex R'')
    | stuck => rw [ef] at q'; exact q'
  · exact False.elim q
/-- a list comprehension over d.values(), d.items(), d, d a slot's own dict -/
def mLcD (vs : List Nat) (i : Nat) (sel : List (Key × D) → List D) (tg : D → Env → Option Env) (test : Md Bool) (elt : Md Opd) : Md Own := fun ρ => match ρ[i]? with
  | some (some (.own false (.dK kvs))) => if vs.all (noOwn ρ) && !(vs.contains i) then
      match lcL vs tg test elt (sel kvs) [] (wipeE (ρ.set i (some (.imm (.dict (kvs.map fun p => (keyD p.1, p.2)))))) vs) with
      | .ok acc ρ' => .ok (.lst acc) (backE (ρ.set i (some (.imm (.dict (kvs.map fun p => (keyD p.1, p.2)))))) vs ρ')
      | _ => .stuck
    else .stuck
  | _ => .stuck
theorem en_lcD {wi : TI} {g : TG} {tt : TT} {te : TE} {vs : List Nat} {tg : D → Env → Option Env} {test : Md Bool} {elt : Md Opd} {i : Nat} {sel : List (Key × D) → List D} {J : Addr → Obj → List (Key × V) → It}
    (hJ : ∀ {c : Cn} {G0 : Hp} {p : Addr} {od : Obj} {kvs : List (Key × D)} {ks : List (Key × V)}, KvRep K G0 kvs ks → ItR K (J p od ks) (c.with p (.frz od (.dK ks))) G0 (sel kvs))
    (hw : ∀ σ H R p od ks, σ[i]? = some (some (.ref p)) → H p = some (.frz od (.dK ks)) → R (J p od ks) H → wi σ H R)
    (hg : TgD K vs g tg) (ht : EvT K V0 tt test) (he : EvO K V0 te elt) : EvN K V0 (tLockE (tLc wi g tt te vs)) (mLcD vs i sel tg test elt) := by
  intro c G ρ σ H R Q q
  unfold mLcD at q
  split at q
  · rename_i kvs e
    split at q
    · rename_i hv
      rw [Bool.and_eq_true, List.all_eq_true] at hv
      split at q
      · rename_i accF ρF eF
        obtain ⟨p, ob, s, hp, ⟨ks, rfl, hr⟩, hg0, z⟩ := R.own i false _ e
        have z' : c.H0 p = none := z
        have kz : c.keep p = none := by
          cases ek : c.keep p with
          | none => rfl
          | some u => exact absurd s ((R.kp p u ek).2.2 i false _ e)
        obtain ⟨p', ob', s', g', R2, dv⟩ := R.frzSlot e (d := .dict (kvs.map fun p => (keyD p.1, p.2))) rfl
        rw [s] at s'; cases s'
        have no : NotOwn (ρ.set i (some (.imm (.dict (kvs.map fun p => (keyD p.1, p.2)))))) σ p := fun j b o hj hs => by
          rcases get_set hj with ⟨rfl, q, hl⟩ | ⟨ne, q2⟩
          · cases q
          · exact ne (R.dis i j false _ b o p e q2 s hs)
        have eob : ob' = .dK ks := by
          have := R2.le p ob' upd_same
          rcases this with h | ⟨_, kv, e1, h⟩
          · rw [hp] at h; exact (Option.some.inj h).symm
          · rw [hp] at h; cases h
        subst eob
        refine ⟨p, .dK ks, hp, trivial, fun od => ?_⟩
        have R3 := R2.locked (od := od) upd_same hp z' kz no
        refine hw σ _ _ p od ks s upd_same fun D hD => ?_
        have hv2 : ∀ j ∈ vs, noOwn (ρ.set i (some (.imm (.dict (kvs.map fun p => (keyD p.1, p.2)))))) j = true := fun j hj => by
          have ne : i ≠ j := fun e => by
            subst e
            have := hv.2
            simp [hj] at this
          have := hv.1 j hj
          unfold noOwn at this ⊢
          rw [List.getElem?_set_ne ne]; exact this
        refine lc_core (K := K) (c := c.with p (.frz od (.dK ks))) (Q := fun v H' => H' p = some (.frz od (.dK ks)) ∧ Q v (upd H' p (.dK ks))) (hJ (hr.ex (Ex.new g'))) hg ht he R3 hv2 eF ?_ hD
        intro G' H' ex R' v nr
        obtain ⟨hp', R''⟩ := R'.unlocked z' kz
        refine ⟨hp', q G' _ ((Ex.new g').trans ex) R'' v ?_⟩
        obtain ⟨p1, ob1, rfl, h1, r1, g1, z1, k1, n1⟩ := nr
        have ne : p1 ≠ p := fun e => by
          subst e
          rw [hp'] at h1; cases h1
          obtain ⟨_, e, _⟩ := r1; cases e
        have k1' : c.keep p1 = none := by
          have k2 : upd c.keep p (.frz od (.dK ks)) p1 = none := k1
          rw [upd_ne ne] at k2; exact k2
        exact ⟨p1, ob1, rfl, by rw [upd_ne ne]; exact h1, r1, g1, z1, k1', n1⟩
      · exact False.elim q
    · exact False.elim q
  · exact False.elim q
theorem en_lcVals {g : TG} {tt : TT} {te : TE} {vs : List Nat} {tg : D → Env → Option Env} {test : Md Bool} {elt : Md Opd} {i : Nat} (hg : TgD K vs g tg) (ht : EvT K V0 tt test) (he : EvO K V0 te elt) :
    EvN K V0 (tLockE (tLc (iVals (tVar i)) g tt te vs)) (mLcD vs i (fun kvs => kvs.map (·.2)) tg test elt) :=
  en_lcD (J := Itd) itr_vals (fun σ H R p od ks s hp h => ⟨_, s, p, od, ks, rfl, hp, h⟩) hg ht he
theorem en_lcItems {g : TG} {tt : TT} {te : TE} {vs : List Nat} {tg : D → Env → Option Env} {test : Md Bool} {elt : Md Opd} {i : Nat} (hg : TgD K vs g tg) (ht : EvT K V0 tt test) (he : EvO K V0 te elt) :
    EvN K V0 (tLockE (tLc (iItems (tVar i)) g tt te vs)) (mLcD vs i (fun kvs => kvs.map fun q => .tuple [keyD q.1, q.2]) tg test elt) :=
  en_lcD (J := Iti) itr_items (fun σ H R p od ks s hp h => ⟨_, s, p, od, ks, rfl, hp, h⟩) hg ht he
end
end DV

set_option Elab.async false
set_option linter.all false
set_option maxRecDepth 100000
set_option maxHeartbeats 2000000
set_option autoImplicit false
/-! DvExt: isinstance, sorted, two names at once, reversed copies. -/
namespace DV
open PySem L2
/-! ### isinstance -/
def tyN : D → String
  | .none => "NoneType"
  | .bool _ => "bool"
  | .int _ => "int"
  | .str _ => "str"
  | .list _ => "list"
  | .tuple _ => "tuple"
  | .dict _ => "dict"
def isA (t : String) (d : D) : Bool := match d with
  | .none => false
  | .bool _ => t == "bool" || t == "int"
  | .int _ => t == "int"
  | .str _ => t == "str"
  | .list _ => t == "list"
  | .tuple _ => t == "tuple"
  | .dict _ => t == "dict"
def clsN : List String := ["bool", "int", "str", "list", "tuple"]
theorem kit_all : ∀ a ∈ ["NoneType", "bool", "int", "str", "list", "tuple", "dict"], ∀ b ∈ clsN, kitB a b = some (a == b || (a == "bool" && b == "int")) := by decide +kernel
theorem tyN_mem (d : D) : tyN d ∈ ["NoneType", "bool", "int", "str", "list", "tuple", "dict"] := by cases d <;> simp [tyN]
theorem isA_eq (t : String) (h : t ∈ clsN) (d : D) : (tyN d == t || (tyN d == "bool" && t == "int")) = isA t d := by
  revert h
  have : ∀ t ∈ clsN, ((("NoneType" == t || ("NoneType" == "bool" && t == "int")) = false) ∧ (("bool" == t || ("bool" == "bool" && t == "int")) = (t == "bool" || t == "int")) ∧ (("int" == t || ("int" == "bool" && t == "int")) = (t == "int")) ∧ (("str" == t || ("str" == "bool" && t == "int")) = (t == "str"))
    ∧ (("list" == t || ("list" == "bool" && t == "int")) = (t == "list")) ∧ (("tuple" == t || ("tuple" == "bool" && t == "int")) = (t == "tuple")) ∧ (("dict" == t || ("dict" == "bool" && t == "int")) = (t == "dict"))) := by decide
  intro h
  obtain ⟨a, b, c, e, f, g, i⟩ := this t h
  cases d <;> assumption
theorem tyx_vw {K : Kf} {G H : Hp} (l : Le G H) {d : D} {v : V} (h : Vw K G H d v) : TyX K H v (.type (tyN d)) := by
  cases d with
  | none => rw [show v = .non from h]; exact .base .non
  | bool b => rw [show v = .bl b from h]; exact .base (.bl b)
  | int i => rw [show v = .int i from h]; exact .base (.int i)
  | str z => rw [show v = .str z from h]; exact .base (.str z)
  | list ds =>
    obtain ⟨a, vs, rfl, s, _⟩ := h
    rcases s with (s | ⟨o, s⟩) | ⟨o, its, n, e, c, _⟩
    · exact .base (.lst s)
    · exact .base (.frz s)
    · exact .kList e c
  | tuple ds =>
    obtain ⟨a, vs, rfl, s, _⟩ := h
    exact .base (.tup (tup_le l s))
  | dict kvs =>
    obtain ⟨a, ks, rfl, s, _⟩ := h
    rcases s with s | ⟨o, s⟩
    · exact .base (.dK s)
    · exact .fDict s
def mIsi (ts : List String) (f : Md Opd) : Md Opd := Md.bind f fun o ρ => match rs ρ o with
  | some d => .ok (.dat (.bool (ts.any fun t => isA t d))) ρ
  | none => .stuck
section
variable {K : Kf} {W : Wish}
theorem vw_rs {c : Cn} {G H : Hp} {ρ : Env} {σ : St} (R : Rel K c G ρ σ H) {o : Opd} {v : V} {d : D} (r : ORep K G σ o v) (e : rs ρ o = some d) : Vw K G H d v := vw_of R r e
theorem ev_isi {te : TE} {f : Md Opd} (t : String) (ht : t ∈ clsN) (h : EvO K W te f) : EvO K W (tCB (rIsi K) (tCons te (tCons (tC (.ty t)) tNil))) (mIsi [t] f) := by
  intro c G ρ σ H R Q q
  refine h c G ρ σ H R _ (q.bind.mono fun o ρ1 G1 H1 e1 R1 h1 v r => ?_)
  try dsimp only at h1
  split at h1
  · rename_i d ed
    have vw := vw_of R1 r ed
    refine ⟨v, .ty t, .type (tyN d), .type t, isA t d, rfl, .ty t, tyx_vw R1.le vw, ?_, ?_⟩
    · have := kit_all _ (tyN_mem d) t ht
      rw [isA_eq t ht] at this
      exact kit_ty this
    · refine h1.ret R1 _ ?_
      show V.bl (isA t d) = V.bl (isA t d || false)
      rw [Bool.or_false]
  · exact False.elim h1
theorem kitAny_ts (d : D) : ∀ ts : List String, (∀ t ∈ ts, t ∈ clsN) → PySem.W.kitAny K (.type (tyN d)) (ts.map Value.type) = some (ts.any fun t => isA t d)
  | [], _ => rfl
  | t :: ts, h => by
    have e := kit_all _ (tyN_mem d) t (h t (.head _))
    rw [isA_eq t (h t (.head _))] at e
    refine kitAny_cons (kit_ty e) (fun hb => ?_) fun hb => ?_
    · rw [kitAny_ts d ts fun t' m => h t' (.tail _ m), List.any_cons, hb, Bool.false_or]
    · rw [List.any_cons, hb, Bool.true_or]
theorem clsv_ts : ∀ ts : List String, Paired ClsV (ts.map V.ty) (ts.map Value.type)
  | [] => .nil
  | t :: ts => .cons (.ty t) (clsv_ts ts)
theorem ev_isi2 {te : TE} {f : Md Opd} (t u : String) (ht : t ∈ clsN) (hu : u ∈ clsN) (h : EvO K W te f) : EvO K W (tCB (rIsiT K) (tCons te (tCons (tTup (tCons (tC (.ty t)) (tCons (tC (.ty u)) tNil))) tNil))) (mIsi [t, u] f) := by
  intro c G ρ σ H R Q q
  refine h c G ρ σ H R _ (q.bind.mono fun o ρ1 G1 H1 e1 R1 h1 v r => ?_)
  try dsimp only at h1
  split at h1
  · rename_i d ed
    have vw := vw_of R1 r ed
    refine ⟨by show 2 ≤ sizeLine; rw [sizeLine_eq]; omega, fun p hp => ?_⟩
    have hg := R1.gh hp
    have le2 : Le G1 (upd H1 p (.tup [.ty t, .ty u])) := R1.le.mut hg
    have vw2 : Vw K G1 (upd H1 p (.tup [.ty t, .ty u])) d v := by
      cases d with
      | list ds =>
        obtain ⟨a, vs, rfl, s, z⟩ := vw
        exact ⟨a, vs, rfl, sql_ex (Ex.new hp) s, z⟩
      | dict ks =>
        obtain ⟨a, vs, rfl, s, z⟩ := vw
        exact ⟨a, vs, rfl, rd_ex (Ex.new hp) s, z⟩
      | _ => exact vw
    refine ⟨v, p, [.ty t, .ty u], .type (tyN d), [.type t, .type u], [t, u].any fun t => isA t d, rfl, upd_same, clsv_ts [t, u], tyx_vw le2 vw2, kitAny_ts d [t, u] (fun x m => ?_), ?_⟩
    · rcases List.mem_cons.mp m with rfl | m
      · exact ht
      · rw [List.mem_singleton.mp m]; exact hu
    · exact h1.ret (R1.side hp) _ rfl
  · exact False.elim h1
end
/-! ### sorted -/
def rSortedD (K : Kf) : List V → Hp → VK → Prop := fun vs H Q => ∃ (a : Addr) (xs : List V) (ds : List D) (S : V → D → Prop), vs = [.ref a] ∧ SqL K H a xs ∧ DpAll K H xs ds ∧ Paired S xs ds ∧ PySem.W.AllAlike ds ∧ PySem.W.Sortable ds ∧ (∀ d ∈ ds, d.depth ≤ 8) ∧
  ∀ p ys, H p = none → Paired S ys (ds.mergeSort (PySem.W.dataLe false id)) → Q (.ref p) (upd H p (.lst ys))
theorem each_paired {R : Value → D → Prop} : ∀ {us : List Value} {ds : List D}, PySem.W.EachIs R us ds → Paired R us ds
  | _, _, .nil => .nil
  | _, _, .cons h t => .cons h (each_paired t)
theorem each_two {S : V → D → Prop} : ∀ {xs : List V} {us : List Value} {ds : List D}, Vals xs us → Paired S xs ds → PySem.W.EachIs (fun u d => ∃ v, RelV v u ∧ S v d) us ds
  | _, _, _, .nil, .nil => .nil
  | _, _, _, .cons r t, .cons s z => .cons ⟨_, r, s⟩ (each_two t z)
theorem each_back {S : V → D → Prop} : ∀ {us : List Value} {ds : List D}, PySem.W.EachIs (fun u d => ∃ v, RelV v u ∧ S v d) us ds → ∃ ys, Vals ys us ∧ Paired S ys ds
  | _, _, .nil => ⟨[], .nil, .nil⟩
  | _, _, .cons ⟨v, r, s⟩ t => by
    obtain ⟨ys, a, b⟩ := each_back t
    exact ⟨v :: ys, .cons r a, .cons s b⟩
theorem paired_len {S : V → D → Prop} : ∀ {xs : List V} {ds : List D}, Paired S xs ds → xs.length = ds.length
  | _, _, .nil => rfl
  | _, _, .cons _ t => by rw [List.length_cons, List.length_cons, paired_len t]
theorem cr_sortedD {X : Cx} (hu : X.A.units + 65 < cLine) : CallR X (.builtin "sorted") (rSortedD X.K) := by
  intro pins s σ H vs us Q I r h
  obtain ⟨a, xs, ds, S, rfl, hs, dp, ps, hal, hk, hd, q⟩ := h
  obtain ⟨its, rv, hl, hz⟩ := I.list hs
  rw [Vals.ref1 r]
  obtain ⟨as, ra⟩ := Dp.readsAll I ds _ its dp rv
  have ra' : ReadsAll s.heap its (ds.map id) as := by rw [List.map_id]; exact ra
  have er := PySem.W.readsAll_each id ra'
  have e := each_two rv ps
  have hlen := paired_len ps
  refine PySem.W.sorted_data (enc := id) hl.isList e er (by rw [List.map_id]; exact hal) (by rw [List.map_id]; exact hk) (by rw [← hlen]; exact hz) (fun d m => ?_) fun out ho eo => ?_
  · have := hd d m
    show X.A.units + 2 + d.depth < cLine
    omega
  · obtain ⟨ep, he'⟩ := PyProof.Rows.sortedAll_at s.heap its out.toArray
    obtain ⟨ys, v1, v2⟩ := each_back eo
    have hl2 : ys.length ≤ sizeLine := by
      rw [v1.length, ho, ← hlen]; exact hz
    exact ⟨.ref _, upd H (s.heap.objs.size + 1) (.lst ys), I.laid (t' := s.toks) (fun _ _ => PyProof.Rows.sortedAll_old) (Nat.le_succ _) ⟨hl2, out, ep, v1, he'⟩, rfl, q _ ys (I.hok.fresh (Nat.le_succ _)) v2⟩
def tupOne : D → Bool
  | .tuple (_ :: _) => true
  | _ => false
def notTup : D → Bool
  | .none => false
  | .tuple _ => false
  | _ => true
def okSort (ds : List D) : Bool := ds.all (fun d => ds.all fun d' => PySem.W.alike d d') && (ds.all tupOne || ds.all notTup) && ds.all (fun d => decide (d.depth ≤ 8)) && PyData.canLayAll0 ds
def gSorted : List D → Option Own
  | [.list ds] => if okSort ds then some (.lst (ds.mergeSort (PySem.W.dataLe false id))) else none
  | _ => none
theorem paired_dv {K : Kf} {G : Hp} : ∀ {ds : List D} {xs : List V}, DvAll K G ds xs → Paired (fun v d => Dv K G d v) xs ds
  | [], _, h => by rw [h.nil_inv]; exact .nil
  | d :: ds, _, h => by
    obtain ⟨v, r, rfl, a, b⟩ := h.cons_inv
    exact .cons a (paired_dv b)
theorem dv_paired {K : Kf} {G : Hp} : ∀ {ds : List D} {xs : List V}, Paired (fun v d => Dv K G d v) xs ds → DvAll K G ds xs
  | _, _, .nil => .nil
  | _, _, .cons a b => .cons a (dv_paired b)
section
variable {K : Kf} {W : Wish}
theorem ok_sort {ds : List D} (h : okSort ds = true) : PySem.W.AllAlike ds ∧ PySem.W.Sortable ds ∧ (∀ d ∈ ds, d.depth ≤ 8) ∧ PyData.canLayAll0 ds = true := by
  unfold okSort at h
  simp only [Bool.and_eq_true, Bool.or_eq_true, List.all_eq_true, decide_eq_true_eq] at h
  obtain ⟨⟨⟨a, b⟩, c⟩, e⟩ := h
  refine ⟨fun d m d' m' => a d m d' m', ?_, c, e⟩
  rcases b with b | b
  · refine .inl fun d m => ?_
    have := b d m
    unfold tupOne at this
    split at this
    · exact ⟨_, _, rfl⟩
    · cases this
  · refine .inr fun d m => ?_
    have := b d m
    unfold notTup at this
    split at this
    · cases this
    · cases this
    · rename_i n1 n2
      exact ⟨n1, fun xs e => n2 xs e⟩
theorem g_sorted : ClN K (rSortedD K) gSorted := by
  intro G H ds o vs l h e Q q
  unfold gSorted at e
  split at e
  · rename_i es
    split at e
    · rename_i ok
      cases e
      obtain ⟨a1, a2, a3, a4⟩ := ok_sort ok
      cases h with
      | cons hv ht =>
        cases ht
        obtain ⟨a, xs, rfl, s, dv⟩ := hv
        exact ⟨a, xs, es, fun v d => Dv K G d v, rfl, s, dpAll_of l es a4 dv, paired_dv dv, a1, a2, a3, fun p ys hp pr => q p _ hp ⟨ys, rfl, dv_paired pr⟩⟩
    · cases e
  · cases e
end
/-! ### sum, max, min of lists and tuples of whole numbers -/
theorem dp_ints {K : Kf} {H : Hp} : ∀ ns : List Int, DpAll K H (ns.map V.int) (ns.map PyData.int)
  | [] => .nil
  | n :: ns => .cons (.int n) (dp_ints ns)
theorem alike_intsD (ns : List Int) : PySem.W.AlikeAll (ns.map PyData.int) := by
  refine ⟨fun x hx y hy => ?_, fun x hx => ?_⟩
  · obtain ⟨i, _, rfl⟩ := List.mem_map.mp hx
    obtain ⟨j, _, rfl⟩ := List.mem_map.mp hy
    rfl
  · obtain ⟨i, _, rfl⟩ := List.mem_map.mp hx
    exact fun z => nomatch z
theorem dep_intsD : ∀ xs : List Int, PyData.depthAll (xs.map .int) = 0
  | [] => rfl
  | x :: xs => by
    show max 0 (PyData.depthAll (xs.map .int)) = 0
    rw [dep_intsD xs]; rfl
theorem foldl_max_spec : ∀ (ns : List Int) (n : Int), ns.foldl max n ∈ n :: ns ∧ ∀ y ∈ n :: ns, y ≤ ns.foldl max n := fun ns n => by
  have := maxL_spec (ns := n :: ns) (m := ns.foldl max n) rfl
  exact this
theorem foldl_min_spec : ∀ (ns : List Int) (n : Int), ns.foldl min n ∈ n :: ns ∧ ∀ y ∈ n :: ns, ns.foldl min n ≤ y := fun ns n => by
  have := minL_spec (ns := n :: ns) (m := ns.foldl min n) rfl
  exact this
theorem cr_sumA {X : Cx} (hc : X.calm = true) : CallR X (.builtin "sum") (rSumA X.K) := by
  intro pins s σ H vs us Q I r h
  obtain ⟨a, ns, rfl, hs, q⟩ := h
  rcases hs with hs | hs
  · exact cr_sum hc pins s σ H _ us Q I r ⟨a, ns, rfl, hs, q⟩
  · obtain ⟨its, rv, ht, hz⟩ := I.tuple hs
    rw [Vals.ref1 r]
    obtain ⟨xs, e⟩ := rv.ints.allInts.items
    have hn : PySem.numsOf (PySem.intItems xs).toList = ns := by rw [← e]; exact rv.ints.numsOf
    rw [PySem.nums_intItems] at hn
    rw [e] at ht
    refine PySem.W.ktm_sumG (I.ok.hd hc) ht fun h' tk t' hk => ?_
    refine ⟨.int ns.sum, H, I.kept hk, ⟨t', ?_⟩, q⟩
    rw [PySem.preSum_eq, List.take_of_length_le (by simp), hn]
theorem cr_maxA {X : Cx} (hc : X.calm = true) (hu : X.A.units + 65 < cLine) : CallR X (.builtin "max") (rMaxA X.K) := by
  intro pins s σ H vs us Q I r h
  obtain ⟨a, ns, rfl, hs, hne, q⟩ := h
  rcases hs with hs | hs
  · exact cr_max hc pins s σ H _ us Q I r ⟨a, ns, rfl, hs, hne, q⟩
  · obtain ⟨its, rv, ht, hz⟩ := I.tuple hs
    rw [Vals.ref1 r]
    obtain ⟨as, ra⟩ := Dp.readsAll I _ _ its (dp_ints ns) rv
    cases ns with
    | nil => exact absurd hne (by simp)
    | cons n ns =>
      refine PySem.W.max_tuple_data (x := .int n) (xs := ns.map .int) (I.ok.hd hc) ht ra (alike_intsD (n :: ns)) (by have := dep_intsD (n :: ns); show X.A.units + 1 + PyData.depthAll ((n :: ns).map .int) < _; omega) fun i v h' tk bs _ rd hk => ?_
      rw [PySem.W.maxD_ints] at rd
      obtain ⟨m1, m2⟩ := foldl_max_spec ns n
      cases rd
      exact ⟨.int (ns.foldl max n), H, I.kept hk, ⟨_, rfl⟩, q _ m1 m2⟩
theorem cr_minA {X : Cx} (hc : X.calm = true) (hu : X.A.units + 65 < cLine) : CallR X (.builtin "min") (rMinA X.K) := by
  intro pins s σ H vs us Q I r h
  obtain ⟨a, ns, rfl, hs, hne, q⟩ := h
  rcases hs with hs | hs
  · exact cr_min hc pins s σ H _ us Q I r ⟨a, ns, rfl, hs, hne, q⟩
  · obtain ⟨its, rv, ht, hz⟩ := I.tuple hs
    rw [Vals.ref1 r]
    obtain ⟨as, ra⟩ := Dp.readsAll I _ _ its (dp_ints ns) rv
    cases ns with
    | nil => exact absurd hne (by simp)
    | cons n ns =>
      refine PySem.W.min_tuple_data (x := .int n) (xs := ns.map .int) (I.ok.hd hc) ht ra (alike_intsD (n :: ns)) (by have := dep_intsD (n :: ns); show X.A.units + 1 + PyData.depthAll ((n :: ns).map .int) < _; omega) fun i v h' tk bs _ rd hk => ?_
      rw [PySem.W.minD_ints] at rd
      obtain ⟨m1, m2⟩ := foldl_min_spec ns n
      cases rd
      exact ⟨.int (ns.foldl min n), H, I.kept hk, ⟨_, rfl⟩, q _ m1 m2⟩
section
variable {K : Kf} {W : Wish}
/-! ### x, y = a, b (two local names) -/
def sPar (i j : Nat) (fa : Md (List Opd)) : Md Fw := Md.bind fa fun os ρ => match ims ρ os with
  | some [d, e] => if canSet ρ i && canSet (ρ.set i (some (.imm d))) j then .ok .nx ((ρ.set i (some (.imm d))).set j (some (.imm e))) else .stuck
  | _ => .stuck
theorem st_par {i j : Nat} {ta : TA} {fa : Md (List Opd)} (h : EvA K W ta fa) : StD K W (tPar i j ta) (sPar i j fa) := by
  intro c G ρ σ H R D q
  refine h c G ρ σ H R _ (Out.mono (OutS.bindE (σ := σ) q) fun os ρ1 G1 H1 e1 R1 h1 vs r => ?_)
  split at h1
  · rename_i d e ed
    split at h1
    · rename_i hc
      rw [Bool.and_eq_true] at hc
      obtain ⟨v, w, rfl, dv, dw⟩ := vws_dvs2 R1 r ed
      have R2 := R1.setImm (R1.canSet hc.1) dv
      exact ⟨v, w, rfl, OutS.ret (P := fun fl _ σ' G' H' => Leave K c D fl σ' G' H') (R2.setImm (R2.canSet hc.2) dw) h1⟩
    · exact False.elim h1
  · exact False.elim h1
/-! ### xs[::-1], a list -/
def mRev (f : Md Opd) : Md Opd := Md.bind f fun o ρ => match rs ρ o with
  | some (.list ds) => .ok (.dat (.list ds.reverse)) ρ
  | _ => .stuck
theorem dvAll_app {G : Hp} : ∀ {as bs : List D} {us vs : List V}, DvAll K G as us → DvAll K G bs vs → DvAll K G (as ++ bs) (us ++ vs)
  | _, _, _, _, a, b => a.append b
theorem dvAll_rev {G : Hp} : ∀ {ds : List D} {vs : List V}, DvAll K G ds vs → DvAll K G ds.reverse vs.reverse
  | [], _, h => by rw [h.nil_inv]; exact .nil
  | d :: ds, _, h => by
    obtain ⟨v, r, rfl, a, b⟩ := h.cons_inv
    rw [List.reverse_cons, List.reverse_cons]
    exact (dvAll_rev b).append (.cons a .nil)
theorem ev_rev {te : TE} {f : Md Opd} (h : EvO K W te f) : EvO K W (tRevL K te) (mRev f) := by
  intro c G ρ σ H R Q q
  refine h c G ρ σ H R _ (q.bind.mono fun o ρ1 G1 H1 e1 R1 h1 v r => ?_)
  try dsimp only at h1
  split at h1
  · rename_i ds ed
    obtain ⟨a, xs, rfl, s, dv⟩ := vw_of R1 r ed
    refine ⟨a, xs, rfl, s, fun p hp => ?_⟩
    have g := Ex.new (o := .lst xs.reverse) (R1.gh hp)
    exact h1 _ _ g (R1.new hp) _ (dv_lst (DvAll.ex g _ (dvAll_rev dv)) upd_same)
  · exact False.elim h1
/-! ### dict comprehensions -/
def dcL (vs : List Nat) (tg : D → Env → Option Env) (test : Md Bool) (fk fv : Md Opd) : List D → List (Key × D) → Md (List (Key × D))
  | [], acc, ρ => .ok acc ρ
  | d :: ds, acc, ρ => match tg d ρ with
    | none => .stuck
    | some ρ1 => match test ρ1 with
      | .ok false ρ2 => if vs.all (noOwn ρ2) then dcL vs tg test fk fv ds acc (wipeE ρ2 vs) else .stuck
      | .ok true ρ2 => match fk ρ2 with
        | .ok ok ρ3 => match (im ρ3 ok).bind keyOf with
          | some k => match fv ρ3 with
            | .ok o ρ4 => match im ρ4 o with
              | some e => if acc.length < lim ∧ vs.all (noOwn ρ4) = true then dcL vs tg test fk fv ds (putG acc k e) (wipeE ρ4 vs) else .stuck
              | none => .stuck
            | _ => .stuck
          | none => .stuck
        | _ => .stuck
      | _ => .stuck
def mDc (vs : List Nat) (it : Md (List D)) (tg : D → Env → Option Env) (test : Md Bool) (fk fv : Md Opd) : Md Own := Md.bind it fun ds ρ =>
  if vs.all (noOwn ρ) then match dcL vs tg test fk fv ds [] (wipeE ρ vs) with
    | .ok acc ρ' => .ok (.dK acc) (backE ρ vs ρ')
    | _ => .stuck
  else .stuck
theorem dc_core {c : Cn} {G1 H1 : Hp} {ρ1 : Env} {σ : L2.St} {J : It} {ds : List D} {g : TG} {tt : TT} {tk te : TE} {vs : List Nat} {tg : D → Env → Option Env} {test : Md Bool} {fk elt : Md Opd} {Q : VK}
    (hJ : ItR K J c G1 ds) (hg : TgD K vs g tg) (ht : EvT K V0 tt test) (hk : EvO K V0 tk fk) (he : EvO K V0 te elt) (R1 : Rel K c G1 ρ1 σ H1) (hv : ∀ j ∈ vs, noOwn ρ1 j = true) {accF : List (Key × D)} {ρF : Env} (eF : dcL vs tg test fk elt ds [] (wipeE ρ1 vs) = .ok accF ρF)
    (h1 : ∀ G' H', Ex G1 G' → Rel K c G' (backE ρ1 vs ρF) σ H' → ∀ v, NRep K c G' (backE ρ1 vs ρF) σ H' (.dK accF) v → Q v H') {p : Addr} (hp : H1 p = none) :
    ∃ W : Nat → Nat → Hp → Prop, (∃ m, W 0 m (upd H1 p (.dK []))) ∧ ∀ i m H, W i m H →
      (J.stop i H ∧ Q (.ref p) H) ∨ (J.go i H ∧ ∃ Nx : Hp → Prop, (∀ H', Nx H' → ∃ m', m' < m ∧ W (i + 1) m' H') ∧ ∀ x H', J.yld i H x H' → g x (L2.wipe σ vs) H' fun σ2 H2 => L2.wipe σ2 vs = L2.wipe σ vs ∧ tt σ2 H2 fun b H3 =>
        if b = true then tk σ2 H3 fun y H4 => te σ2 H4 fun z H5 => ∃ kvs k, y = kV k ∧ H5 p = some (.dK kvs) ∧ kvs.length < sizeLine ∧ Nx (upd H5 p (.dK (putK kvs k z))) else Nx H3) := by
  have hgp := R1.gh hp
  have h0p := R1.h0 hp
  have hkp := R1.k0 hp
  have nop := R1.notOwn hp
  have R0 : Rel K c G1 ρ1 σ (upd H1 p (.dK [])) := R1.side hp
  refine ⟨fun i m H' => ∃ G' ρ' acc vacc, m = ds.length - i ∧ i ≤ ds.length ∧ Ex G1 G' ∧ Rel K c G' ρ' (L2.wipe σ vs) H' ∧ (∀ j ∈ vs, noOwn ρ' j = true) ∧ H' p = some (.dK vacc) ∧ KvRep K G' acc vacc ∧ G' p = none ∧ NotOwn ρ' (L2.wipe σ vs) p ∧ dcL vs tg test fk elt (ds.drop i) acc ρ' = .ok accF ρF,
    ⟨ds.length, G1, wipeE ρ1 vs, [], [], by omega, Nat.zero_le _, Ex.refl _, R0.wipe hv, noOwn_wipe, upd_same, .nil, hgp, NotOwn.wipe R1.len nop, by rw [List.drop_zero]; exact eF⟩, ?_⟩
  rintro i m H2 ⟨G2, ρ2, acc, vacc, rfl, hi, ex2, R2, nw, hpv, dv2, hg2, no2, h2⟩
  obtain ⟨j1, j2⟩ := hJ G2 ρ2 _ H2 ex2 R2 i
  by_cases hl : i < ds.length
  · have hd : ds[i]? = some ds[i] := List.getElem?_eq_getElem hl
    obtain ⟨go, yl⟩ := j1 _ hd
    have ed : ds.drop i = ds[i] :: ds.drop (i + 1) := List.drop_eq_getElem_cons hl
    rw [ed] at h2
    refine .inr ⟨go, fun H' => ∃ G' ρ' acc vacc, Ex G1 G' ∧ Rel K c G' ρ' (L2.wipe σ vs) H' ∧ (∀ j ∈ vs, noOwn ρ' j = true) ∧ H' p = some (.dK vacc) ∧ KvRep K G' acc vacc ∧ G' p = none ∧ NotOwn ρ' (L2.wipe σ vs) p ∧ dcL vs tg test fk elt (ds.drop (i + 1)) acc ρ' = .ok accF ρF,
      fun H' ⟨G', ρ', a, b, r⟩ => ⟨ds.length - (i + 1), by omega, G', ρ', a, b, rfl, hl, r⟩, fun x H3 hy => ?_⟩
    obtain ⟨G3, al, dvx⟩ := yl x H3 hy
    have R2' : Rel K (c.with p (.dK vacc)) G2 ρ2 (L2.wipe σ vs) H2 := R2.with hpv (.inl hg2) no2
    obtain ⟨R3, ex3, _⟩ := Rel.al al R2'
    unfold dcL at h2
    split at h2
    · cases h2
    · rename_i ρ3 et
      refine hg _ G3 ρ2 _ H3 _ x ρ3 R3 dvx et _ fun σ3 w3 R4 => ⟨by rw [w3]; exact wipe_wipe, ?_⟩
      refine ht _ G3 ρ3 σ3 H3 R4 _ ?_
      -- behind the turn
      have fin : ∀ {G5 H5 : Hp} {ρ5 : Env} {acc' : List (Key × D)} {vacc' : List (Key × V)}, Ex G3 G5 → Rel K c G5 ρ5 σ3 H5 → NotOwn ρ5 σ3 p → (wipeE ρ5 vs = wipeE ρ5 vs) → (∀ j ∈ vs, noOwn ρ5 j = true) → H5 p = some (.dK vacc') → KvRep K G5 acc' vacc' → G5 p = none →
          dcL vs tg test fk elt (ds.drop (i + 1)) acc' (wipeE ρ5 vs) = .ok accF ρF →
          ∃ G' ρ' acc vacc, Ex G1 G' ∧ Rel K c G' ρ' (L2.wipe σ vs) H5 ∧ (∀ j ∈ vs, noOwn ρ' j = true) ∧ H5 p = some (.dK vacc) ∧ KvRep K G' acc vacc ∧ G' p = none ∧ NotOwn ρ' (L2.wipe σ vs) p ∧ dcL vs tg test fk elt (ds.drop (i + 1)) acc ρ' = .ok accF ρF := by
        intro G5 H5 ρ5 acc' vacc' ex5 R5 no5 _ nw5 hp5 dv5 hg5 h5
        refine ⟨G5, wipeE ρ5 vs, acc', vacc', (ex2.trans ex3).trans ex5, ?_, noOwn_wipe, hp5, dv5, hg5, ?_, h5⟩
        · have := R5.wipe nw5
          rw [w3, wipe_wipe] at this
          exact this
        · have := NotOwn.wipe (vs := vs) R5.len no5
          rw [w3, wipe_wipe] at this
          exact this
      have inv : ∀ {G5 H5 : Hp} {ρ5 : Env}, Rel K (c.with p (.dK vacc)) G5 ρ5 σ3 H5 → Rel K c G5 ρ5 σ3 H5 ∧ H5 p = some (.dK vacc) ∧ (G5 p = none ∨ ∃ od kvs, HO.dK vacc = .frz od (.dK kvs) ∧ G5 p = some (.dK kvs)) ∧ NotOwn ρ5 σ3 p := fun R5 => R5.unwith hkp
      cases e4 : test ρ3 with
      | ok b ρ4 =>
        rw [e4] at h2
        intro G4 H4 x4 R5
        cases b with
        | false =>
          rw [if_neg Bool.false_ne_true]
          obtain ⟨Rc, hp4, hg4, no4⟩ := inv R5
          have hg4 : G4 p = none := by
            rcases hg4 with h | ⟨_, _, h, _⟩
            · exact h
            · cases h
          dsimp only at h2
          split at h2
          case isFalse => cases h2
          rename_i hnw
          have nw5 : ∀ j ∈ vs, noOwn ρ4 j = true := List.all_eq_true.mp hnw
          exact fin x4 Rc no4 rfl nw5 hp4 (KvRep.ex (ex3.trans x4) dv2) hg4 h2
        | true =>
          rw [if_pos rfl]
          dsimp only at h2
          refine hk _ G4 ρ4 σ3 H4 R5 _ ?_
          cases e5 : fk ρ4 with
          | ok ok ρ5 =>
            rw [e5] at h2
            dsimp only at h2
            intro G5 H5 x5 R6 vk rk
            split at h2
            · rename_i k ek
              rw [Option.bind_eq_some_iff] at ek
              obtain ⟨dk, ek1, ek2⟩ := ek
              refine he _ G5 ρ5 σ3 H5 R6 _ ?_
              cases e6 : elt ρ5 with
              | ok o ρ6 =>
                rw [e6] at h2
                dsimp only at h2
                intro G6 H6 x6 R7 v rv
                split at h2
                · rename_i e ee
                  split at h2
                  · rename_i hlen
                    obtain ⟨Rc, hp5, hg5, no5⟩ := inv R7
                    have hg5 : G6 p = none := by
                      rcases hg5 with h | ⟨_, _, h, _⟩
                      · exact h
                      · cases h
                    have nw5 : ∀ j ∈ vs, noOwn ρ6 j = true := List.all_eq_true.mp hlen.2
                    have dvacc := KvRep.ex (((ex3.trans x4).trans x5).trans x6) dv2
                    refine ⟨vacc, k, keyOf_vw ((dv_of R6 rk ek1).vw R6.le) ek2, hp5, by rw [kv_length dvacc]; exact lim_lt hlen.1, ?_⟩
                    exact fin ((x4.trans x5).trans x6) (Rc.aside hg5 h0p hkp no5) no5 rfl nw5 upd_same (kv_put (dv_of R7 rv ee) dvacc) hg5 h2
                  · cases h2
                · cases h2
              | raise z ρ6 => rw [e6] at h2; cases h2
              | stuck => rw [e6] at h2; cases h2
            · cases h2
          | raise z ρ5 => rw [e5] at h2; cases h2
          | stuck => rw [e5] at h2; cases h2
      | raise z ρ4 => rw [e4] at h2; cases h2
      | stuck => rw [e4] at h2; cases h2
  · have e : i = ds.length := by omega
    subst e
    rw [List.drop_length] at h2
    have h2' : (Rs.ok acc ρ2 : Rs (List (Key × D))) = .ok accF ρF := h2
    cases h2'
    refine .inl ⟨j2 (Nat.le_refl _), h1 G2 H2 ex2 (R1.back R2 ex2 hv) _ ⟨p, .dK vacc, rfl, hpv, ⟨vacc, rfl, dv2⟩, hg2, h0p, hkp, ?_⟩⟩
    intro j b o hj hs
    rw [backE_get] at hj
    split at hj
    · rename_i hj2
      have hn := hv j hj2.1
      unfold noOwn at hn
      cases q : ρ1[j]? with
      | none => rw [q] at hj; cases hj
      | some y =>
        rw [q] at hj
        have : y = some (.own b o) := Option.some.inj hj
        rw [q, this] at hn; cases hn
    · rename_i hj2
      have nj : j ∉ vs := fun z => hj2 ⟨z, (List.getElem?_eq_some_iff.mp hj).1⟩
      exact no2 j b o hj (by rw [wipe_get, if_neg (fun z => nj z.1)]; exact hs)
theorem en_dc {wi : TI} {g : TG} {tt : TT} {tk te : TE} {vs : List Nat} {fi : Md (List D)} {tg : D → Env → Option Env} {test : Md Bool} {fk elt : Md Opd}
    (hi : EvI K W wi fi) (hg : TgD K vs g tg) (ht : EvT K V0 tt test) (hk : EvO K V0 tk fk) (he : EvO K V0 te elt) : EvN K W (tDc wi g tt tk te vs) (mDc vs fi tg test fk elt) := by
  intro c G ρ σ H R Q q
  refine hi c G ρ σ H R _ (q.bind.mono fun ds ρ1 G1 H1 e1 R1 h1 J hJ p hp => ?_)
  split at h1
  · rename_i hv
    rw [List.all_eq_true] at hv
    split at h1
    · rename_i accF ρF eF
      exact dc_core hJ.r hg ht hk he R1 hv eF h1 hp
    · exact False.elim h1
  · exact False.elim h1
end
end DV

set_option Elab.async false
set_option linter.all false
set_option maxRecDepth 100000
set_option maxHeartbeats 2000000
set_option autoImplicit false
/-! DvEx2: a dict compared with {}. -/
namespace DV
open PySem L2
def rEqE : R2 := fun x y H Q => ∃ (a b : Addr) (ks : List (Key × V)), x = .ref a ∧ y = .ref b ∧ Rd H a (.dK ks) ∧ H b = some (.dK []) ∧ Q (.bl ks.isEmpty) H
def rNeE : R2 := fun x y H Q => ∃ (a b : Addr) (ks : List (Key × V)), x = .ref a ∧ y = .ref b ∧ Rd H a (.dK ks) ∧ H b = some (.dK []) ∧ Q (.bl (!ks.isEmpty)) H
section
variable {X : Cx}
theorem op_eqE (hu : X.A.units < cLine) : OpR X (compareOp .Eq) rEqE := by
  intro pins s σ H x y v u Q I rx ry h
  obtain ⟨a, b, ks, rfl, rfl, ea, eb, q⟩ := h
  obtain rfl : v = Value.ref a := rx
  obtain rfl : u = Value.ref b := ry
  obtain ⟨_, ya, va, ra, da⟩ := (show ObjOk X.prog X.w H s.heap a (.dK ks) from ea.ok I.hok)
  obtain ⟨_, yb, vb, rb, db⟩ := (show ObjOk X.prog X.w H s.heap b (.dK []) from I.hok b _ eb)
  have hb : vb.length = 0 := rb.length.symm
  have ha := ra.length
  refine PySem.W.keq_eq (knd := mixKind X.prog X.w) (r := true) ya yb da db hu (fun hl => ?_) (fin_bl I q ?_)
  · have : va = [] := List.eq_nil_of_length_eq_zero (by omega)
    subst this
    have : ks = [] := List.eq_nil_of_length_eq_zero ha
    subst this
    exact hits_all rb ra (fun p m => by cases m)
  · cases ks with
    | nil =>
      have : va.length = 0 := ha.symm
      simp [this, hb]
    | cons k r =>
      have : va.length ≠ 0 := by rw [← ha]; simp
      simp [hb, this]
theorem op_neE (hu : X.A.units < cLine) : OpR X (compareOp .NotEq) rNeE := by
  intro pins s σ H x y v u Q I rx ry h
  obtain ⟨a, b, ks, rfl, rfl, ea, eb, q⟩ := h
  obtain rfl : v = Value.ref a := rx
  obtain rfl : u = Value.ref b := ry
  obtain ⟨_, ya, va, ra, da⟩ := (show ObjOk X.prog X.w H s.heap a (.dK ks) from ea.ok I.hok)
  obtain ⟨_, yb, vb, rb, db⟩ := (show ObjOk X.prog X.w H s.heap b (.dK []) from I.hok b _ eb)
  have hb : vb.length = 0 := rb.length.symm
  have ha := ra.length
  refine PySem.W.keq_ne (knd := mixKind X.prog X.w) (r := true) ya yb da db hu (fun hl => ?_) (fin_bl I q ?_)
  · have : va = [] := List.eq_nil_of_length_eq_zero (by omega)
    subst this
    have : ks = [] := List.eq_nil_of_length_eq_zero ha
    subst this
    exact hits_all rb ra (fun p m => by cases m)
  · cases ks with
    | nil =>
      have : va.length = 0 := ha.symm
      simp [this, hb]
    | cons k r =>
      have : va.length ≠ 0 := by rw [← ha]; simp
      simp [hb, this]
end
def mEmp (neg : Bool) (f : Md Opd) : Md Opd := Md.bind f fun o ρ => match rs ρ o with
  | some (.dict kvs) => .ok (.dat (.bool (neg ^^ kvs.isEmpty))) ρ
  | _ => .stuck
section
variable {K : Kf} {W : Wish}
theorem dvKs_emp {G : Hp} {kvs : List (D × D)} {ks : List (Key × V)} (h : DvKs K G kvs ks) : ks.isEmpty = kvs.isEmpty := by
  cases kvs with
  | nil => unfold DvKs at h; subst h; rfl
  | cons p r =>
    obtain ⟨k, d⟩ := p
    unfold DvKs at h
    obtain ⟨q, v, r', e, _⟩ := h
    subst e
    rfl
theorem ev_empEq {te : TE} {f : Md Opd} (h : EvO K W te f) : EvO K W (tOp rEqE te tDNewK) (mEmp false f) := by
  intro c G ρ σ H R Q q
  refine h c G ρ σ H R _ (q.bind.mono fun o ρ1 G1 H1 e1 R1 h1 v r => ?_)
  split at h1
  · rename_i kvs ed
    obtain ⟨a, ks, rfl, s, dv⟩ := vw_of R1 r ed
    intro p hp
    refine ⟨a, p, ks, rfl, rfl, rd_ex (Ex.new hp) s, upd_same, ?_⟩
    rw [dvKs_emp dv]
    exact h1.ret (R1.side hp) _ (by show V.bl kvs.isEmpty = V.bl (false ^^ kvs.isEmpty); rw [Bool.false_xor])
  · exact False.elim h1
theorem ev_empNe {te : TE} {f : Md Opd} (h : EvO K W te f) : EvO K W (tOp rNeE te tDNewK) (mEmp true f) := by
  intro c G ρ σ H R Q q
  refine h c G ρ σ H R _ (q.bind.mono fun o ρ1 G1 H1 e1 R1 h1 v r => ?_)
  split at h1
  · rename_i kvs ed
    obtain ⟨a, ks, rfl, s, dv⟩ := vw_of R1 r ed
    intro p hp
    refine ⟨a, p, ks, rfl, rfl, rd_ex (Ex.new hp) s, upd_same, ?_⟩
    rw [dvKs_emp dv]
    exact h1.ret (R1.side hp) _ (by show V.bl (!kvs.isEmpty) = V.bl (true ^^ kvs.isEmpty); rw [Bool.true_xor])
  · exact False.elim h1
end
end DV

set_option Elab.async false
set_option linter.all false
set_option maxRecDepth 100000
set_option maxHeartbeats 2000000
/-! DvPs: name = {..} on one line, the name a local. -/
namespace L2
open PySem PySem.Spec PyProof.Rows
section
variable {X : Cx}
theorem ps_setDc {i : Nat} {y : Str} {py : Pos} {kx vx tg iter : Expr} {ifs : List Expr} {scope : Scope} {own : List (Str × Nat)} {pos spos : Pos} {wi : TI} {g : TG} {tt : TT} {tk te : TE} (hc : X.calm = true) (hN : X.N.Nodup) (hy : X.N[i]? = some y) (hyl : X.env.scope.names.lookup y = some .local)
    (hsw : swapsWith (.DictComp kx vx [⟨tg, iter, ifs, 0⟩] scope pos) (some (.Name y py)) spos.line X.env = pure true) (hi : PI X tg iter wi) (ok : BlkOk X.N X.env.scope scope own)
    (hg : ∀ (s : Shared) (H : Hp) (C : Addr) (cl : List (Str × Addr)) (fp : List Addr), PG (X.blk s H scope (compEnvC scope cl C X.env) fp) tg g) (ht : ∀ (s : Shared) (H : Hp) (C : Addr) (cl : List (Str × Addr)) (fp : List Addr), PTs (X.blk s H scope (compEnvC scope cl C X.env) fp) ifs tt)
    (hk : ∀ (s : Shared) (H : Hp) (C : Addr) (cl : List (Str × Addr)) (fp : List Addr), PE (X.blk s H scope (compEnvC scope cl C X.env) fp) kx tk)
    (he : ∀ (s : Shared) (H : Hp) (C : Addr) (cl : List (Str × Addr)) (fp : List Addr), PE (X.blk s H scope (compEnvC scope cl C X.env) fp) vx te) (hs : ∀ x, foldedSetIterable iter X.env x = pure x := by intro _; rfl) :
    PS X (.Assign [.Name y py] (.DictComp kx vx [⟨tg, iter, ifs, 0⟩] scope pos) spos) (tAsg (tDc wi g tt tk te (own.map (·.2))) (gName i)) := by
  refine ⟨fun pins s σ H D I h => ?_⟩
  rw [exec_Assign_Name_used _ _ _ _ hsw]
  refine wpAny_bind (wpAny_standAt (wpAny_bind ?_))
  show wpAny _ X.A (do let _ ← comprehension (.DictComp kx vx [⟨tg, iter, ifs, 0⟩] scope pos) scope X.env (firstIterPos [⟨tg, iter, ifs, 0⟩] pos) newDict false (eval iter X.env) (some (assign (.Name y py) X.env))) _ _ s
  have h : tDc wi g tt tk te (own.map (·.2)) σ H (fun x H1 => gName i x σ H1 D.nx) := h
  refine wpAny_bind (thn (dc_core (Qf := fun _ s' => SP X pins D .next s') hc hN I hi ok hg ht hk he hs h fun L C s' m H' I' q hn f => ?_) fun _ s' hq => wpAny_pure (wpAny_pure hq))
  show wpAny _ _ (assign (.Name y py) X.env (.ref L)) _ _ _
  refine wpAny_assign_Name (store_ok2 (v := V.ref L) I' hN hy (.inl hyl) rfl (fun s2 I2 ⟨a, sb, ha⟩ => ?_) (.inr hyl))
  obtain ⟨f0, f1, f2, f3, f4, f5⟩ := f
  have haC : C ≠ a := by
    rcases ha with z | z
    · rw [z]; exact f1
    · exact fun e => f4 y a z e.symm
  refine ⟨m, hn.sameBut sb haC, fun h3 sb3 => ?_⟩
  exact ⟨_, H', I2.turned (t' := s2.toks) (fun b o hb e => (sb3.2 b hb).trans e) f0 f1 f3 f4 f5, q⟩
end
end L2

set_option Elab.async false
set_option linter.all false
set_option maxRecDepth 100000
set_option maxHeartbeats 2000000
set_option autoImplicit false
/-! DvTxt: what the printed texts lean on. -/
namespace DV
open PySem L2
theorem hu65 {A : Around} {k : Nat} (hr : Room k A) : A.units + 65 < cLine := by have := hr.un; omega
theorem hu1 {A : Around} {k : Nat} (hr : Room k A) : A.units + 1 < cLine := by have := hr.un; omega
def blkB (N : List Str) (sc scope : Scope) (own : List (Str × Nat)) : Bool :=
  decide (scope.kind = .function) && scope.names.all (fun y => decide (scope.names.lookup y.1 = some y.2)) && own.all (fun p => decide (N[p.2]? = some p.1))
  && scope.names.all (fun y => !decide (y.2 = .free) || (decide (sc.names.lookup y.1 = some .cell) || decide (sc.names.lookup y.1 = some .free)))
  && scope.names.all (fun y => !(decide (y.2 = .local) || decide (y.2 = .cell)) || (own.any (fun p => decide (p.1 = y.1)) || !N.any fun x => decide (x = y.1)))
theorem blk_ok {N : List Str} {sc scope : Scope} {own : List (Str × Nat)} (h : blkB N sc scope own = true) : BlkOk N sc scope own := by
  unfold blkB at h
  simp only [Bool.and_eq_true, List.all_eq_true, decide_eq_true_eq, Bool.or_eq_true, Bool.not_eq_true', decide_eq_false_iff_not, List.any_eq_true] at h
  obtain ⟨⟨⟨⟨h1, h2⟩, h3⟩, h4⟩, h5⟩ := h
  refine ⟨h1, h2, h3, fun y m e => ?_, fun y m e => ?_⟩
  · rcases h4 y m with q | q
    · exact absurd e q
    · exact q
  · rcases h5 y m with q | q | q
    · rw [Bool.or_eq_false_iff, decide_eq_false_iff_not, decide_eq_false_iff_not] at q
      rcases e with e | e
      · exact absurd e q.1
      · exact absurd e q.2
    · obtain ⟨p, m, e⟩ := q
      exact .inl (List.mem_map.mpr ⟨p, m, e⟩)
    · refine .inr fun m2 => ?_
      rw [List.any_eq_false] at q
      exact q _ m2 (decide_eq_true rfl)
theorem PIp.of {X : Cx} {op : Operator} {r : R2} (h : OpR X (inplaceOp op) r) : PIp X op r := fun pins s σ H x y v u Q I rx ry q => h pins s σ H x y v u Q I rx ry q
def gAddI : D → D → Option D := gI (· + ·)
theorem g_addI {K : Kf} : Op2 K (rI0 fun i j => .int (i + j)) gAddI := g_I0
theorem st_never {K : Kf} {W : Wish} : StD K W tNever Md.stuck := fun _ _ _ _ _ _ _ q => False.elim q
/-- a def of the text, ready to be called -/
structure Cal (P : Program) (w : World) (K : Kf) (mg : Str → Option Value) (base : Heap) (k : Nat) (x : Str) (sp : Sp) : Prop where
  ok : ∃ (f : Addr) (fd : FuncData) (ps : List Str), FnOk P w K mg base CX0 k f fd ps sp ∧ mg x = some (.ref f) ∧ PySem.W.keepIn K (.ref f) = true ∧ Binds K fd ps []
section
variable {X : Cx} {k j : Nat} {x : Str} {sp : Sp} {p pos : Pos}
theorem pe_c {e : Expr} {es : List Expr} {t : TA} (c : Cal X.prog X.w X.K X.mg X.base k x sp) (hr : Room j X.A) (hk : k ≤ j) (hg : Gl X x) (ha : PA X (e :: es) t) (h1 : (x == ("__debug__" : Str)) = false := by decide)
    (h2 : starEach (e :: es) X.env = (false, eval e X.env) :: starEach es X.env := by rfl) (h3 : (backTo pos (starEach es X.env)).any (·.1) = false := by rfl) : PE X (.Call (.Name x p) (e :: es) [] pos) (tCall sp [] E0 t) := by
  obtain ⟨f, fd, ps, F, m, kp, b⟩ := c.ok
  exact pe_call F (hr.mono hk) hg m kp b .nil pass0 ha h1 h2 h3
theorem pe_c0 (c : Cal X.prog X.w X.K X.mg X.base k x sp) (hr : Room j X.A) (hk : k ≤ j) (hg : Gl X x) (h1 : (x == ("__debug__" : Str)) = false := by decide) : PE X (.Call (.Name x p) [] [] pos) (tCall sp [] E0 tNil) := by
  obtain ⟨f, fd, ps, F, m, kp, b⟩ := c.ok
  exact pe_call0 F (hr.mono hk) hg m kp b .nil pass0 h1
theorem pe_gc {v : V} (hg : Gl X x) (h : ∃ u, X.mg x = some u ∧ RelV v u) (h1 : (x == ("__debug__" : Str)) = false := by decide) : PE X (.Name x pos) (tC v) := by
  obtain ⟨u, m, r⟩ := h
  exact pe_glob hg m r h1
end
theorem cal_mk {P : Program} {w : World} {K : Kf} {mg : Str → Option Value} {base : Heap} {k : Nat} {x : Str} {sp : Sp} {f : Addr} {fd : FuncData} {ps : List Str}
    (F : FnOk P w K mg base CX0 k f fd ps sp) (hm : mg x = some (.ref f)) (kp : PySem.W.keepIn K (.ref f) = true) (b : Binds K fd ps []) : Cal P w K mg base k x sp := ⟨⟨f, fd, ps, F, hm, kp, b⟩⟩
/-- no run at all: nothing is promised -/
theorem fn_none {P : Program} {w : World} {K : Kf} {mg : Str → Option Value} {base : Heap} {x qual : Str} {st : Stmt} {f : Addr} {fd : FuncData} {N ps : List Str} {k : Nat} (F : Fun K x qual st f fd) (S : FnScope N ps (defScope st)) {m : List A → Rs A} (hm : ∀ as, m as = .stuck) :
    FnOk P w K mg base CX0 (k + 1) f fd ps (spOf K ps.length N.length m) := by
  refine F.ok S (fun vs H Q E h => h.1) (fun cdv A outer s H vs Q E hr h => ?_)
  obtain ⟨_, c, G, as, _, _, _, sat⟩ := h
  rw [hm] at sat
  exact False.elim sat
/-! the rules again, the written part by its name -/
section
variable {X : Cx} (K : Kf)
theorem k_add (e : X.K = K := by rfl) : OpR X (binaryOp .Add) (rAddS K) := by subst e; exact op_addS
theorem k_eq (hu : X.A.units + 64 < cLine) (e : X.K = K := by rfl) : OpR X (compareOp .Eq) (rEqD K) := by subst e; exact op_eqD hu
theorem k_ne (hu : X.A.units + 64 < cLine) (e : X.K = K := by rfl) : OpR X (compareOp .NotEq) (rNeD K) := by subst e; exact op_neD hu
theorem k_in (hu : X.A.units + 65 < cLine) (e : X.K = K := by rfl) : OpR X (compareOp .In) (rInS K) := by subst e; exact op_inS hu
theorem k_notIn (hu : X.A.units + 65 < cLine) (e : X.K = K := by rfl) : OpR X (compareOp .NotIn) (rNotInS K) := by subst e; exact op_notInS hu
theorem k_ix (hu : X.A.units + 1 < cLine) (e : X.K = K := by rfl) : IxR X (rIxAll K) := by subst e; exact ix_all hu
theorem k_sl (e : X.K = K := by rfl) : SlR X (rSlAll K) := by subst e; exact sl_all
theorem kc_len (e : X.K = K := by rfl) : CallR X (.builtin "len") (rLen K) := by subst e; exact call_lenS
theorem kc_isi (e : X.K = K := by rfl) : CallR X (.builtin "isinstance") (rIsi K) := by subst e; exact call_isi
theorem kc_isiT (e : X.K = K := by rfl) : CallR X (.builtin "isinstance") (rIsiT K) := by subst e; exact call_isiT
theorem kc_sum (hc : X.calm = true) (e : X.K = K := by rfl) : CallR X (.builtin "sum") (rSumA K) := by subst e; exact cr_sumA hc
theorem kc_all (hc : X.calm = true) (e : X.K = K := by rfl) : CallR X (.builtin "all") (rAll K) := by subst e; exact cr_all hc
theorem kc_any (hc : X.calm = true) (e : X.K = K := by rfl) : CallR X (.builtin "any") (rAny K) := by subst e; exact cr_any hc
theorem kc_max (hc : X.calm = true) (hu : X.A.units + 65 < cLine) (e : X.K = K := by rfl) : CallR X (.builtin "max") (rMaxA K) := by subst e; exact cr_maxA hc hu
theorem kc_min (hc : X.calm = true) (hu : X.A.units + 65 < cLine) (e : X.K = K := by rfl) : CallR X (.builtin "min") (rMinA K) := by subst e; exact cr_minA hc hu
theorem kc_sorted (hu : X.A.units + 65 < cLine) (e : X.K = K := by rfl) : CallR X (.builtin "sorted") (rSortedD K) := by subst e; exact cr_sortedD hu
def rTuple (K : Kf) : List V → Hp → VK → Prop := fun xs H Q => ∃ p ys, xs = [.ref p] ∧ ((SqL K H p ys ∧ ∀ l, H l = none → Q (.ref l) (upd H l (.tup ys))) ∨ (SqT K H p ys ∧ Q (.ref p) H))
def rList (K : Kf) : List V → Hp → VK → Prop := fun xs H Q => ∃ p ys, xs = [.ref p] ∧ (SqL K H p ys ∨ SqT K H p ys) ∧ ∀ l, H l = none → Q (.ref l) (upd H l (.lst ys))
theorem kc_tuple (e : X.K = K := by rfl) : CallR X (.type "tuple") (rTuple K) := by subst e; exact call_tuple_of
theorem kc_list (e : X.K = K := by rfl) : CallR X (.type "list") (rList K) := by subst e; exact call_list_of
theorem k_index (hu : X.A.units + 65 < cLine) (e : X.K = K := by rfl) : MtR X "list.index" (rIndexD K) := by subst e; exact mt_indexD hu
theorem kp_seq {tg l : Expr} {tl : TE} (hl : PE X l tl) (e : X.K = K := by rfl) : PI X tg l (iSeq K tl) := by subst e; exact pi_seq hl
theorem kp_zip {a b : Expr} {ta : TA} {p pos tpos : Pos} {elts : List Expr} {kk : Nat} (hg : Gl X "zip") (hm : X.mg "zip" = none) (ha : PA X [a, b] ta) (e : X.K = K := by rfl)
    (hs : starEach [a, b] X.env = (false, eval a X.env) :: starEach [b] X.env := by rfl) (hpl : (backTo pos (starEach [b] X.env)).any (·.1) = false := by rfl) :
    PI X (.Tuple elts kk tpos) (.Call (.Name "zip" p) [a, b] [] pos) (RZ.iZipA K ta) := by subst e; exact RZ.pi_zipA hg hm ha hs hpl
theorem kp_enum {a : Expr} {ta : TA} {p pos tpos : Pos} {elts : List Expr} {kk : Nat} (hg : Gl X "enumerate") (hm : X.mg "enumerate" = none) (ha : PA X [a] ta) (e : X.K = K := by rfl) (hs : starEach [a] X.env = [(false, eval a X.env)] := by rfl) :
    PI X (.Tuple elts kk tpos) (.Call (.Name "enumerate" p) [a] [] pos) (iEnumA K ta) := by subst e; exact pi_enumA hg hm ha hs
theorem kg_tup {es : List Expr} {k : Nat} {t : TGs} {n : Nat} {pos : Pos} (hc : X.calm = true) (h : PGs X es t) (e : X.K = K := by rfl)
    (hn : (assignEach es X.env).length = n := by rfl) (hst : (assignEach es X.env).findIdx? (·.1) = none := by rfl) : PG X (.Tuple es k pos) (gTup K n t) := by subst e; exact pg_tup hc h hn hst
theorem kp_rev {a : Expr} {te : TE} {k : Nat} {p1 p2 p3 pos : Pos} (he : PE X a te) (e : X.K = K := by rfl) : PE X (.Subscript a (.Slice none none (some (.UnaryOp .USub (.Constant (.int 1) k p1) p2)) p3) pos) (tRevL K te) := by subst e; exact pe_revL he
theorem kp_bm0 {T : String} {name : Str} {id : String} {r : V → List V → Hp → VK → Prop} {o : Expr} {to : TE} {apos cpos : Pos} (pa : PlainAttrs T) (slot : Slot T name id) (hty : typeOf (.builtin id) = pure (.type "method_descriptor")) (hm : MtR X id r) (ho : PE X o to) (e : X.K = K := by rfl)
    (hbase : attributeBase o name X.env (eval o X.env) = eval o X.env := by rfl) (hline : (apos.endLine == cpos.line) = true := by rfl) : PE X (.Call (.Attribute o name apos) [] [] cpos) (tBM0 K T r to) := by subst e; exact pe_bm0 pa slot hty hm ho hbase hline
theorem kp_bm {T : String} {name : Str} {id : String} {r : V → List V → Hp → VK → Prop} {o a : Expr} {es : List Expr} {to : TE} {t : TA} {apos cpos : Pos} (pa : PlainAttrs T) (slot : Slot T name id) (hty : typeOf (.builtin id) = pure (.type "method_descriptor")) (hm : MtR X id r) (ho : PE X o to) (ha : PA X (a :: es) t) (e : X.K = K := by rfl)
    (hbase : attributeBase o name X.env (eval o X.env) = eval o X.env := by rfl)
    (hfew : ((backTo cpos (starEach (a :: es) X.env)).all (fun x => !x.1) && (backToKw cpos (keywordEach [] X.env)).all (fun x => x.1.isSome) && decide ((a :: es).length + ([] : List Keyword).length + (if ([] : List Keyword).isEmpty then 0 else 1) < 30)) = true := by rfl)
    (hline : (apos.endLine == cpos.line) = true := by rfl) (hs : starEach (a :: es) X.env = (false, eval a X.env) :: starEach es X.env := by rfl) (hplain : (backTo cpos (starEach es X.env)).any (·.1) = false := by rfl) :
    PE X (.Call (.Attribute o name apos) (a :: es) [] cpos) (tBM K T r to t) := by subst e; exact pe_bm pa slot hty hm ho ha hbase hfew hline hs hplain
theorem k_get (hu : X.A.units + 1 < cLine) (e : X.K = K := by rfl) : PGet X (rGetAll K) := by subst e; exact get_all hu
end
theorem dv_ints {K : Kf} {G : Hp} : ∀ ns : List Int, DvAll K G (ns.map PyData.int) (ns.map V.int)
  | [] => .nil
  | n :: ns => .cons (show Dv K G (.int n) (.int n) from dv_int) (dv_ints ns)
theorem dv_lst' {K : Kf} {H : Hp} {a : Addr} {ns : List Int} (h : SqL K H a (ns.map V.int)) : Dv K H (.list (ns.map PyData.int)) (.ref a) := by
  unfold Dv
  exact ⟨a, _, rfl, h, dv_ints ns⟩
/-- the law's own call -/
theorem law_start {K : Kf} {k : Nat} {m : List A → Rs A} {H : Hp} {a : Addr} {ns : List Int} {E : XK} (hS : SqL K H a (ns.map V.int)) {ρ : Env} (e : m [.imm (.list (ns.map .int))] = .ok (.imm (.bool true)) ρ) (hk : 1 ≤ k) : spOf K 1 k m [.ref a] H (fun v _ => v = .bl true) E := by
  refine ⟨rfl, ⟨H, H, [], fun _ => none⟩, H, [.imm (.list (ns.map .int))], rfl, rfl, ⟨Le.refl H, fun p o h _ => h, Ex.refl H, fun p o h => .inl h, ?_, fun i d h => ?_, fun i b o h => ?_, fun i j b o b' o' p h => ?_, fun j p h => ?_, fun p o h => ?_⟩, ?_⟩
  · unfold startE
    simp
  · have hi := startE_lt h
    have : i = 0 := by simp at hi; omega
    subst this
    have hd : (.list (ns.map .int) : D) = d := by
      have h2 := startE_get h
      injection h2 with h2
      injection h2
    subst hd
    exact ⟨.ref a, rfl, dv_lst' hS⟩
  · have h2 := startE_get h
    have hi := startE_lt h
    have : i = 0 := by simp at hi; omega
    subst this
    injection h2 with h2
    cases h2
  · have h2 := startE_get h
    have hi := startE_lt h
    have : i = 0 := by simp at hi; omega
    subst this
    injection h2 with h2
    cases h2
  · simp at h
  · cases h
  · rw [e]
    intro v σ' G' H' _ _ r
    exact r
end DV

set_option Elab.async false
set_option linter.all false
set_option maxRecDepth 100000
set_option maxHeartbeats 2000000
set_option autoImplicit false
/-! DvEx3: a, b = a list. -/
namespace DV
open PySem L2
def tLstT (n : Nat) (t : List D → Env → Option Env) (d : D) (ρ : Env) : Option Env := match d with
  | .list ds => if ds.length = n then t ds ρ else none
  | _ => none
theorem tg_lst {K : Kf} {vs : List Nat} {gs : TGs} {t : List D → Env → Option Env} {n : Nat} (h : TgsD K vs gs t) : TgD K vs (gLst K n gs) (tLstT n t) := by
  intro c G ρ σ H d v ρ' R dv e Q q
  cases d with
  | list ds =>
    have e' : (if ds.length = n then t ds ρ else none) = some ρ' := e
    split at e'
    · rename_i hl
      unfold Dv at dv
      obtain ⟨a, ws, rfl, s, r⟩ := dv
      exact ⟨a, ws, rfl, sql_le R.le s, by rw [r.length]; exact hl, h c G ρ σ H ds ws ρ' R r e' Q q⟩
    · cases e'
  | _ => cases e
section
variable {X : Cx} {K : Kf}
theorem kg_lst (K : Kf) {X : Cx} {es : List Expr} {k : Nat} {t : TGs} {n : Nat} {pos : Pos} (hc : X.calm = true) (h : PGs X es t) (e : X.K = K := by rfl)
    (hn : (assignEach es X.env).length = n := by rfl) (hst : (assignEach es X.env).findIdx? (·.1) = none := by rfl) : PG X (.Tuple es k pos) (gLst K n t) := by subst e; exact pg_lst hc h hn hst
end
end DV

set_option Elab.async false
set_option linter.all false
set_option maxRecDepth 100000
set_option maxHeartbeats 1000000
set_option autoImplicit false
/-! LoA: the mirrors, lowered to plain functions with no slots. -/
namespace DV
open PySem L2
/-- what a plain function comes to -/
inductive Px (α : Type) where
  | ok (a : α)
  | rz (e : Exn)
  | no
namespace Px
def bind {α β : Type} (x : Px α) (f : α → Px β) : Px β := match x with
  | .ok a => f a
  | .rz e => .rz e
  | .no => .no
@[simp] theorem bind_ok {α β : Type} (a : α) (f : α → Px β) : (Px.ok a).bind f = f a := (rfl)
@[simp] theorem bind_no {α β : Type} (f : α → Px β) : (Px.no : Px α).bind f = .no := (rfl)
@[simp] theorem bind_rz {α β : Type} (e : Exn) (f : α → Px β) : (Px.rz e : Px α).bind f = .rz e := (rfl)
theorem bind_assoc {α β γ : Type} (x : Px α) (f : α → Px β) (g : β → Px γ) : (x.bind f).bind g = x.bind fun a => (f a).bind g := by cases x <;> rfl
theorem bind_ok_right {α : Type} (x : Px α) : x.bind (fun a => .ok a) = x := by cases x <;> rfl
end Px
def ofO {α : Type} : Option α → Px α
  | some d => .ok d
  | none => .no
@[simp] theorem ofO_some {α : Type} (d : α) : ofO (some d) = .ok d := (rfl)
@[simp] theorem ofO_none {α : Type} : ofO (none : Option α) = .no := (rfl)
def asB : D → Px Bool
  | .bool b => .ok b
  | _ => .no
@[simp] theorem asB_bool (b : Bool) : asB (.bool b) = .ok b := (rfl)
def un2 : D → Px (D × D)
  | .tuple [a, b] => .ok (a, b)
  | _ => .no
@[simp] theorem un2_eq (a b : D) : un2 (.tuple [a, b]) = .ok (a, b) := (rfl)
def unL2 : D → Px (D × D)
  | .list [a, b] => .ok (a, b)
  | _ => .no
@[simp] theorem unL2_eq (a b : D) : unL2 (.list [a, b]) = .ok (a, b) := (rfl)
def un3 : D → Px (D × D × D)
  | .tuple [a, b, c] => .ok (a, b, c)
  | _ => .no
@[simp] theorem un3_eq (a b c : D) : un3 (.tuple [a, b, c]) = .ok (a, b, c) := (rfl)
def un5 : D → Px (D × D × D × D × D)
  | .tuple [a, b, c, d, e] => .ok (a, b, c, d, e)
  | _ => .no
@[simp] theorem un5_eq (a b c d e : D) : un5 (.tuple [a, b, c, d, e]) = .ok (a, b, c, d, e) := (rfl)
def dkD (kvs : List (Key × D)) : D := .dict (kvs.map fun p => (keyD p.1, p.2))
/-- loops -/
def loopP {σ : Type} (b : σ → D → Px σ) : List D → σ → Px σ
  | [], s => .ok s
  | d :: ds, s => (b s d).bind fun s' => loopP b ds s'
inductive Stp (σ ω : Type) where
  | nx (s : σ)
  | br (s : σ)
  | rt (w : ω)
def loopE {σ ω : Type} (b : σ → D → Px (Stp σ ω)) : List D → σ → Px (σ ⊕ ω)
  | [], s => .ok (.inl s)
  | d :: ds, s => (b s d).bind fun r => match r with
    | .nx s' => loopE b ds s'
    | .br s' => .ok (.inl s')
    | .rt w => .ok (.inr w)
def whileP {σ : Type} (t : σ → Px Bool) (b : σ → Px σ) : Nat → σ → Px σ
  | 0, _ => .no
  | n + 1, s => (t s).bind fun c => if c then (b s).bind fun s' => whileP t b n s' else .ok s
def whileE {σ ω : Type} (t : σ → Px Bool) (b : σ → Px (Stp σ ω)) : Nat → σ → Px (σ ⊕ ω)
  | 0, _ => .no
  | n + 1, s => (t s).bind fun c => if c then (b s).bind fun r => match r with
    | .nx s' => whileE t b n s'
    | .br s' => .ok (.inl s')
    | .rt w => .ok (.inr w)
    else .ok (.inl s)
/-- comprehensions: an item, a test with it -/
def compP (b : D → Px (Option D)) : List D → List D → Px (List D)
  | [], acc => .ok acc
  | d :: ds, acc => (b d).bind fun r => match r with
    | some e => if acc.length < lim then compP b ds (acc ++ [e]) else .no
    | none => compP b ds acc
/-- .. that change cells -/
def compS {σ : Type} (b : σ → D → Px (Option D × σ)) : List D → List D → σ → Px (List D × σ)
  | [], acc, s => .ok (acc, s)
  | d :: ds, acc, s => (b s d).bind fun r => match r.1 with
    | some e => if acc.length < lim then compS b ds (acc ++ [e]) r.2 else .no
    | none => compS b ds acc r.2

/-! ### patterns -/
inductive Pt where
  | dead
  | gone
  | im (d : D)
  | ow (b : Bool) (o : Own)
abbrev Pts := List Pt
def Fit1 (p : Pt) (a : Option A) : Prop := match p with
  | .dead => ∀ b o, a ≠ some (.own b o)
  | .gone => ∀ o, a ≠ some (.own true o)
  | .im d => a = some (.imm d)
  | .ow b o => a = some (.own b o)
def Fit (ps : Pts) (ρ : Env) : Prop := ps.length = ρ.length ∧ ∀ (i : Nat) p, ps[i]? = some p → ∃ a, ρ[i]? = some a ∧ Fit1 p a
inductive FitL : Pts → Env → Prop where
  | nil : FitL [] []
  | none {ps : Pts} {ρ : Env} (h : FitL ps ρ) : FitL (.dead :: ps) (none :: ρ)
  | im {ps : Pts} {ρ : Env} {d : D} (h : FitL ps ρ) : FitL (.im d :: ps) (some (.imm d) :: ρ)
  | ow {ps : Pts} {ρ : Env} {b : Bool} {o : Own} (h : FitL ps ρ) : FitL (.ow b o :: ps) (some (.own b o) :: ρ)
theorem FitL.fit {ps : Pts} {ρ : Env} (h : FitL ps ρ) : Fit ps ρ := by
  have cons : ∀ {p : Pt} {a : Option A} {ps : Pts} {ρ : Env}, Fit1 p a → Fit ps ρ → Fit (p :: ps) (a :: ρ) := fun h1 h2 =>
    ⟨by rw [List.length_cons, List.length_cons, h2.1], fun i q e => by
      cases i with
      | zero => cases e; exact ⟨_, rfl, h1⟩
      | succ i => exact h2.2 i q e⟩
  induction h with
  | nil => exact ⟨rfl, fun i p e => by simp at e⟩
  | none h ih => exact cons (fun _ _ e => nomatch e) ih
  | im h ih => exact cons rfl ih
  | ow h ih => exact cons rfl ih
theorem Fit.set {ps : Pts} {ρ : Env} (h : Fit ps ρ) {i : Nat} {p : Pt} {a : Option A} (q : Fit1 p a) : Fit (ps.set i p) (ρ.set i a) := by
  refine ⟨by rw [List.length_set, List.length_set]; exact h.1, fun j r e => ?_⟩
  rcases get_set e with ⟨rfl, rfl, hl⟩ | ⟨ne, e⟩
  · exact ⟨a, List.getElem?_set_self (by rw [← h.1]; exact hl), q⟩
  · rw [List.getElem?_set_ne ne]; exact h.2 j r e
theorem Fit.pI {ps : Pts} {ρ : Env} (h : Fit ps ρ) {i : Nat} {d : D} (e : ps[i]? = some (.im d)) : ρ[i]? = some (some (.imm d)) := by
  obtain ⟨a, e1, q⟩ := h.2 i _ e
  rw [e1, show a = some (.imm d) from q]
theorem Fit.pO {ps : Pts} {ρ : Env} (h : Fit ps ρ) {i : Nat} {b : Bool} {o : Own} (e : ps[i]? = some (.ow b o)) : ρ[i]? = some (some (.own b o)) := by
  obtain ⟨a, e1, q⟩ := h.2 i _ e
  rw [e1, show a = some (.own b o) from q]
def canP (ps : Pts) (i : Nat) : Bool := match ps[i]? with
  | some (.ow true _) => false
  | none => false
  | _ => true
theorem Fit.can {ps : Pts} {ρ : Env} (h : Fit ps ρ) {i : Nat} (e : canP ps i = true) : canSet ρ i = true := by
  unfold canP at e
  cases q : ps[i]? with
  | none => rw [q] at e; cases e
  | some p =>
    rw [q] at e
    obtain ⟨a, e1, f⟩ := h.2 i p q
    unfold canSet
    rw [e1]
    cases p with
    | dead => cases a with
      | none => rfl
      | some a => cases a with
        | own b o => exact absurd rfl (f b o)
        | _ => rfl
    | gone => cases a with
      | none => rfl
      | some a => cases a with
        | own b o => cases b with
          | true => exact absurd rfl (f o)
          | false => rfl
        | _ => rfl
    | im d => rw [show a = some (.imm d) from f]
    | ow b o =>
      rw [show a = some (.own b o) from f]
      cases b with
      | true => cases e
      | false => rfl
/-- no cell can stand there -/
def noP (ps : Pts) (i : Nat) : Bool := match ps[i]? with
  | some .dead => true
  | some (.im _) => true
  | _ => false
theorem Fit.no {ps : Pts} {ρ : Env} (h : Fit ps ρ) {i : Nat} (e : noP ps i = true) : noOwn ρ i = true := by
  unfold noP at e
  cases q : ps[i]? with
  | none => rw [q] at e; cases e
  | some p =>
    rw [q] at e
    obtain ⟨a, e1, f⟩ := h.2 i p q
    unfold noOwn
    rw [e1]
    cases p with
    | dead => cases a with
      | none => rfl
      | some a => cases a with
        | own b o => exact absurd rfl (f b o)
        | _ => rfl
    | im d => rw [show a = some (.imm d) from f]
    | _ => cases e
/-- less is known -/
inductive Wk : Pts → Pts → Prop where
  | nil : Wk [] []
  | same {p : Pt} {ps qs : Pts} (h : Wk ps qs) : Wk (p :: ps) (p :: qs)
  | dead {d : D} {ps qs : Pts} (h : Wk ps qs) : Wk (.im d :: ps) (.dead :: qs)
  | goneI {d : D} {ps qs : Pts} (h : Wk ps qs) : Wk (.im d :: ps) (.gone :: qs)
  | goneD {ps qs : Pts} (h : Wk ps qs) : Wk (.dead :: ps) (.gone :: qs)
  | goneO {o : Own} {ps qs : Pts} (h : Wk ps qs) : Wk (.ow false o :: ps) (.gone :: qs)
theorem Wk.refl : ∀ ps : Pts, Wk ps ps
  | [] => .nil
  | p :: ps => .same (Wk.refl ps)
theorem Wk.get {ps qs : Pts} (w : Wk ps qs) : ps.length = qs.length ∧ ∀ (i : Nat) q, qs[i]? = some q → ∃ p, ps[i]? = some p ∧ ∀ a, Fit1 p a → Fit1 q a := by
  have cons : ∀ {p q : Pt} {ps qs : Pts}, (∀ a, Fit1 p a → Fit1 q a) → (ps.length = qs.length ∧ ∀ (i : Nat) q, qs[i]? = some q → ∃ p, ps[i]? = some p ∧ ∀ a, Fit1 p a → Fit1 q a) → (p :: ps).length = (q :: qs).length ∧ ∀ (i : Nat) q', (q :: qs)[i]? = some q' → ∃ p', (p :: ps)[i]? = some p' ∧ ∀ a, Fit1 p' a → Fit1 q' a := fun h1 h2 =>
    ⟨by rw [List.length_cons, List.length_cons, h2.1], fun i q e => by
      cases i with
      | zero => cases e; exact ⟨_, rfl, h1⟩
      | succ i => exact h2.2 i q e⟩
  induction w with
  | nil => exact ⟨rfl, fun i q e => by simp at e⟩
  | same h ih => exact cons (fun _ z => z) ih
  | dead h ih => exact cons (fun a (z : a = _) => by subst z; exact fun _ _ e => nomatch e) ih
  | goneI h ih => exact cons (fun a (z : a = _) => by subst z; exact fun _ e => nomatch e) ih
  | goneD h ih => exact cons (fun a (z : ∀ b o, _) o => z true o) ih
  | goneO h ih => exact cons (fun a (z : a = _) => by subst z; exact fun _ e => nomatch e) ih
theorem Wk.fit {ps qs : Pts} (w : Wk ps qs) {ρ : Env} (h : Fit ps ρ) : Fit qs ρ := by
  obtain ⟨l, g⟩ := w.get
  refine ⟨by rw [← l]; exact h.1, fun i q e => ?_⟩
  obtain ⟨p, e1, f⟩ := g i q e
  obtain ⟨a, e2, z⟩ := h.2 i p e1
  exact ⟨a, e2, f a z⟩

/-! ### the judgement -/
def Good {α ω : Type} (F : ω → α → Env → Prop) (r : Rs α) : Px ω → Prop
  | .ok w => ∃ a ρ, r = .ok a ρ ∧ F w a ρ
  | _ => True
/-- a run of f, whatever comes behind it: J says what is left to be shown -/
def RO {β ω : Type} (ps : Pts) (f : Md β) (J : β → Pts → Px ω → Prop) (X : Px ω) : Prop :=
  ∀ (α : Type) (F : ω → α → Env → Prop) (ρ : Env) (K : β → Md α), Fit ps ρ → (∀ b ps' X' ρ', J b ps' X' → Fit ps' ρ' → Good F (K b ρ') X') → Good F (Md.bind f K ρ) X
section
variable {β γ ω : Type} {ps ps' : Pts} {X : Px ω}
theorem RO.at {f : Md β} {J : β → Pts → Px ω → Prop} {b : β} (h : ∀ ρ, Fit ps ρ → ∃ ρ', f ρ = .ok b ρ' ∧ Fit ps' ρ') (hJ : J b ps' X) : RO ps f J X := by
  intro α F ρ K hf hk
  obtain ⟨ρ', e, hf'⟩ := h ρ hf
  unfold Md.bind
  rw [e]
  exact hk b ps' X ρ' hJ hf'
theorem RO.bind {f : Md β} {g : β → Md γ} {J : γ → Pts → Px ω → Prop} (h : RO ps f (fun b ps1 X1 => RO ps1 (g b) J X1) X) : RO ps (Md.bind f g) J X := by
  intro α F ρ K hf hk
  have e : Md.bind (Md.bind f g) K ρ = Md.bind f (fun b => Md.bind (g b) K) ρ := by
    unfold Md.bind
    cases f ρ <;> rfl
  rw [e]
  exact h α F ρ _ hf fun b ps1 X1 ρ1 hj hf1 => hj α F ρ1 K hf1 hk
theorem RO.mono {f : Md β} {J J' : β → Pts → Px ω → Prop} (h : RO ps f J X) (m : ∀ b ps1 X1, J b ps1 X1 → J' b ps1 X1) : RO ps f J' X :=
  fun α F ρ K hf hk => h α F ρ K hf fun b ps1 X1 ρ1 hj => hk b ps1 X1 ρ1 (m _ _ _ hj)
theorem RO.cast {f : Md β} {J : β → Pts → Px ω → Prop} (e : ps = ps') (h : RO ps' f J X) : RO ps f J X := by rw [e]; exact h
theorem RO.weak {f : Md β} {J : β → Pts → Px ω → Prop} (w : Wk ps ps') (h : RO ps' f J X) : RO ps f J X :=
  fun α F ρ K hf hk => h α F ρ K (w.fit hf) hk
/-- a part of its own: Z -/
theorem RO.part {τ : Type} {f : Md β} {J : β → Pts → Px ω → Prop} {Z : Px τ} {Y : τ → Px ω} (v : τ → β) (P : τ → Pts) (h : ∀ ρ, Fit ps ρ → Good (fun t b ρ' => b = v t ∧ Fit (P t) ρ') (f ρ) Z) (hJ : ∀ t, J (v t) (P t) (Y t)) : RO ps f J (Z.bind Y) := by
  intro α F ρ K hf hk
  have := h ρ hf
  cases Z with
  | ok t =>
    obtain ⟨b, ρ', e, rfl, hf'⟩ := this
    unfold Md.bind
    rw [e]
    exact hk _ _ _ ρ' (hJ t) hf'
  | rz e => exact trivial
  | no => exact trivial
theorem RO.run {f : Md β} {J : β → Pts → Px ω → Prop} (h : RO ps f J X) {ρ : Env} (hf : Fit ps ρ) : Good (fun w b ρ' => ∃ ps', J b ps' (.ok w) ∧ Fit ps' ρ') (f ρ) X := by
  have := h β (fun w b ρ' => ∃ ps', J b ps' (.ok w) ∧ Fit ps' ρ') ρ (fun b => Md.ret b) hf fun b ps' X' ρ' hj hf' => by
    cases X' with
    | ok w => exact ⟨b, ρ', rfl, ps', hj, hf'⟩
    | rz e => exact trivial
    | no => exact trivial
  unfold Md.bind at this
  cases e : f ρ with
  | ok b ρ' => rw [e] at this; exact this
  | raise x ρ' =>
    rw [e] at this
    cases X with
    | ok w => obtain ⟨_, _, z, _⟩ := this; cases z
    | rz e => exact trivial
    | no => exact trivial
  | stuck =>
    rw [e] at this
    cases X with
    | ok w => obtain ⟨_, _, z, _⟩ := this; cases z
    | rz e => exact trivial
    | no => exact trivial
/-- .. shown as a run -/
theorem RO.sub {τ : Type} {f : Md β} {J : β → Pts → Px ω → Prop} {Z : Px τ} {Y : τ → Px ω} (v : τ → β) (P : τ → Pts) (h : RO ps f (fun b ps' X' => ∃ t, X' = .ok t ∧ b = v t ∧ Wk ps' (P t)) Z) (hJ : ∀ t, J (v t) (P t) (Y t)) : RO ps f J (Z.bind Y) :=
  RO.part v P (fun ρ hf => by
    have := h.run hf
    cases Z with
    | ok t =>
      obtain ⟨b, ρ', e, ps', ⟨t', et, eb, w⟩, hf'⟩ := this
      cases et
      exact ⟨b, ρ', e, eb, w.fit hf'⟩
    | rz e => exact trivial
    | no => exact trivial) hJ
end

/-! ### operands -/
def rdP (ps : Pts) : Opd → Option D
  | .dat d => some d
  | .slot i => match ps[i]? with
    | some (.im d) => some d
    | some (.ow _ o) => ownD o
    | _ => none
def imP (ps : Pts) : Opd → Option D
  | .dat d => some d
  | .slot i => match ps[i]? with
    | some (.im d) => some d
    | _ => none
theorem Fit.rd {ps : Pts} {ρ : Env} (h : Fit ps ρ) {o : Opd} {d : D} (e : rdP ps o = some d) : rs ρ o = some d := by
  cases o with
  | dat d => exact e
  | slot i =>
    simp only [rdP] at e
    simp only [rs]
    cases q : ps[i]? with
    | none => rw [q] at e; cases e
    | some p =>
      rw [q] at e
      cases p with
      | im d => rw [h.pI q]; exact e
      | ow b o => rw [h.pO q]; exact e
      | _ => cases e
theorem Fit.imm {ps : Pts} {ρ : Env} (h : Fit ps ρ) {o : Opd} {d : D} (e : imP ps o = some d) : im ρ o = some d := by
  cases o with
  | dat d => exact e
  | slot i =>
    simp only [imP] at e
    simp only [im]
    cases q : ps[i]? with
    | none => rw [q] at e; cases e
    | some p =>
      rw [q] at e
      cases p with
      | im d => rw [h.pI q]; exact e
      | _ => cases e
abbrev JO (ω : Type) := Opd → Pts → Px ω → Prop
section
variable {ω : Type} {ps : Pts} {X : Px ω}
theorem ro_c {d : D} {J : JO ω} (hJ : J (.dat d) ps X) : RO ps (mC d) J X := RO.at (fun ρ h => ⟨ρ, rfl, h⟩) hJ
theorem ro_var {i : Nat} {d : D} {J : JO ω} (e : ps[i]? = some (.im d)) (hJ : J (.dat d) ps X) : RO ps (mVar i) J X :=
  RO.at (fun ρ h => ⟨ρ, by unfold mVar; rw [h.pI e], h⟩) hJ
theorem ro_own {i : Nat} {b : Bool} {o : Own} {J : JO ω} (e : ps[i]? = some (.ow b o)) (hJ : J (.slot i) ps X) : RO ps (mVar i) J X :=
  RO.at (fun ρ h => ⟨ρ, by unfold mVar; rw [h.pO e], h⟩) hJ
theorem ro_frzI {i : Nat} {d : D} {J : JO ω} (e : ps[i]? = some (.im d)) (hJ : J (.dat d) ps X) : RO ps (mFrzV i) J X :=
  RO.at (fun ρ h => ⟨ρ, by unfold mFrzV; rw [h.pI e], h⟩) hJ
theorem ro_frzO {i : Nat} {o : Own} {d : D} {J : JO ω} (e : ps[i]? = some (.ow false o)) (ed : ownD o = some d) (hJ : J (.dat d) (ps.set i (.im d)) X) : RO ps (mFrzV i) J X :=
  RO.at (fun ρ h => ⟨_, by unfold mFrzV; rw [h.pO e]; simp only [ed], h.set (p := .im d) (a := some (.imm d)) rfl⟩) hJ
theorem RO.optv {α β : Type} {o : Option α} {Y : β → Px ω} {g : α → Opd} {J : JO ω} {f : Md Opd} {Z : Option β} (P : Pts) (v : β → Opd) (h : ∀ ρ, Fit ps ρ → ∀ t, Z = some t → ∃ ρ', f ρ = .ok (v t) ρ' ∧ Fit P ρ') (hJ : ∀ t, J (v t) P (Y t)) : RO ps f J ((ofO Z).bind Y) :=
  RO.part v (fun _ => P) (fun ρ hf => by
    cases Z with
    | none => exact trivial
    | some t =>
      obtain ⟨ρ', e, hf'⟩ := h ρ hf t rfl
      exact ⟨_, ρ', e, rfl, hf'⟩) hJ
/-- what is left behind two operands -/
abbrev JO2 (g : D → D → Option D) (J : JO ω) (o1 o2 : Opd) (ps : Pts) (X : Px ω) : Prop := ∃ d1 d2 Y, rdP ps o1 = some d1 ∧ rdP ps o2 = some d2 ∧ X = (ofO (g d1 d2)).bind Y ∧ ∀ d, J (.dat d) ps (Y d)
theorem ro_m2 {g : D → D → Option D} {fa fb : Md Opd} {J : JO ω} (h : RO ps fa (fun o1 ps1 X1 => RO ps1 fb (fun o2 ps2 X2 => JO2 g J o1 o2 ps2 X2) X1) X) : RO ps (m2 g fa fb) J X := by
  refine RO.bind (h.mono fun o1 ps1 X1 h1 => RO.bind (h1.mono fun o2 ps2 X2 h2 => ?_))
  obtain ⟨d1, d2, Y, e1, e2, rfl, hJ⟩ := h2
  exact RO.optv (o := none (α := D)) (g := fun _ => .dat .none) ps2 (fun d => .dat d) (fun ρ hf t et => ⟨ρ, by simp only [hf.rd e1, hf.rd e2, et, Option.bind_eq_bind, Option.bind_some, Option.pure_def, Md.opt, Md.ret], hf⟩) hJ
abbrev JO1 (g : D → Option D) (J : JO ω) (o1 : Opd) (ps : Pts) (X : Px ω) : Prop := ∃ d1 Y, rdP ps o1 = some d1 ∧ X = (ofO (g d1)).bind Y ∧ ∀ d, J (.dat d) ps (Y d)
theorem ro_m1 {g : D → Option D} {fa : Md Opd} {J : JO ω} (h : RO ps fa (fun o1 ps1 X1 => JO1 g J o1 ps1 X1) X) : RO ps (m1 g fa) J X := by
  refine RO.bind (h.mono fun o1 ps1 X1 h1 => ?_)
  obtain ⟨d1, Y, e1, rfl, hJ⟩ := h1
  exact RO.optv (o := none (α := D)) (g := fun _ => .dat .none) ps1 (fun d => .dat d) (fun ρ hf t et => ⟨ρ, by simp only [hf.rd e1, et, Option.bind_eq_bind, Option.bind_some, Option.pure_def, Md.opt, Md.ret], hf⟩) hJ
/-! tests -/
abbrev JT (ω : Type) := Bool → Pts → Px ω → Prop
abbrev JTB (J : JT ω) (o : Opd) (ps : Pts) (X : Px ω) : Prop := ∃ d Y, o = .dat d ∧ X = (asB d).bind Y ∧ ∀ b, J b ps (Y b)
theorem ro_mT {f : Md Opd} {J : JT ω} (h : RO ps f (fun o ps1 X1 => JTB J o ps1 X1) X) : RO ps (mT f) J X := by
  refine RO.bind (h.mono fun o ps1 X1 h1 => ?_)
  obtain ⟨d, Y, rfl, rfl, hJ⟩ := h1
  refine RO.part (fun b => b) (fun _ => ps1) (fun ρ hf => ?_) hJ
  cases d with
  | bool b => exact ⟨b, ρ, rfl, rfl, hf⟩
  | _ => exact trivial
theorem ro_notT {f : Md Bool} {J : JT ω} (h : RO ps f (fun b ps1 X1 => J (!b) ps1 X1) X) : RO ps (mNotT f) J X :=
  RO.bind (h.mono fun b ps1 X1 h1 => RO.at (fun ρ hf => ⟨ρ, rfl, hf⟩) h1)
/-- the branches of a test -/
abbrev JB {β : Type} (f g : Md β) (J : β → Pts → Px ω → Prop) (b : Bool) (ps : Pts) (X : Px ω) : Prop := ∃ X1 X2, X = (if b = true then X1 else X2) ∧ RO ps f J X1 ∧ RO ps g J X2
theorem jb_ro {β : Type} {f g : Md β} {J : β → Pts → Px ω → Prop} {b : Bool} (h : JB f g J b ps X) : RO ps (if b = true then f else g) J X := by
  obtain ⟨X1, X2, rfl, h1, h2⟩ := h
  cases b with
  | true => exact h1
  | false => exact h2
theorem ro_mIf {β : Type} {t : Md Bool} {f g : Md β} {J : β → Pts → Px ω → Prop} (h : RO ps t (fun b ps1 X1 => JB f g J b ps1 X1) X) : RO ps (mIf t f g) J X :=
  RO.bind (h.mono fun b ps1 X1 h1 => jb_ro h1)
theorem ro_andT {f g : Md Bool} {J : JT ω} (h : RO ps f (fun b ps1 X1 => JB g (Md.ret false) J b ps1 X1) X) : RO ps (mAndT f g) J X :=
  RO.bind (h.mono fun b ps1 X1 h1 => jb_ro h1)
theorem ro_orT {f g : Md Bool} {J : JT ω} (h : RO ps f (fun b ps1 X1 => JB (Md.ret true) g J b ps1 X1) X) : RO ps (mOrT f g) J X :=
  RO.bind (h.mono fun b ps1 X1 h1 => jb_ro h1)
theorem ro_ret {β : Type} {b : β} {J : β → Pts → Px ω → Prop} (h : J b ps X) : RO ps (Md.ret b) J X := RO.at (fun ρ hf => ⟨ρ, rfl, hf⟩) h
/-- a test that is plain -/
theorem ro_mTB {f : Md Opd} {J : JT ω} (h : RO ps f (fun o ps1 X1 => ∃ b, o = .dat (.bool b) ∧ J b ps1 X1) X) : RO ps (mT f) J X := by
  refine RO.bind (h.mono fun o ps1 X1 h1 => ?_)
  obtain ⟨b, rfl, hJ⟩ := h1
  exact RO.at (fun ρ hf => ⟨ρ, rfl, hf⟩) hJ
theorem ro_andJ {f g : Md Bool} {J : JT ω} (h : RO ps f (fun b ps1 X1 => ∃ (X' : Px Bool) (Y : Bool → Px ω), X1 = (if b = true then X' else .ok false).bind Y ∧ RO ps1 g (fun b' ps' X'' => X'' = .ok b' ∧ Wk ps' ps1) X' ∧ ∀ b', J b' ps1 (Y b')) X) : RO ps (mAndT f g) J X := by
  refine RO.bind (h.mono fun b ps1 X1 h1 => ?_)
  obtain ⟨X', Y, rfl, hg, hJ⟩ := h1
  cases b with
  | true => exact RO.sub (fun b => b) (fun _ => ps1) (hg.mono fun b' ps' X'' ⟨e, w⟩ => ⟨b', e, rfl, w⟩) hJ
  | false => exact ro_ret (hJ false)
theorem ro_orJ {f g : Md Bool} {J : JT ω} (h : RO ps f (fun b ps1 X1 => ∃ (X' : Px Bool) (Y : Bool → Px ω), X1 = (if b = true then .ok true else X').bind Y ∧ RO ps1 g (fun b' ps' X'' => X'' = .ok b' ∧ Wk ps' ps1) X' ∧ ∀ b', J b' ps1 (Y b')) X) : RO ps (mOrT f g) J X := by
  refine RO.bind (h.mono fun b ps1 X1 h1 => ?_)
  obtain ⟨X', Y, rfl, hg, hJ⟩ := h1
  cases b with
  | false => exact RO.sub (fun b => b) (fun _ => ps1) (hg.mono fun b' ps' X'' ⟨e, w⟩ => ⟨b', e, rfl, w⟩) hJ
  | true => exact ro_ret (hJ true)
theorem ro_andVJ {f g : Md Opd} {J : JO ω} (h : RO ps (mT f) (fun b ps1 X1 => ∃ (X' : Px D) (Y : D → Px ω), X1 = (if b = true then X' else .ok (.bool false)).bind Y ∧ RO ps1 g (fun o ps' X'' => ∃ d, X'' = .ok d ∧ o = .dat d ∧ Wk ps' ps1) X' ∧ ∀ d, J (.dat d) ps1 (Y d)) X) : RO ps (mAndV f g) J X := by
  refine RO.bind (h.mono fun b ps1 X1 h1 => ?_)
  obtain ⟨X', Y, rfl, hg, hJ⟩ := h1
  cases b with
  | true => exact RO.sub (fun d => .dat d) (fun _ => ps1) hg hJ
  | false => exact ro_c (hJ _)
theorem ro_orVJ {f g : Md Opd} {J : JO ω} (h : RO ps (mT f) (fun b ps1 X1 => ∃ (X' : Px D) (Y : D → Px ω), X1 = (if b = true then .ok (.bool true) else X').bind Y ∧ RO ps1 g (fun o ps' X'' => ∃ d, X'' = .ok d ∧ o = .dat d ∧ Wk ps' ps1) X' ∧ ∀ d, J (.dat d) ps1 (Y d)) X) : RO ps (mOrV f g) J X := by
  refine RO.bind (h.mono fun b ps1 X1 h1 => ?_)
  obtain ⟨X', Y, rfl, hg, hJ⟩ := h1
  cases b with
  | false => exact RO.sub (fun d => .dat d) (fun _ => ps1) hg hJ
  | true => exact ro_c (hJ _)
theorem ro_ifJ {t : Md Bool} {f g : Md Opd} {J : JO ω} (h : RO ps t (fun b ps1 X1 => ∃ (X1' X2' : Px D) (Y : D → Px ω), X1 = (if b = true then X1' else X2').bind Y ∧ RO ps1 f (fun o ps' X' => ∃ d, X' = .ok d ∧ o = .dat d ∧ Wk ps' ps1) X1' ∧ RO ps1 g (fun o ps' X' => ∃ d, X' = .ok d ∧ o = .dat d ∧ Wk ps' ps1) X2' ∧ ∀ d, J (.dat d) ps1 (Y d)) X) : RO ps (mIf t f g) J X := by
  refine RO.bind (h.mono fun b ps1 X1 h1 => ?_)
  obtain ⟨X1', X2', Y, rfl, ha, hb, hJ⟩ := h1
  cases b with
  | true => exact RO.sub (fun d => .dat d) (fun _ => ps1) ha hJ
  | false => exact RO.sub (fun d => .dat d) (fun _ => ps1) hb hJ
theorem ro_andV {f g : Md Opd} {J : JO ω} (h : RO ps (mT f) (fun b ps1 X1 => JB g (mC (.bool false)) J b ps1 X1) X) : RO ps (mAndV f g) J X :=
  RO.bind (h.mono fun b ps1 X1 h1 => jb_ro h1)
theorem ro_orV {f g : Md Opd} {J : JO ω} (h : RO ps (mT f) (fun b ps1 X1 => JB (mC (.bool true)) g J b ps1 X1) X) : RO ps (mOrV f g) J X :=
  RO.bind (h.mono fun b ps1 X1 h1 => jb_ro h1)
theorem ro_notV {f : Md Opd} {J : JO ω} (h : RO ps (mT f) (fun b ps1 X1 => J (.dat (.bool !b)) ps1 X1) X) : RO ps (mNotV f) J X :=
  RO.bind (h.mono fun b ps1 X1 h1 => ro_c h1)
/-- a < b < c: the operands in turn -/
abbrev JCh (g g' : D → D → Option D) (fc : Md Opd) (J : JO ω) (o1 o2 : Opd) (ps : Pts) (X : Px ω) : Prop := ∃ (d1 d2 : D) (Y : Bool → Px ω), rdP ps o1 = some d1 ∧ imP ps o2 = some d2 ∧ X = (ofO (g d1 d2)).bind (fun d => (asB d).bind fun b => Y b) ∧ ∃ X1 X2, (∀ b, Y b = if b = true then X1 else X2) ∧ RO ps fc (fun o3 ps3 X3 => ∃ d3 Y3, rdP ps3 o3 = some d3 ∧ X3 = (ofO (g' d2 d3)).bind Y3 ∧ ∀ d, J (.dat d) ps3 (Y3 d)) X1 ∧ J (.dat (.bool false)) ps X2
theorem ro_chain {g g' : D → D → Option D} {fa fb fc : Md Opd} {J : JO ω} (h : RO ps fa (fun o1 ps1 X1 => RO ps1 fb (fun o2 ps2 X2 => JCh g g' fc J o1 o2 ps2 X2) X1) X) : RO ps (mChain g g' fa fb fc) J X := by
  refine RO.bind (h.mono fun o1 ps1 X1 h1 => RO.bind (h1.mono fun o2 ps2 X2 h2 => ?_))
  obtain ⟨d1, d2, Y, e1, e2, rfl, X3, X4, hY, hc, hn⟩ := h2
  intro α F ρ K hf hk
  cases hg : g d1 d2 with
  | none => exact trivial
  | some d =>
    cases d with
    | bool b =>
      have ev : (do let x1 ← rs ρ o1; let x2 ← im ρ o2; let d ← g x1 x2; pure (d, x2) : Option (D × D)) = some (.bool b, d2) := by
        simp only [hf.rd e1, hf.imm e2, hg, Option.bind_eq_bind, Option.bind_some, Option.pure_def]
      show Good F (Md.bind _ K ρ) (Y b)
      rw [hY b]
      cases b with
      | true =>
        have := (RO.bind (g := fun o3 ρ' => Md.opt (do let d3 ← rs ρ' o3; let d ← g' d2 d3; pure (Opd.dat d)) ρ') (J := J) (hc.mono fun o3 ps3 X3 h3 => by
          obtain ⟨d3, Y3, e3, rfl, hJ⟩ := h3
          exact RO.optv (o := none (α := D)) (g := fun _ => .dat .none) ps3 (fun d => .dat d) (fun ρ hf t et => ⟨ρ, by simp only [hf.rd e3, et, Option.bind_eq_bind, Option.bind_some, Option.pure_def, Md.opt, Md.ret], hf⟩) hJ)) α F ρ K hf hk
        unfold Md.bind at this ⊢
        simp only [ev]
        exact this
      | false =>
        unfold Md.bind
        simp only [ev]
        exact hk _ _ _ ρ hn hf
    | _ => exact trivial
theorem RO.bindR {β τ : Type} {f : Md β} {J' : β → Pts → Px τ → Prop} {J : β → Pts → Px ω → Prop} {X' : Px τ} {Y : τ → Px ω} (h : RO ps f J' X') (m : ∀ b ps' X3, J' b ps' X3 → J b ps' (X3.bind Y)) : RO ps f J (X'.bind Y) := by
  intro α F ρ K hf hk
  have := h.run hf
  cases X' with
  | ok w =>
    obtain ⟨b, ρ', e, ps', hj, hf'⟩ := this
    have hb := hk b ps' _ ρ' (m b ps' _ hj) hf'
    unfold Md.bind
    rw [e]
    exact hb
  | rz e => exact trivial
  | no => exact trivial
theorem ro_chainJ {g g' : D → D → Option D} {fa fb fc : Md Opd} {J : JO ω} (h : RO ps fa (fun o1 ps1 X1 => RO ps1 fb (fun o2 ps2 X2 => ∃ (d1 d2 : D) (X' : Px D) (Y : D → Px ω), rdP ps2 o1 = some d1 ∧ imP ps2 o2 = some d2 ∧ X2 = (ofO (g d1 d2)).bind (fun d => (asB d).bind fun b => (if b = true then X' else .ok (.bool false)).bind Y) ∧ RO ps2 fc (fun o3 ps3 X3 => ps3 = ps2 ∧ ∃ d3, rdP ps3 o3 = some d3 ∧ X3 = ofO (g' d2 d3)) X' ∧ ∀ d, J (.dat d) ps2 (Y d)) X1) X) : RO ps (mChain g g' fa fb fc) J X :=
  ro_chain (h.mono fun o1 ps1 X1 h1 => h1.mono fun o2 ps2 X2 ⟨d1, d2, X', Y, e1, e2, eX, hc, hJ⟩ => ⟨d1, d2, fun b => (if b = true then X' else .ok (.bool false)).bind Y, e1, e2, eX, X'.bind Y, Y (.bool false), fun b => by cases b <;> rfl, RO.bindR hc fun o3 ps3 X3 ⟨ep, d3, e3, ex⟩ => ⟨d3, Y, e3, by rw [ex], fun d => by rw [ep]; exact hJ d⟩, hJ _⟩)
/-! arguments -/
abbrev JA (ω : Type) := List Opd → Pts → Px ω → Prop
theorem ra_nil {J : JA ω} (h : J [] ps X) : RO ps mNil J X := ro_ret h
theorem ra_cons {f : Md Opd} {fr : Md (List Opd)} {J : JA ω} (h : RO ps f (fun o ps1 X1 => RO ps1 fr (fun os ps2 X2 => J (o :: os) ps2 X2) X1) X) : RO ps (mCons f fr) J X :=
  RO.bind (h.mono fun o ps1 X1 h1 => RO.bind (h1.mono fun os ps2 X2 h2 => ro_ret h2))
def rdPs (ps : Pts) : List Opd → Option (List D)
  | [] => some []
  | o :: os => match rdP ps o, rdPs ps os with
    | some d, some ds => some (d :: ds)
    | _, _ => none
def imPs (ps : Pts) : List Opd → Option (List D)
  | [] => some []
  | o :: os => match imP ps o, imPs ps os with
    | some d, some ds => some (d :: ds)
    | _, _ => none
theorem Fit.rds {ps : Pts} {ρ : Env} (h : Fit ps ρ) : ∀ {os : List Opd} {ds : List D}, rdPs ps os = some ds → rss ρ os = some ds
  | [], ds, e => e
  | o :: os, ds, e => by
    unfold rdPs at e
    split at e
    · rename_i d ds' e1 e2
      cases e
      unfold rss
      simp only [h.rd e1, Fit.rds h e2, Option.bind_eq_bind, Option.bind_some, Option.pure_def]
    · cases e
theorem Fit.imms {ps : Pts} {ρ : Env} (h : Fit ps ρ) : ∀ {os : List Opd} {ds : List D}, imPs ps os = some ds → ims ρ os = some ds
  | [], ds, e => e
  | o :: os, ds, e => by
    unfold imPs at e
    split at e
    · rename_i d ds' e1 e2
      cases e
      unfold ims
      simp only [h.imm e1, Fit.imms h e2, Option.bind_eq_bind, Option.bind_some, Option.pure_def]
    · cases e
/-- a display: short -/
abbrev JIt {β : Type} (v : List D → β) (J : β → Pts → Px ω → Prop) (os : List Opd) (ps : Pts) (X : Px ω) : Prop := ∃ ds, imPs ps os = some ds ∧ ds.length ≤ 100 ∧ J (v ds) ps X
theorem ro_items {fa : Md (List Opd)} {J : List D → Pts → Px ω → Prop} (h : RO ps fa (fun os ps1 X1 => JIt (fun ds => ds) J os ps1 X1) X) : RO ps (mItems fa) J X := by
  refine RO.bind (h.mono fun os ps1 X1 h1 => ?_)
  obtain ⟨ds, e, l, hJ⟩ := h1
  exact RO.at (fun ρ hf => ⟨ρ, by simp only [hf.imms e, Option.bind_eq_bind, Option.bind_some, Option.pure_def, if_pos (Nat.le_trans l (by decide : 100 ≤ lim)), Md.opt, Md.ret], hf⟩) hJ
theorem ro_tup {fa : Md (List Opd)} {J : JO ω} (h : RO ps fa (fun os ps1 X1 => JIt (fun ds => .dat (.tuple ds)) J os ps1 X1) X) : RO ps (mTup fa) J X :=
  RO.bind (ro_items (J := fun ds ps X => RO ps (mC (.tuple ds)) J X) (h.mono fun os ps1 X1 ⟨ds, e, l, hJ⟩ => ⟨ds, e, l, ro_c hJ⟩))
theorem ro_lst {fa : Md (List Opd)} {J : JO ω} (h : RO ps fa (fun os ps1 X1 => JIt (fun ds => .dat (.list ds)) J os ps1 X1) X) : RO ps (mLst fa) J X :=
  RO.bind (ro_items (J := fun ds ps X => RO ps (mC (.list ds)) J X) (h.mono fun os ps1 X1 ⟨ds, e, l, hJ⟩ => ⟨ds, e, l, ro_c hJ⟩))
abbrev JN (ω : Type) := Own → Pts → Px ω → Prop
theorem rn_lst {fa : Md (List Opd)} {J : JN ω} (h : RO ps fa (fun os ps1 X1 => JIt (fun ds => Own.lst ds) J os ps1 X1) X) : RO ps (mLstN fa) J X :=
  RO.bind (ro_items (J := fun ds ps X => RO ps (Md.ret (Own.lst ds)) J X) (h.mono fun os ps1 X1 ⟨ds, e, l, hJ⟩ => ⟨ds, e, l, ro_ret hJ⟩))
theorem rn_dict {J : JN ω} (h : J (.dK []) ps X) : RO ps mDict J X := ro_ret h
theorem rn_dictT {J : JN ω} (h : J (.dT []) ps X) : RO ps mDictT J X := ro_ret h
theorem ro_frz {f : Md Own} {J : JO ω} (h : RO ps f (fun o ps1 X1 => ∃ d, ownD o = some d ∧ J (.dat d) ps1 X1) X) : RO ps (mFrz f) J X := by
  refine RO.bind (h.mono fun o ps1 X1 h1 => ?_)
  obtain ⟨d, e, hJ⟩ := h1
  exact RO.at (fun ρ hf => ⟨ρ, by rw [e]; rfl, hf⟩) hJ
theorem ro_call {g : List D → Option D} {fa : Md (List Opd)} {J : JO ω} (h : RO ps fa (fun os ps1 X1 => ∃ ds Y, rdPs ps1 os = some ds ∧ X1 = (ofO (g ds)).bind Y ∧ ∀ d, J (.dat d) ps1 (Y d)) X) : RO ps (mCall g fa) J X := by
  refine RO.bind (h.mono fun os ps1 X1 h1 => ?_)
  obtain ⟨ds, Y, e, rfl, hJ⟩ := h1
  exact RO.optv (o := none (α := D)) (g := fun _ => .dat .none) ps1 (fun d => .dat d) (fun ρ hf t et => ⟨ρ, by simp only [hf.rds e, et, Option.bind_eq_bind, Option.bind_some, Option.pure_def, Md.opt, Md.ret], hf⟩) hJ
def lstO : Option Own → Option (List D)
  | some (.lst ds) => some ds
  | _ => none
/-- .. that gives a new list -/
theorem rn_call {g : List D → Option Own} {fa : Md (List Opd)} {J : JN ω} (h : RO ps fa (fun os ps1 X1 => ∃ ds Y, rdPs ps1 os = some ds ∧ X1 = (ofO (lstO (g ds))).bind Y ∧ ∀ d, J (.lst d) ps1 (Y d)) X) : RO ps (mCallN g fa) J X := by
  refine RO.bind (h.mono fun os ps1 X1 h1 => ?_)
  obtain ⟨ds, Y, e, rfl, hJ⟩ := h1
  refine RO.part (fun d => Own.lst d) (fun _ => ps1) (fun ρ hf => ?_) hJ
  cases eg : g ds with
  | none => exact trivial
  | some o =>
    cases o with
    | lst xs => exact ⟨.lst xs, ρ, by simp only [hf.rds e, eg, Option.bind_eq_bind, Option.bind_some, Md.opt, Md.ret], rfl, hf⟩
    | _ => exact trivial
theorem ro_isi {ts : List String} {f : Md Opd} {J : JO ω} (h : RO ps f (fun o ps1 X1 => ∃ d, rdP ps1 o = some d ∧ J (.dat (.bool (ts.any fun t => isA t d))) ps1 X1) X) : RO ps (mIsi ts f) J X := by
  refine RO.bind (h.mono fun o ps1 X1 h1 => ?_)
  obtain ⟨d, e, hJ⟩ := h1
  exact RO.at (fun ρ hf => ⟨ρ, by simp only [hf.rd e], hf⟩) hJ
def isEmpD : D → Option Bool
  | .dict kvs => some kvs.isEmpty
  | _ => none
theorem ro_emp {neg : Bool} {f : Md Opd} {J : JO ω} (h : RO ps f (fun o ps1 X1 => ∃ d Y, rdP ps1 o = some d ∧ X1 = (ofO (isEmpD d)).bind Y ∧ ∀ b, J (.dat (.bool (neg ^^ b))) ps1 (Y b)) X) : RO ps (mEmp neg f) J X := by
  refine RO.bind (h.mono fun o ps1 X1 h1 => ?_)
  obtain ⟨d, Y, e, rfl, hJ⟩ := h1
  refine RO.part (fun b => Opd.dat (.bool (neg ^^ b))) (fun _ => ps1) (fun ρ hf => ?_) hJ
  cases d with
  | dict kvs => exact ⟨_, ρ, by simp only [hf.rd e], rfl, hf⟩
  | _ => exact trivial
def intO : D → Option Int
  | .int i => some i
  | _ => none
abbrev JP (ω : Type) := Option Int → Pts → Px ω → Prop
theorem rp_part {f : Md Opd} {J : JP ω} (h : RO ps f (fun o ps1 X1 => ∃ d Y, rdP ps1 o = some d ∧ X1 = (ofO (intO d)).bind Y ∧ ∀ i, J (some i) ps1 (Y i)) X) : RO ps (mPart f) J X := by
  refine RO.bind (h.mono fun o ps1 X1 h1 => ?_)
  obtain ⟨d, Y, e, rfl, hJ⟩ := h1
  refine RO.part (fun i => some i) (fun _ => ps1) (fun ρ hf => ?_) hJ
  cases d with
  | int i => exact ⟨_, ρ, by simp only [hf.rd e], rfl, hf⟩
  | _ => exact trivial
theorem ro_sl {f : Md Opd} {l h : Md (Option Int)} {J : JO ω} (q : RO ps f (fun o ps1 X1 => RO ps1 l (fun lo ps2 X2 => RO ps2 h (fun hi ps3 X3 => ∃ d Y, rdP ps3 o = some d ∧ X3 = (ofO (gSl d lo hi)).bind Y ∧ ∀ d, J (.dat d) ps3 (Y d)) X2) X1) X) : RO ps (mSl f l h) J X := by
  refine RO.bind (q.mono fun o ps1 X1 h1 => RO.bind (h1.mono fun lo ps2 X2 h2 => RO.bind (h2.mono fun hi ps3 X3 h3 => ?_)))
  obtain ⟨d, Y, e, rfl, hJ⟩ := h3
  exact RO.optv (o := none (α := D)) (g := fun _ => .dat .none) ps3 (fun d => .dat d) (fun ρ hf t et => ⟨ρ, by simp only [hf.rd e, et, Option.bind_eq_bind, Option.bind_some, Option.pure_def, Md.opt, Md.ret], hf⟩) hJ
def revO : D → Option D
  | .list ds => some (.list ds.reverse)
  | _ => none
theorem ro_rev {f : Md Opd} {J : JO ω} (h : RO ps f (fun o ps1 X1 => JO1 revO J o ps1 X1) X) : RO ps (mRev f) J X := by
  refine RO.bind (h.mono fun o ps1 X1 h1 => ?_)
  obtain ⟨d, Y, e, rfl, hJ⟩ := h1
  refine RO.part (fun i => .dat i) (fun _ => ps1) (fun ρ hf => ?_) hJ
  cases d with
  | list ds => exact ⟨_, ρ, by simp only [hf.rd e], rfl, hf⟩
  | _ => exact trivial
def asL : D → Option (List D)
  | .list ds => some ds
  | _ => none
theorem ro_look {g : D → List D → Option D} {f : Md Opd} {fa : Md (List Opd)} {J : JO ω} (h : RO ps f (fun o ps1 X1 => ∃ d0 Y0, rdP ps1 o = some d0 ∧ X1 = (ofO (asL d0)).bind Y0 ∧ ∀ l, RO ps1 fa (fun os ps2 X2 => ∃ d1 ds Y, rdP ps2 o = some d1 ∧ rdPs ps2 os = some ds ∧ X2 = (ofO (g d1 ds)).bind Y ∧ ∀ d, J (.dat d) ps2 (Y d)) (Y0 l)) X) : RO ps (mLook g f fa) J X := by
  refine RO.bind (h.mono fun o ps1 X1 h1 => ?_)
  obtain ⟨d0, Y0, e0, rfl, h1⟩ := h1
  intro α F ρ K hf hk
  cases d0 with
  | list xs =>
    have := RO.bind (g := fun os ρ => Md.opt (do let d1 ← rs ρ o; let ds ← rss ρ os; let d ← g d1 ds; pure (Opd.dat d)) ρ) (J := J) ((h1 xs).mono fun os ps2 X2 h2 => by
      obtain ⟨d1, ds, Y, e1, e2, rfl, hJ⟩ := h2
      exact RO.optv (o := none (α := D)) (g := fun _ => .dat .none) ps2 (fun d => .dat d) (fun ρ hf t et => ⟨ρ, by simp only [hf.rd e1, hf.rds e2, et, Option.bind_eq_bind, Option.bind_some, Option.pure_def, Md.opt, Md.ret], hf⟩) hJ)
    have z := this α F ρ K hf hk
    have ee := hf.rd e0
    unfold Md.bind at z ⊢
    simp only [ee]
    exact z
  | _ => exact trivial
end
end DV

set_option Elab.async false
set_option linter.all false
set_option maxRecDepth 100000
set_option maxHeartbeats 1000000
set_option autoImplicit false
/-! LoB: calls, statements, loops, defs. -/
namespace DV
open PySem L2
/-! calls -/
def argP (ps : Pts) : Opd → Option A
  | .dat d => some (.imm d)
  | .slot i => match ps[i]? with
    | some (.im d) => some (.imm d)
    | some (.ow _ o) => some (.own true o)
    | _ => none
def argsP (ps : Pts) : List Opd → Option (List A)
  | [] => some []
  | o :: os => match argP ps o, argsP ps os with
    | some a, some as => some (a :: as)
    | _, _ => none
theorem Fit.arg {ps : Pts} {ρ : Env} (h : Fit ps ρ) {o : Opd} {a : A} (e : argP ps o = some a) : argOf ρ o = some a := by
  cases o with
  | dat d => exact e
  | slot i =>
    simp only [argP] at e
    simp only [argOf]
    cases q : ps[i]? with
    | none => rw [q] at e; cases e
    | some p =>
      rw [q] at e
      cases p with
      | im d => rw [h.pI q]; exact e
      | ow b o => rw [h.pO q]; exact e
      | _ => cases e
theorem Fit.args {ps : Pts} {ρ : Env} (h : Fit ps ρ) : ∀ {os : List Opd} {as : List A}, argsP ps os = some as → argsOf ρ os = some as
  | [], as, e => e
  | o :: os, as, e => by
    unfold argsP at e
    split at e
    · rename_i d ds' e1 e2
      cases e
      unfold argsOf
      simp only [h.arg e1, Fit.args h e2, Option.bind_eq_bind, Option.bind_some, Option.pure_def]
    · cases e
/-- a def that changes none of its arguments -/
def Fx0 {ω : Type} (m : List A → Rs A) (as : List A) (X : Px ω) (res : ω → A) : Prop := Good (fun w a _ => a = res w) (m as) X
/-- .. that changes its j-th -/
def Fx1 {ω : Type} (m : List A → Rs A) (as : List A) (j : Nat) (X : Px ω) (res : ω → A) (out : ω → Own) : Prop := Good (fun w a ρ' => a = res w ∧ ∃ b, ρ'[j]? = some (some (.own b (out w)))) (m as) X
def datB : Opd → Bool
  | .dat _ => true
  | _ => false
theorem back_none {os : List Opd} (h : os.all datB = true) (ρ' ρ : Env) : cellsBack os ρ' ρ = ρ := by
  unfold cellsBack
  refine List.ext_getElem? fun i => ?_
  rw [List.getElem?_mapIdx]
  have : os.findIdx? (isSlot i) = none := by
    rw [List.findIdx?_eq_none_iff]
    intro o m
    have := List.all_eq_true.mp h o m
    cases o with
    | dat d => rfl
    | slot i => cases this
  unfold backA
  rw [this]
  cases ρ[i]? <;> rfl
theorem slots_none : ∀ {os : List Opd}, os.all datB = true → os.filterMap slotOf = []
  | [], _ => rfl
  | .dat d :: os, h => by
    rw [List.filterMap_cons]
    exact slots_none (by simpa [datB] using h)
  | .slot i :: os, h => by simp [datB] at h
section
variable {ω τ : Type} {ps : Pts} {X : Px ω}
abbrev JR (ω : Type) := A → Pts → Px ω → Prop
/-- what is left behind the arguments -/
abbrev JC0 (n : Nat) (m : List A → Rs A) (J : JR ω) (os : List Opd) (ps : Pts) (X : Px ω) : Prop :=
  ∃ (τ : Type) (as : List A) (Z : Px τ) (res : τ → A) (Y : τ → Px ω), Fx0 m as Z res ∧ argsP ps os = some as ∧ os.length = n ∧ os.all datB = true ∧ X = Z.bind Y ∧ ∀ t, J (res t) ps (Y t)
theorem rr_call0 {n : Nat} {m : List A → Rs A} {fa : Md (List Opd)} {J : JR ω} (h : RO ps fa (fun os ps1 X1 => JC0 n m J os ps1 X1) X) : RO ps (mCallA n m fa) J X := by
  refine RO.bind (h.mono fun os ps1 X1 h1 => ?_)
  obtain ⟨τ, as, Z, res, Y, fx, e, l, nd, rfl, hJ⟩ := h1
  refine RO.part res (fun _ => ps1) (fun ρ hf => ?_) hJ
  unfold Fx0 at fx
  cases Z with
  | ok t =>
    obtain ⟨a, ρ', em, rfl⟩ := fx
    have : os.length = n ∧ (os.filterMap slotOf).Nodup := ⟨l, by rw [slots_none nd]; exact List.nodup_nil⟩
    exact ⟨res t, ρ, by simp only [hf.args e, if_pos this, em, back_none nd], rfl, hf⟩
  | rz x => exact trivial
  | no => exact trivial
/-- .. one of the arguments, the j-th, the slot i's cell, changes -/
abbrev JC1 (n : Nat) (m : List A → Rs A) (J : JR ω) (os : List Opd) (ps : Pts) (X : Px ω) : Prop :=
  ∃ (τ : Type) (as : List A) (i j : Nat) (b : Bool) (o : Own) (Z : Px τ) (res : τ → A) (out : τ → Own) (Y : τ → Px ω), Fx1 m as j Z res out ∧ argsP ps os = some as ∧ os.length = n ∧ os.filterMap slotOf = [i] ∧ os[j]? = some (.slot i) ∧ ps[i]? = some (.ow b o) ∧ X = Z.bind Y ∧ ∀ t, J (res t) (ps.set i (.ow b (out t))) (Y t)
theorem one_slot {i : Nat} : ∀ {os : List Opd} {j : Nat}, os.filterMap slotOf = [i] → os[j]? = some (.slot i) → ∀ k, os.findIdx? (isSlot k) = if k = i then some j else none
  | [], j, _, e, k => by simp at e
  | .dat d :: os, j, h, e, k => by
    rw [List.filterMap_cons] at h
    cases j with
    | zero => cases e
    | succ j =>
      have ih := one_slot (os := os) (j := j) h e k
      rw [List.findIdx?_cons]
      have : isSlot k (.dat d) = false := rfl
      rw [this, ih]
      by_cases hk : k = i <;> simp [hk]
  | .slot a :: os, j, h, e, k => by
    have h : a :: os.filterMap slotOf = [i] := h
    have h1 : a = i := (List.cons.inj h).1
    have h2 : os.filterMap slotOf = [] := (List.cons.inj h).2
    subst h1
    rw [List.findIdx?_cons]
    have no : ∀ o ∈ os, ∀ q, o ≠ .slot q := fun o m q eo => by
      subst eo
      have : q ∈ os.filterMap slotOf := List.mem_filterMap.mpr ⟨.slot q, m, rfl⟩
      rw [h2] at this
      cases this
    cases j with
    | zero =>
      show (if decide (a = k) = true then some 0 else _) = _
      by_cases hk : k = a
      · subst hk; simp
      · have : ¬ a = k := fun z => hk z.symm
        simp only [this, decide_false, Bool.false_eq_true, if_false, hk]
        have : os.findIdx? (isSlot k) = none := by
          rw [List.findIdx?_eq_none_iff]
          intro o m
          cases o with
          | dat d => rfl
          | slot q => exact absurd rfl (no _ m q)
        rw [this]; rfl
    | succ j => exact absurd rfl (no _ (List.mem_of_getElem? (show os[j]? = some (.slot a) from e)) a)
theorem rr_call1 {n : Nat} {m : List A → Rs A} {fa : Md (List Opd)} {J : JR ω} (h : RO ps fa (fun os ps1 X1 => JC1 n m J os ps1 X1) X) : RO ps (mCallA n m fa) J X := by
  refine RO.bind (h.mono fun os ps1 X1 h1 => ?_)
  obtain ⟨τ, as, i, j, b, o, Z, res, out, Y, fx, e, l, fs, ej, ei, rfl, hJ⟩ := h1
  refine RO.part res (fun t => ps1.set i (.ow b (out t))) (fun ρ hf => ?_) hJ
  unfold Fx1 at fx
  cases Z with
  | ok t =>
    obtain ⟨a, ρ', em, rfl, b2, eb⟩ := fx
    have nd : os.length = n ∧ (os.filterMap slotOf).Nodup := ⟨l, by rw [fs]; simp⟩
    have eo := hf.pO ei
    have cb : cellsBack os ρ' ρ = ρ.set i (some (.own b (out t))) := by
      unfold cellsBack
      refine List.ext_getElem? fun k => ?_
      rw [List.getElem?_mapIdx]
      unfold backA
      rw [one_slot fs ej k]
      by_cases hk : k = i
      · subst hk
        rw [if_pos rfl, eo, List.getElem?_set_self (List.getElem?_eq_some_iff.mp eo).1]
        simp only [Option.map_some, eb]
      · rw [if_neg hk, List.getElem?_set_ne (fun z => hk z.symm)]
        cases ρ[k]? <;> rfl
    exact ⟨res t, _, by simp only [hf.args e, if_pos nd, em, cb], rfl, hf.set (p := .ow b (out t)) (a := some (.own b (out t))) rfl⟩
  | rz x => exact trivial
  | no => exact trivial
def immA : A → Option D
  | .imm d => some d
  | .own _ o => ownD o
  | .pair _ _ => none
theorem ro_imm {f : Md A} {J : JO ω} (h : RO ps f (fun a ps1 X1 => ∃ d, immA a = some d ∧ J (.dat d) ps1 X1) X) : RO ps (mImm f) J X := by
  refine RO.bind (h.mono fun a ps1 X1 h1 => ?_)
  obtain ⟨d, e, hJ⟩ := h1
  cases a with
  | imm d' => cases e; exact RO.at (fun ρ hf => ⟨ρ, rfl, hf⟩) hJ
  | own b o =>
    have e : ownD o = some d := e
    exact RO.at (fun ρ hf => ⟨ρ, by simp only [e], hf⟩) hJ
  | pair o1 o2 => cases e
theorem rn_own {f : Md A} {J : JN ω} (h : RO ps f (fun a ps1 X1 => ∃ b o, a = .own b o ∧ J o ps1 X1) X) : RO ps (mOwn f) J X := by
  refine RO.bind (h.mono fun a ps1 X1 h1 => ?_)
  obtain ⟨b, o, rfl, hJ⟩ := h1
  exact RO.at (fun ρ hf => ⟨ρ, rfl, hf⟩) hJ
/-! a method that changes a list: g gives a datum and the list -/
theorem ro_meth {i : Nat} {g : List D → List D → Option (D × List D)} {fa : Md (List Opd)} {b0 : Bool} {es0 : List D} {J : JO ω} (e0 : ps[i]? = some (.ow b0 (.lst es0))) (h : RO ps fa (fun os ps1 X1 => ∃ b es ds Y, ps1[i]? = some (.ow b (.lst es)) ∧ imPs ps1 os = some ds ∧ X1 = (ofO (g es ds)).bind Y ∧ ∀ t, J (.dat t.1) (ps1.set i (.ow b (.lst t.2))) (Y t)) X) : RO ps (mMeth i g fa) J X := by
  have key := RO.bind (g := fun os ρ => match ρ[i]?, ims ρ os with
    | some (some (.own b (.lst es))), some ds => match g es ds with
      | some (d, es') => .ok (Opd.dat d) (ρ.set i (some (.own b (.lst es'))))
      | none => .stuck
    | _, _ => .stuck) (J := J) (h.mono fun os ps1 X1 h1 => by
    obtain ⟨b, es, ds, Y, e1, e2, rfl, hJ⟩ := h1
    refine RO.part (fun t : D × List D => Opd.dat t.1) (fun t => ps1.set i (.ow b (.lst t.2))) (fun ρ hf => ?_) hJ
    cases eg : g es ds with
    | none => exact trivial
    | some t => exact ⟨.dat t.1, _, by simp only [hf.pO e1, hf.imms e2, eg], rfl, hf.set (p := .ow b (.lst t.2)) (a := some (.own b (.lst t.2))) rfl⟩)
  intro α F ρ K hf hk
  have := key α F ρ K hf hk
  unfold mMeth Md.bind at *
  have l : isLst ρ i = true := by unfold isLst; rw [hf.pO e0]
  simp only [l, if_true]
  exact this

/-! ### statements -/
abbrev JS (ω : Type) := Fw → Pts → Px ω → Prop
abbrev SqJ (g : Md Fw) (J : JS ω) (fl : Fw) (ps : Pts) (X : Px ω) : Prop := match fl with
  | .nx => RO ps g J X
  | .br => J .br ps X
  | .ct => J .ct ps X
  | .rt a => J (.rt a) ps X
theorem rs_nx {J : JS ω} (h : J .nx ps X) : RO ps sNx J X := ro_ret h
theorem rs_br {J : JS ω} (h : J .br ps X) : RO ps (Md.ret .br) J X := ro_ret h
theorem rs_ct {J : JS ω} (h : J .ct ps X) : RO ps (Md.ret .ct) J X := ro_ret h
theorem rs_seq {f g : Md Fw} {J : JS ω} (h : RO ps f (SqJ g J) X) : RO ps (sSeq f g) J X := by
  refine RO.bind (h.mono fun fl ps1 X1 h1 => ?_)
  cases fl with
  | nx => exact h1
  | br => exact ro_ret h1
  | ct => exact ro_ret h1
  | rt a => exact ro_ret h1
theorem rs_if {t : Md Bool} {f g : Md Fw} {J : JS ω} (h : RO ps t (fun b ps1 X1 => JB f g J b ps1 X1) X) : RO ps (sIf t f g) J X :=
  RO.bind (h.mono fun b ps1 X1 h1 => jb_ro h1)
/-- .. both branches to their end, as one part -/
theorem rs_ifJ {t : Md Bool} {f g : Md Fw} {J : JS ω} (h : RO ps t (fun b ps1 X1 => ∃ (τ : Type) (P : τ → Pts) (X1' X2' : Px τ) (Y : τ → Px ω), X1 = (if b = true then X1' else X2').bind Y ∧ RO ps1 f (fun fl ps' X' => ∃ s, X' = .ok s ∧ fl = .nx ∧ Wk ps' (P s)) X1' ∧ RO ps1 g (fun fl ps' X' => ∃ s, X' = .ok s ∧ fl = .nx ∧ Wk ps' (P s)) X2' ∧ ∀ s, J .nx (P s) (Y s)) X) : RO ps (sIf t f g) J X := by
  refine RO.bind (h.mono fun b ps1 X1 h1 => ?_)
  obtain ⟨τ, P, X1', X2', Y, rfl, ha, hb, hJ⟩ := h1
  cases b with
  | true => exact RO.sub (fun _ => Fw.nx) P ha hJ
  | false => exact RO.sub (fun _ => Fw.nx) P hb hJ
theorem rs_drop {f : Md Opd} {J : JS ω} (h : RO ps f (fun _ ps1 X1 => J .nx ps1 X1) X) : RO ps (sDrop f) J X :=
  RO.bind (h.mono fun o ps1 X1 h1 => ro_ret h1)
def retP (ps : Pts) : Opd → Option A
  | .dat d => some (.imm d)
  | .slot i => match ps[i]? with
    | some (.im d) => some (.imm d)
    | some (.ow false o) => some (.own false o)
    | _ => none
theorem rs_ret {f : Md Opd} {J : JS ω} (h : RO ps f (fun o ps1 X1 => ∃ a, retP ps1 o = some a ∧ J (.rt a) ps1 X1) X) : RO ps (sRet f) J X := by
  refine RO.bind (h.mono fun o ps1 X1 h1 => ?_)
  obtain ⟨a, e, hJ⟩ := h1
  refine RO.at (fun ρ hf => ⟨ρ, ?_, hf⟩) hJ
  cases o with
  | dat d => cases e; rfl
  | slot i =>
    simp only [retP] at e
    cases q : ps1[i]? with
    | none => rw [q] at e; cases e
    | some p =>
      rw [q] at e
      cases p with
      | im d => cases e; simp only [hf.pI q]
      | ow b o =>
        cases b with
        | true => cases e
        | false => cases e; simp only [hf.pO q]
      | _ => cases e
theorem rs_retN {f : Md Own} {J : JS ω} (h : RO ps f (fun o ps1 X1 => J (.rt (.own false o)) ps1 X1) X) : RO ps (sRetN f) J X :=
  RO.bind (h.mono fun o ps1 X1 h1 => ro_ret h1)
theorem rs_retNone {J : JS ω} (h : J (.rt (.imm .none)) ps X) : RO ps sRetNone J X := ro_ret h
def retA : A → Option A
  | .imm d => some (.imm d)
  | .own _ o => some (.own false o)
  | .pair _ _ => none
theorem rs_retA {f : Md A} {J : JS ω} (h : RO ps f (fun a ps1 X1 => ∃ a', retA a = some a' ∧ J (.rt a') ps1 X1) X) : RO ps (sRetA f) J X := by
  refine RO.bind (h.mono fun a ps1 X1 h1 => ?_)
  obtain ⟨a', e, hJ⟩ := h1
  refine RO.at (fun ρ hf => ⟨ρ, ?_, hf⟩) hJ
  cases a <;> cases e <;> rfl
/-! targets -/
def tgM (tg : D → Env → Option Env) (d : D) : Md Unit := fun ρ => match tg d ρ with
  | some ρ' => .ok () ρ'
  | none => .stuck
abbrev JU (ω : Type) := Unit → Pts → Px ω → Prop
theorem tg_n {i : Nat} {d : D} {J : JU ω} (e : canP ps i = true) (h : J () (ps.set i (.im d)) X) : RO ps (tgM (tN i) d) J X :=
  RO.at (fun ρ hf => ⟨ρ.set i (some (.imm d)), by unfold tgM tN; simp only [hf.can e, if_true], hf.set (p := .im d) (a := some (.imm d)) rfl⟩) h
theorem ts_one (t : D → Env → Option Env) (d : D) (ρ : Env) : tsCons t tsNil [d] ρ = t d ρ := by
  show (t d ρ).bind (tsNil []) = _
  cases t d ρ <;> rfl
theorem ts_cons (t : D → Env → Option Env) (u : List D → Env → Option Env) (d : D) (r : List D) (ρ : Env) : tsCons t u (d :: r) ρ = (t d ρ).bind (u r) := rfl
theorem tg_2 {t1 t2 : D → Env → Option Env} {d : D} {J : JU ω} {Y : D × D → Px ω} (h : ∀ z, RO ps (tgM t1 z.1) (fun _ ps1 X1 => RO ps1 (tgM t2 z.2) J X1) (Y z)) : RO ps (tgM (tTupT 2 (tsCons t1 (tsCons t2 tsNil))) d) J ((un2 d).bind Y) := by
  intro α F ρ K hf hk
  unfold un2
  split
  · rename_i a b
    have := (RO.bind (h (a, b))) α F ρ K hf hk
    show Good F _ (Y (a, b))
    have e : tgM (tTupT 2 (tsCons t1 (tsCons t2 tsNil))) (.tuple [a, b]) = Md.bind (tgM t1 a) fun _ => tgM t2 b := by
      funext ρ
      unfold tgM tTupT Md.bind
      simp only [List.length_cons, List.length_nil, if_true]
      simp only [ts_cons]
      cases t1 a ρ with
      | none => rfl
      | some ρ1 =>
        simp only [Option.bind_some, ts_one]
    rw [e]
    exact this
  · exact trivial
theorem tg_L2 {t1 t2 : D → Env → Option Env} {d : D} {J : JU ω} {Y : D × D → Px ω} (h : ∀ z, RO ps (tgM t1 z.1) (fun _ ps1 X1 => RO ps1 (tgM t2 z.2) J X1) (Y z)) : RO ps (tgM (tLstT 2 (tsCons t1 (tsCons t2 tsNil))) d) J ((unL2 d).bind Y) := by
  intro α F ρ K hf hk
  unfold unL2
  split
  · rename_i a b
    have := (RO.bind (h (a, b))) α F ρ K hf hk
    show Good F _ (Y (a, b))
    have e : tgM (tLstT 2 (tsCons t1 (tsCons t2 tsNil))) (.list [a, b]) = Md.bind (tgM t1 a) fun _ => tgM t2 b := by
      funext ρ
      unfold tgM tLstT Md.bind
      simp only [List.length_cons, List.length_nil, if_true]
      simp only [ts_cons]
      cases t1 a ρ with
      | none => rfl
      | some ρ1 =>
        simp only [Option.bind_some, ts_one]
    rw [e]
    exact this
  · exact trivial
theorem tg_3 {t1 t2 t3 : D → Env → Option Env} {d : D} {J : JU ω} {Y : D × D × D → Px ω} (h : ∀ z, RO ps (tgM t1 z.1) (fun _ ps1 X1 => RO ps1 (tgM t2 z.2.1) (fun _ ps2 X2 => RO ps2 (tgM t3 z.2.2) J X2) X1) (Y z)) : RO ps (tgM (tTupT 3 (tsCons t1 (tsCons t2 (tsCons t3 tsNil)))) d) J ((un3 d).bind Y) := by
  intro α F ρ K hf hk
  unfold un3
  split
  · rename_i a b c
    have := (RO.bind ((h (a, b, c)).mono fun _ ps1 X1 h1 => RO.bind h1)) α F ρ K hf hk
    show Good F _ (Y (a, b, c))
    have e : tgM (tTupT 3 (tsCons t1 (tsCons t2 (tsCons t3 tsNil)))) (.tuple [a, b, c]) = Md.bind (tgM t1 a) fun _ => Md.bind (tgM t2 b) fun _ => tgM t3 c := by
      funext ρ
      unfold tgM tTupT Md.bind
      simp only [List.length_cons, List.length_nil, if_true]
      simp only [ts_cons]
      cases t1 a ρ with
      | none => rfl
      | some ρ1 =>
        simp only [Option.bind_some, ts_cons]
        cases t2 b ρ1 with
        | none => rfl
        | some ρ2 =>
          simp only [Option.bind_some, ts_one]
    rw [e]
    exact this
  · exact trivial
theorem rs_tg {tg : D → Env → Option Env} {f : Md Opd} {J : JS ω} (h : RO ps f (fun o ps1 X1 => ∃ d, imP ps1 o = some d ∧ RO ps1 (tgM tg d) (fun _ ps2 X2 => J .nx ps2 X2) X1) X) : RO ps (sTg tg f) J X := by
  refine RO.bind (h.mono fun o ps1 X1 h1 => ?_)
  obtain ⟨d, e, h2⟩ := h1
  have z := RO.bind (g := fun _ => sNx) (J := J) (h2.mono fun _ ps2 X2 h3 => ro_ret h3)
  intro α F ρ K hf hk
  have := z α F ρ K hf hk
  unfold Md.bind tgM sNx Md.ret at *
  simp only [hf.imm e, Option.bind_some]
  cases et : tg d ρ with
  | none => rw [et] at this; exact this
  | some ρ' => rw [et] at this; exact this
theorem rs_set {i : Nat} {f : Md Opd} {J : JS ω} (h : RO ps f (fun o ps1 X1 => ∃ d, imP ps1 o = some d ∧ canP ps1 i = true ∧ J .nx (ps1.set i (.im d)) X1) X) : RO ps (sSet i f) J X :=
  rs_tg (h.mono fun o ps1 X1 ⟨d, e, c, hJ⟩ => ⟨d, e, tg_n c hJ⟩)
theorem rs_setN {i : Nat} {f : Md Own} {J : JS ω} (h : RO ps f (fun o ps1 X1 => canP ps1 i = true ∧ J .nx (ps1.set i (.ow false o)) X1) X) : RO ps (sSetN i f) J X := by
  refine RO.bind (h.mono fun o ps1 X1 h1 => ?_)
  exact RO.at (fun ρ hf => ⟨ρ.set i (some (.own false o)), by simp only [hf.can h1.1, if_true], hf.set (p := .ow false o) (a := some (.own false o)) rfl⟩) h1.2
theorem rs_move {i j : Nat} {o : Own} {J : JS ω} (e : ps[j]? = some (.ow false o)) (c : canP ps i = true) (ne : i ≠ j) (h : J .nx ((ps.set j .dead).set i (.ow false o)) X) : RO ps (sMove i j) J X :=
  RO.at (fun ρ hf => ⟨(ρ.set j none).set i (some (.own false o)), by
    unfold sMove
    simp only [hf.pO e, hf.can c, ne, ne_eq, not_false_eq_true, decide_true, Bool.and_self, if_true], (hf.set (p := .dead) (a := none) (fun _ _ z => nomatch z)).set (p := .ow false o) (a := some (.own false o)) rfl⟩) h
theorem rs_par {i j : Nat} {fa : Md (List Opd)} {J : JS ω} (h : RO ps fa (fun os ps1 X1 => ∃ d e, imPs ps1 os = some [d, e] ∧ canP ps1 i = true ∧ canP (ps1.set i (.im d)) j = true ∧ J .nx ((ps1.set i (.im d)).set j (.im e)) X1) X) : RO ps (sPar i j fa) J X := by
  refine RO.bind (h.mono fun os ps1 X1 h1 => ?_)
  obtain ⟨d, e, ei, c1, c2, hJ⟩ := h1
  refine RO.at (fun ρ hf => ?_) hJ
  have hf1 := hf.set (i := i) (p := .im d) (a := some (.imm d)) rfl
  exact ⟨(ρ.set i (some (.imm d))).set j (some (.imm e)), by simp only [hf.imms ei, hf.can c1, hf1.can c2, Bool.and_self, if_true], hf1.set (p := .im e) (a := some (.imm e)) rfl⟩
/-! stores -/
def putL (es : List D) (k d : D) : Option (List D) := match k with
  | .int i => (ixN es.length i).map fun j => es.set j d
  | _ => none
def putK (kvs : List (Key × D)) (k d : D) : Option (List (Key × D)) := if kvs.length < lim then (keyOf k).map fun q => putG kvs q d else none
def getL (es : List D) (k : D) : Option D := match k with
  | .int i => atI es i
  | _ => none
def getK (kvs : List (Key × D)) (k : D) : Option D := match keyOf k with
  | some q => lookG kvs q
  | none => none
/-- how the cell's kind stores -/
structure Kind (τ : Type) where
  wr : τ → Own
  put : τ → D → D → Option τ
  get : τ → D → Option D
  hput : ∀ t k d, putO (wr t) k d = (put t k d).map wr
  hget : ∀ t k, getO (wr t) k = get t k
def kL : Kind (List D) := ⟨.lst, putL, getL, fun t k d => by
  cases k <;> try rfl
  rename_i i
  show (ixN t.length i).map (fun j => Own.lst (t.set j d)) = ((ixN t.length i).map fun j => t.set j d).map .lst
  rw [Option.map_map]; rfl, fun t k => by cases k <;> rfl⟩
def kK : Kind (List (Key × D)) := ⟨.dK, putK, getK, fun t k d => by
  show (if t.length < lim then (keyOf k).map fun q => Own.dK (putG t q d) else none) = (if t.length < lim then (keyOf k).map fun q => putG t q d else none).map .dK
  split
  · rw [Option.map_map]; rfl
  · rfl, fun t k => rfl⟩
theorem rs_put (κ : Kind τ) {i : Nat} {fk fe : Md Opd} {J : JS ω} (h : RO ps fe (fun oe ps1 X1 => (∃ b o, ps1[i]? = some (.ow b o)) ∧ RO ps1 fk (fun ok ps2 X2 => ∃ b t d k Y, ps2[i]? = some (.ow b (κ.wr t)) ∧ imP ps2 oe = some d ∧ imP ps2 ok = some k ∧ X2 = (ofO (κ.put t k d)).bind Y ∧ ∀ t', J .nx (ps2.set i (.ow b (κ.wr t'))) (Y t')) X1) X) : RO ps (sPut i fk fe) J X := by
  refine RO.bind (h.mono fun oe ps1 X1 h1 => ?_)
  obtain ⟨⟨b0, o0, e0⟩, h1⟩ := h1
  have z := RO.bind (g := fun ok ρ => match ρ[i]? with
    | some (some (.own b o)) => match (do let d ← im ρ oe; let k ← im ρ ok; putO o k d : Option Own) with
      | some o' => .ok Fw.nx (ρ.set i (some (.own b o')))
      | none => .stuck
    | _ => .stuck) (J := J) (h1.mono fun ok ps2 X2 h2 => by
    obtain ⟨b, t, d, k, Y, e1, e2, e3, rfl, hJ⟩ := h2
    refine RO.part (fun _ => Fw.nx) (fun t' => ps2.set i (.ow b (κ.wr t'))) (fun ρ hf => ?_) hJ
    cases ep : κ.put t k d with
    | none => exact trivial
    | some t' => exact ⟨.nx, ρ.set i (some (.own b (κ.wr t'))), by simp only [hf.pO e1, hf.imm e2, hf.imm e3, Option.bind_eq_bind, Option.bind_some, κ.hput, ep, Option.map_some], rfl, hf.set (p := .ow b (κ.wr t')) (a := some (.own b (κ.wr t'))) rfl⟩)
  intro α F ρ K hf hk
  have := z α F ρ K hf hk
  unfold Md.bind at this ⊢
  simp only [hf.pO e0]
  exact this
theorem rs_aug (κ : Kind τ) {i : Nat} {g : D → D → Option D} {fk fe : Md Opd} {J : JS ω} {b0 : Bool} {o0 : Own} (e0 : ps[i]? = some (.ow b0 o0)) (h : RO ps fk (fun ok ps1 X1 => ∃ b t k Y, ps1[i]? = some (.ow b (κ.wr t)) ∧ imP ps1 ok = some k ∧ X1 = (ofO (κ.get t k)).bind Y ∧ ∀ x, RO ps1 fe (fun oe ps2 X2 => ∃ b t y Y, ps2[i]? = some (.ow b (κ.wr t)) ∧ rdP ps2 oe = some y ∧ X2 = (ofO (g x y)).bind (fun z => (ofO (κ.put t k z)).bind Y) ∧ ∀ t', J .nx (ps2.set i (.ow b (κ.wr t'))) (Y t')) (Y x)) X) : RO ps (sAug i g fk fe) J X := by
  have z := RO.bind (g := fun ok ρ1 => match ρ1[i]? with
    | some (some (.own _ o)) => match (do let k ← im ρ1 ok; let x ← getO o k; pure (k, x) : Option (D × D)) with
      | some (k, x) => (Md.bind fe fun oe ρ => match ρ[i]? with
        | some (some (.own b o)) => match (do let y ← rs ρ oe; let z ← g x y; putO o k z : Option Own) with
          | some o' => .ok Fw.nx (ρ.set i (some (.own b o')))
          | none => .stuck
        | _ => .stuck) ρ1
      | none => .stuck
    | _ => .stuck) (J := J) (h.mono fun ok ps1 X1 h1 => by
    obtain ⟨b, t, k, Y, e1, e2, rfl, h2⟩ := h1
    intro α F ρ K hf hk
    cases eg : κ.get t k with
    | none => exact trivial
    | some x =>
      have z := RO.bind (g := fun oe ρ => match ρ[i]? with
        | some (some (.own b o)) => match (do let y ← rs ρ oe; let z ← g x y; putO o k z : Option Own) with
          | some o' => .ok Fw.nx (ρ.set i (some (.own b o')))
          | none => .stuck
        | _ => .stuck) (J := J) ((h2 x).mono fun oe ps2 X2 h3 => by
        obtain ⟨b, t, y, Y, e1, e2, rfl, hJ⟩ := h3
        intro α F ρ K hf hk
        cases e3 : g x y with
        | none => exact trivial
        | some zz =>
          refine RO.part (fun _ => Fw.nx) (fun t' => ps2.set i (.ow b (κ.wr t'))) (fun ρ hf => ?_) hJ α F ρ K hf hk
          cases ep : κ.put t k zz with
          | none => exact trivial
          | some t' => exact ⟨.nx, ρ.set i (some (.own b (κ.wr t'))), by simp only [hf.pO e1, hf.rd e2, e3, Option.bind_eq_bind, Option.bind_some, κ.hput, ep, Option.map_some], rfl, hf.set (p := .ow b (κ.wr t')) (a := some (.own b (κ.wr t'))) rfl⟩)
      have := z α F ρ K hf hk
      unfold Md.bind at this ⊢
      simp only [hf.pO e1, hf.imm e2, Option.bind_eq_bind, Option.bind_some, κ.hget, eg, Option.pure_def]
      exact this)
  intro α F ρ K hf hk
  have := z α F ρ K hf hk
  unfold sAug
  unfold Md.bind at this ⊢
  simp only [hf.pO e0]
  exact this
theorem rs_augN {i : Nat} {g : D → D → Option D} {fe : Md Opd} {J : JS ω} {x : D} (e0 : ps[i]? = some (.im x)) (h : RO ps fe (fun oe ps1 X1 => ∃ y Y, rdP ps1 oe = some y ∧ canP ps1 i = true ∧ X1 = (ofO (g x y)).bind Y ∧ ∀ z, J .nx (ps1.set i (.im z)) (Y z)) X) : RO ps (sAugN i g fe) J X := by
  have z := RO.bind (g := fun oe ρ => match (do let y ← rs ρ oe; g x y : Option D) with
    | some z => if canSet ρ i then .ok Fw.nx (ρ.set i (some (.imm z))) else .stuck
    | none => .stuck) (J := J) (h.mono fun oe ps1 X1 h1 => by
    obtain ⟨y, Y, e1, c, rfl, hJ⟩ := h1
    refine RO.part (fun _ => Fw.nx) (fun z => ps1.set i (.im z)) (fun ρ hf => ?_) hJ
    cases eg : g x y with
    | none => exact trivial
    | some z => exact ⟨.nx, ρ.set i (some (.imm z)), by simp only [hf.rd e1, Option.bind_eq_bind, Option.bind_some, eg, hf.can c, if_true], rfl, hf.set (p := .im z) (a := some (.imm z)) rfl⟩)
  intro α F ρ K hf hk
  have := z α F ρ K hf hk
  unfold sAugN
  unfold Md.bind at this ⊢
  simp only [hf.pI e0]
  exact this
/-! what is gone through -/
abbrev JI (ω : Type) := List D → Pts → Px ω → Prop
abbrev JIt1 (g : List D → Option (List D)) (J : JI ω) (ods : Option (List D)) (ps : Pts) (X : Px ω) : Prop := ∃ ds Y, ods = some ds ∧ X = (ofO (g ds)).bind Y ∧ ∀ l, J l ps (Y l)
def rng1 : List D → Option (List D)
  | [.int n] => if small62 n then some (rangeD 0 n) else none
  | _ => none
def rng2 : List D → Option (List D)
  | [.int m, .int n] => if small62 m && small62 n then some (rangeD m n) else none
  | _ => none
def enumO : List D → Option (List D)
  | [d] => (items d).map (enumD 0)
  | _ => none
def zipO : List D → Option (List D)
  | [.list ds, .list es] => some (zipD ds es)
  | [.tuple ds, .tuple es] => some (zipD ds es)
  | _ => none
theorem ri_range1 {fa : Md (List Opd)} {J : JI ω} (h : RO ps fa (fun os ps1 X1 => JIt1 rng1 J (rdPs ps1 os) ps1 X1) X) : RO ps (mRange1 fa) J X := by
  refine RO.bind (h.mono fun os ps1 X1 h1 => ?_)
  obtain ⟨ds, Y, e, rfl, hJ⟩ := h1
  refine RO.part (fun l => l) (fun _ => ps1) (fun ρ hf => ?_) hJ
  cases eg : rng1 ds with
  | none => exact trivial
  | some l =>
    refine ⟨l, ρ, ?_, rfl, hf⟩
    unfold rng1 at eg
    split at eg
    · split at eg
      · rename_i hs
        cases eg
        simp only [hf.rds e, hs, if_true]
      · cases eg
    · cases eg
theorem ri_range2 {fa : Md (List Opd)} {J : JI ω} (h : RO ps fa (fun os ps1 X1 => JIt1 rng2 J (rdPs ps1 os) ps1 X1) X) : RO ps (mRange2 fa) J X := by
  refine RO.bind (h.mono fun os ps1 X1 h1 => ?_)
  obtain ⟨ds, Y, e, rfl, hJ⟩ := h1
  refine RO.part (fun l => l) (fun _ => ps1) (fun ρ hf => ?_) hJ
  cases eg : rng2 ds with
  | none => exact trivial
  | some l =>
    refine ⟨l, ρ, ?_, rfl, hf⟩
    unfold rng2 at eg
    split at eg
    · split at eg
      · rename_i hs
        cases eg
        simp only [hf.rds e, hs, if_true]
      · cases eg
    · cases eg
theorem ri_enum {fa : Md (List Opd)} {J : JI ω} (h : RO ps fa (fun os ps1 X1 => JIt1 enumO J (imPs ps1 os) ps1 X1) X) : RO ps (mEnum fa) J X := by
  refine RO.bind (h.mono fun os ps1 X1 h1 => ?_)
  obtain ⟨ds, Y, e, rfl, hJ⟩ := h1
  refine RO.part (fun l => l) (fun _ => ps1) (fun ρ hf => ?_) hJ
  cases eg : enumO ds with
  | none => exact trivial
  | some l =>
    refine ⟨l, ρ, ?_, rfl, hf⟩
    unfold enumO at eg
    split at eg
    · rename_i d
      obtain ⟨xs, ex, rfl⟩ := Option.map_eq_some_iff.mp eg
      simp only [hf.imms e, ex, Md.opt, Md.ret]
    · cases eg
theorem ri_zip {fa : Md (List Opd)} {J : JI ω} (h : RO ps fa (fun os ps1 X1 => JIt1 zipO J (imPs ps1 os) ps1 X1) X) : RO ps (mZip fa) J X := by
  refine RO.bind (h.mono fun os ps1 X1 h1 => ?_)
  obtain ⟨ds, Y, e, rfl, hJ⟩ := h1
  refine RO.part (fun l => l) (fun _ => ps1) (fun ρ hf => ?_) hJ
  cases eg : zipO ds with
  | none => exact trivial
  | some l =>
    refine ⟨l, ρ, ?_, rfl, hf⟩
    unfold zipO at eg
    split at eg
    · cases eg; simp only [hf.imms e]
    · cases eg; simp only [hf.imms e]
    · cases eg
def strO : D → Option (List D)
  | .str z => some (signs z)
  | _ => none
theorem ri_str {f : Md Opd} {J : JI ω} (h : RO ps f (fun o ps1 X1 => ∃ d Y, rdP ps1 o = some d ∧ X1 = (ofO (strO d)).bind Y ∧ ∀ l, J l ps1 (Y l)) X) : RO ps (mStr f) J X := by
  refine RO.bind (h.mono fun os ps1 X1 h1 => ?_)
  obtain ⟨d, Y, e, rfl, hJ⟩ := h1
  refine RO.part (fun l => l) (fun _ => ps1) (fun ρ hf => ?_) hJ
  cases d with
  | str z => exact ⟨_, ρ, by simp only [hf.rd e], rfl, hf⟩
  | _ => exact trivial
theorem ri_seq {f : Md Opd} {J : JI ω} (h : RO ps f (fun o ps1 X1 => ∃ d Y, imP ps1 o = some d ∧ X1 = (ofO (items d)).bind Y ∧ ∀ l, J l ps1 (Y l)) X) : RO ps (mSeq f) J X := by
  refine RO.bind (h.mono fun os ps1 X1 h1 => ?_)
  obtain ⟨d, Y, e, rfl, hJ⟩ := h1
  refine RO.part (fun l => l) (fun _ => ps1) (fun ρ hf => ?_) hJ
  cases eg : items d with
  | none => exact trivial
  | some l => exact ⟨l, ρ, by simp only [hf.imm e, eg, Option.bind_eq_bind, Option.bind_some, Md.opt, Md.ret], rfl, hf⟩
/-! loops -/
def bodyM (tg : D → Env → Option Env) (body : Md Fw) (d : D) : Md Fw := Md.bind (tgM tg d) fun _ => body
theorem bodyM_eq (tg : D → Env → Option Env) (body : Md Fw) (d : D) (ds : List D) (ρ : Env) : forL tg body (d :: ds) ρ = match bodyM tg body d ρ with
    | .ok .nx ρ2 => forL tg body ds ρ2
    | .ok .ct ρ2 => forL tg body ds ρ2
    | .ok .br ρ2 => .ok .nx ρ2
    | .ok (.rt a) ρ2 => .ok (.rt a) ρ2
    | .raise e ρ2 => .raise e ρ2
    | .stuck => .stuck := by
  rw [forL]
  unfold bodyM Md.bind tgM
  cases tg d ρ <;> rfl
abbrev EndP {σ : Type} (P : σ → Pts) (fl : Fw) (ps : Pts) (X : Px σ) : Prop := (fl = .nx ∨ fl = .ct) ∧ ∃ s, X = .ok s ∧ Wk ps (P s)
theorem loop_fit {σ : Type} {tg : D → Env → Option Env} {body : Md Fw} (P : σ → Pts) (B : σ → D → Px σ) (hb : ∀ s d, RO (P s) (bodyM tg body d) (EndP P) (B s d)) : ∀ (ds : List D) (s : σ) (ρ : Env), Fit (P s) ρ → Good (fun s' fl ρ' => fl = .nx ∧ Fit (P s') ρ') (forL tg body ds ρ) (loopP B ds s)
  | [], s, ρ, hf => ⟨.nx, ρ, rfl, rfl, hf⟩
  | d :: ds, s, ρ, hf => by
    have h1 := (hb s d).run hf
    rw [bodyM_eq]
    unfold loopP
    cases eb : B s d with
    | ok s' =>
      rw [eb] at h1
      obtain ⟨fl, ρ', e, ps', ⟨hfl, s2, e2, w⟩, hf'⟩ := h1
      cases e2
      have ih := loop_fit P B hb ds s' ρ' (w.fit hf')
      rw [e]
      rcases hfl with rfl | rfl <;> exact ih
    | rz x => exact trivial
    | no => exact trivial
theorem rs_for {it : Md (List D)} {tg : D → Env → Option Env} {body : Md Fw} {J : JS ω} (h : RO ps it (fun ds ps1 X1 => ∃ (σ : Type) (P : σ → Pts) (B : σ → D → Px σ) (s0 : σ) (Y : σ → Px ω), (∀ s d, RO (P s) (bodyM tg body d) (EndP P) (B s d)) ∧ Wk ps1 (P s0) ∧ X1 = (loopP B ds s0).bind Y ∧ ∀ s, J .nx (P s) (Y s)) X) : RO ps (sFor it tg body) J X := by
  refine RO.bind (h.mono fun ds ps1 X1 h1 => ?_)
  obtain ⟨σ, P, B, s0, Y, hb, w, rfl, hJ⟩ := h1
  exact RO.part (fun _ => Fw.nx) P (fun ρ hf => loop_fit P B hb ds s0 ρ (w.fit hf)) hJ
/-- a loop that may break or return; v: what a return gives, R: what is known then -/
abbrev EndE {σ τ : Type} (P : σ → Pts) (v : τ → A) (R : τ → Pts) (fl : Fw) (ps : Pts) (X : Px (Stp σ τ)) : Prop := match fl with
  | .nx => ∃ s, X = .ok (.nx s) ∧ Wk ps (P s)
  | .ct => ∃ s, X = .ok (.nx s) ∧ Wk ps (P s)
  | .br => ∃ s, X = .ok (.br s) ∧ Wk ps (P s)
  | .rt a => ∃ t, X = .ok (.rt t) ∧ a = v t ∧ Wk ps (R t)
def GoodE {σ τ : Type} (P : σ → Pts) (v : τ → A) (R : τ → Pts) (r : σ ⊕ τ) (fl : Fw) (ρ : Env) : Prop := match r with
  | .inl s => fl = .nx ∧ Fit (P s) ρ
  | .inr t => fl = .rt (v t) ∧ Fit (R t) ρ
theorem loopE_fit {σ τ : Type} {tg : D → Env → Option Env} {body : Md Fw} (P : σ → Pts) (v : τ → A) (R : τ → Pts) (B : σ → D → Px (Stp σ τ)) (hb : ∀ s d, RO (P s) (bodyM tg body d) (EndE P v R) (B s d)) : ∀ (ds : List D) (s : σ) (ρ : Env), Fit (P s) ρ → Good (GoodE P v R) (forL tg body ds ρ) (loopE B ds s)
  | [], s, ρ, hf => ⟨.nx, ρ, rfl, rfl, hf⟩
  | d :: ds, s, ρ, hf => by
    have h1 := (hb s d).run hf
    rw [bodyM_eq]
    unfold loopE
    cases eb : B s d with
    | ok r =>
      rw [eb] at h1
      obtain ⟨fl, ρ', e, ps', he, hf'⟩ := h1
      rw [e]
      cases fl with
      | nx =>
        obtain ⟨s2, e2, w⟩ := he
        cases e2
        exact loopE_fit P v R B hb ds s2 ρ' (w.fit hf')
      | ct =>
        obtain ⟨s2, e2, w⟩ := he
        cases e2
        exact loopE_fit P v R B hb ds s2 ρ' (w.fit hf')
      | br =>
        obtain ⟨s2, e2, w⟩ := he
        cases e2
        exact ⟨.nx, ρ', rfl, rfl, w.fit hf'⟩
      | rt a =>
        obtain ⟨t, e2, ea, w⟩ := he
        cases e2
        exact ⟨.rt a, ρ', rfl, by rw [ea], w.fit hf'⟩
    | rz x => exact trivial
    | no => exact trivial
theorem rs_forE {it : Md (List D)} {tg : D → Env → Option Env} {body : Md Fw} {J : JS ω} (h : RO ps it (fun ds ps1 X1 => ∃ (σ τ : Type) (P : σ → Pts) (v : τ → A) (R : τ → Pts) (B : σ → D → Px (Stp σ τ)) (s0 : σ) (Y : σ ⊕ τ → Px ω), (∀ s d, RO (P s) (bodyM tg body d) (EndE P v R) (B s d)) ∧ Wk ps1 (P s0) ∧ X1 = (loopE B ds s0).bind Y ∧ (∀ s, J .nx (P s) (Y (.inl s))) ∧ ∀ t, J (.rt (v t)) (R t) (Y (.inr t))) X) : RO ps (sFor it tg body) J X := by
  refine RO.bind (h.mono fun ds ps1 X1 h1 => ?_)
  obtain ⟨σ, τ, P, v, R, B, s0, Y, hb, w, rfl, hJ1, hJ2⟩ := h1
  refine RO.part (fun r => match r with | .inl _ => Fw.nx | .inr t => .rt (v t)) (fun r => match r with | .inl s => P s | .inr t => R t) (fun ρ hf => ?_) (fun r => match r with | .inl s => hJ1 s | .inr t => hJ2 t)
  have := loopE_fit P v R B hb ds s0 ρ (w.fit hf)
  cases el : loopE B ds s0 with
  | ok r =>
    rw [el] at this
    obtain ⟨fl, ρ', e, g⟩ := this
    cases r with
    | inl s => exact ⟨fl, ρ', e, g.1, g.2⟩
    | inr t => exact ⟨fl, ρ', e, g.1, g.2⟩
  | rz x => exact trivial
  | no => exact trivial
theorem while_fit {σ : Type} {t : Md Bool} {body : Md Fw} (P : σ → Pts) (T : σ → Px Bool) (B : σ → Px σ) (ht : ∀ s, RO (P s) t (fun b ps' X' => X' = .ok b ∧ Wk ps' (P s)) (T s)) (hb : ∀ s, RO (P s) body (EndP P) (B s)) : ∀ (n : Nat) (s : σ) (ρ : Env), Fit (P s) ρ → Good (fun s' fl ρ' => fl = .nx ∧ Fit (P s') ρ') (whileL t body n ρ) (whileP T B n s)
  | 0, s, ρ, hf => trivial
  | n + 1, s, ρ, hf => by
    have h1 := (ht s).run hf
    unfold whileL whileP
    cases et : T s with
    | ok b =>
      rw [et] at h1
      obtain ⟨b', ρ', e, ps', ⟨eb, w⟩, hf'⟩ := h1
      cases eb
      rw [e]
      cases b with
      | false => exact ⟨.nx, ρ', rfl, rfl, w.fit hf'⟩
      | true =>
        have h2 := (hb s).run (w.fit hf')
        show Good _ (match body ρ' with
          | .ok .nx ρ2 => whileL t body n ρ2
          | .ok .ct ρ2 => whileL t body n ρ2
          | .ok .br ρ2 => .ok .nx ρ2
          | .ok (.rt a) ρ2 => .ok (.rt a) ρ2
          | .raise e ρ2 => .raise e ρ2
          | .stuck => .stuck) ((B s).bind fun s' => whileP T B n s')
        cases eb : B s with
        | ok s' =>
          rw [eb] at h2
          obtain ⟨fl, ρ2, e2, ps2, ⟨hfl, s2, es, w2⟩, hf2⟩ := h2
          cases es
          have ih := while_fit P T B ht hb n s' ρ2 (w2.fit hf2)
          rw [e2]
          rcases hfl with rfl | rfl <;> exact ih
        | rz x => exact trivial
        | no => exact trivial
    | rz x => exact trivial
    | no => exact trivial
theorem rs_while {σ : Type} {t : Md Bool} {body : Md Fw} {n : Nat} {J : JS ω} (P : σ → Pts) (T : σ → Px Bool) (B : σ → Px σ) (ht : ∀ s, RO (P s) t (fun b ps' X' => X' = .ok b ∧ Wk ps' (P s)) (T s)) (hb : ∀ s, RO (P s) body (EndP P) (B s)) {s0 : σ} {Y : σ → Px ω} (w : Wk ps (P s0)) (hJ : ∀ s, J .nx (P s) (Y s)) : RO ps (whileL t body n) J ((whileP T B n s0).bind Y) :=
  RO.part (fun _ => Fw.nx) P (fun ρ hf => while_fit P T B ht hb n s0 ρ (w.fit hf)) hJ
theorem whileE_fit {σ τ : Type} {t : Md Bool} {body : Md Fw} (P : σ → Pts) (v : τ → A) (R : τ → Pts) (T : σ → Px Bool) (B : σ → Px (Stp σ τ)) (ht : ∀ s, RO (P s) t (fun b ps' X' => X' = .ok b ∧ Wk ps' (P s)) (T s)) (hb : ∀ s, RO (P s) body (EndE P v R) (B s)) : ∀ (n : Nat) (s : σ) (ρ : Env), Fit (P s) ρ → Good (GoodE P v R) (whileL t body n ρ) (whileE T B n s)
  | 0, s, ρ, hf => trivial
  | n + 1, s, ρ, hf => by
    have h1 := (ht s).run hf
    unfold whileL whileE
    cases et : T s with
    | ok b =>
      rw [et] at h1
      obtain ⟨b', ρ', e, ps', ⟨eb, w⟩, hf'⟩ := h1
      cases eb
      rw [e]
      cases b with
      | false => exact ⟨.nx, ρ', rfl, rfl, w.fit hf'⟩
      | true =>
        have h2 := (hb s).run (w.fit hf')
        show Good _ (match body ρ' with
          | .ok .nx ρ2 => whileL t body n ρ2
          | .ok .ct ρ2 => whileL t body n ρ2
          | .ok .br ρ2 => .ok .nx ρ2
          | .ok (.rt a) ρ2 => .ok (.rt a) ρ2
          | .raise e ρ2 => .raise e ρ2
          | .stuck => .stuck) ((B s).bind fun r => match r with
            | .nx s' => whileE T B n s'
            | .br s' => .ok (.inl s')
            | .rt w => .ok (.inr w))
        cases eb : B s with
        | ok r =>
          rw [eb] at h2
          obtain ⟨fl, ρ2, e2, ps2, he, hf2⟩ := h2
          rw [e2]
          cases fl with
          | nx =>
            obtain ⟨s2, e3, w⟩ := he
            cases e3
            exact whileE_fit P v R T B ht hb n s2 ρ2 (w.fit hf2)
          | ct =>
            obtain ⟨s2, e3, w⟩ := he
            cases e3
            exact whileE_fit P v R T B ht hb n s2 ρ2 (w.fit hf2)
          | br =>
            obtain ⟨s2, e3, w⟩ := he
            cases e3
            exact ⟨.nx, ρ2, rfl, rfl, w.fit hf2⟩
          | rt a =>
            obtain ⟨t, e3, ea, w⟩ := he
            cases e3
            exact ⟨.rt a, ρ2, rfl, by rw [ea], w.fit hf2⟩
        | rz x => exact trivial
        | no => exact trivial
    | rz x => exact trivial
    | no => exact trivial
theorem rs_whileE {σ τ : Type} {t : Md Bool} {body : Md Fw} {n : Nat} {J : JS ω} (P : σ → Pts) (v : τ → A) (R : τ → Pts) (T : σ → Px Bool) (B : σ → Px (Stp σ τ)) (ht : ∀ s, RO (P s) t (fun b ps' X' => X' = .ok b ∧ Wk ps' (P s)) (T s)) (hb : ∀ s, RO (P s) body (EndE P v R) (B s)) {s0 : σ} {Y : σ ⊕ τ → Px ω} (w : Wk ps (P s0)) (hJ1 : ∀ s, J .nx (P s) (Y (.inl s))) (hJ2 : ∀ t, J (.rt (v t)) (R t) (Y (.inr t))) : RO ps (whileL t body n) J ((whileE T B n s0).bind Y) := by
  refine RO.part (fun r => match r with | .inl _ => Fw.nx | .inr t => .rt (v t)) (fun r => match r with | .inl s => P s | .inr t => R t) (fun ρ hf => ?_) (fun r => match r with | .inl s => hJ1 s | .inr t => hJ2 t)
  have := whileE_fit P v R T B ht hb n s0 ρ (w.fit hf)
  cases el : whileE T B n s0 with
  | ok r =>
    rw [el] at this
    obtain ⟨fl, ρ', e, g⟩ := this
    cases r with
    | inl s => exact ⟨fl, ρ', e, g.1, g.2⟩
    | inr t => exact ⟨fl, ρ', e, g.1, g.2⟩
  | rz x => exact trivial
  | no => exact trivial
end
end DV

set_option Elab.async false
set_option linter.all false
set_option maxRecDepth 100000
set_option maxHeartbeats 1000000
set_option autoImplicit false
/-! LoC: comprehensions, defs as a whole. -/
namespace DV
open PySem L2
def wipeP (ps : Pts) : List Nat → Pts
  | [] => ps
  | v :: vs => (wipeP ps vs).set v .dead
theorem Fit.wipe {ps : Pts} {ρ : Env} (h : Fit ps ρ) : ∀ vs : List Nat, Fit (wipeP ps vs) (wipeE ρ vs)
  | [] => h
  | v :: vs => (Fit.wipe h vs).set (p := .dead) (a := none) (fun _ _ z => nomatch z)
theorem wipeP_get {ps : Pts} {j : Nat} : ∀ {vs : List Nat}, (wipeP ps vs)[j]? = if j ∈ vs ∧ j < ps.length then some .dead else ps[j]?
  | [] => by simp [wipeP]
  | v :: vs => by
    have hw : ∀ ws : List Nat, (wipeP ps ws).length = ps.length := fun ws => by
      induction ws with
      | nil => rfl
      | cons w ws ih => unfold wipeP; rw [List.length_set, ih]
    unfold wipeP
    by_cases h : v = j
    · subst h
      by_cases hl : v < ps.length
      · rw [List.getElem?_set_self (by rw [hw]; exact hl), if_pos ⟨List.mem_cons_self, hl⟩]
      · rw [if_neg (fun z => hl z.2), List.getElem?_eq_none (by rw [List.length_set, hw]; omega), List.getElem?_eq_none (by omega)]
    · rw [List.getElem?_set_ne h, wipeP_get]
      have : (j ∈ v :: vs) ↔ j ∈ vs := ⟨fun z => (List.mem_cons.mp z).resolve_left (Ne.symm h), List.mem_cons_of_mem _⟩
      simp only [this]
theorem wipeP_len {ps : Pts} : ∀ {vs : List Nat}, (wipeP ps vs).length = ps.length
  | [] => rfl
  | v :: vs => by unfold wipeP; rw [List.length_set, wipeP_len]
/-- the slots vs as in ps, the others as in qs -/
def backP (ps : Pts) (vs : List Nat) (qs : Pts) : Pts := match vs with
  | [] => qs
  | v :: vs => match ps[v]? with
    | some p => (backP ps vs qs).set v p
    | none => backP ps vs qs
theorem backP_len {ps qs : Pts} : ∀ {vs : List Nat}, (backP ps vs qs).length = qs.length
  | [] => rfl
  | v :: vs => by
    unfold backP
    split
    · rw [List.length_set, backP_len]
    · exact backP_len
theorem Fit.back {ps qs : Pts} {ρ ρ' : Env} (h : Fit ps ρ) (h' : Fit qs ρ') (l : ps.length = qs.length) : ∀ vs : List Nat, Fit (backP ps vs qs) (backE ρ vs ρ')
  | [] => h'
  | v :: vs => by
    have ih := Fit.back h h' l vs
    unfold backP backE
    cases e : ps[v]? with
    | none =>
      have hv : ¬ v < ps.length := fun z => by rw [List.getElem?_eq_getElem z] at e; cases e
      have : ((backE ρ vs ρ').set v ((ρ[v]?).getD none)) = backE ρ vs ρ' := List.set_eq_of_length_le (by rw [backE_len, ← h'.1, ← l]; omega)
      rw [this]
      exact ih
    | some p =>
      obtain ⟨a, ea, f⟩ := h.2 v p e
      rw [ea]
      exact ih.set f
section
variable {ω τ : Type} {ps : Pts} {X : Px ω}
/-- a turn: the item, its test, the element -/
def turnM (tg : D → Env → Option Env) (test : Md Bool) (elt : Md Opd) (d : D) : Md (Option D) := Md.bind (tgM tg d) fun _ => Md.bind test fun b => if b = true then Md.bind elt fun o ρ => match im ρ o with
    | some e => .ok (some e) ρ
    | none => .stuck
  else Md.ret none
/-- the end of a turn -/
abbrev EndC (vs : List Nat) (Q : Pts) (r : Option D) (ps : Pts) (X : Px (Option D)) : Prop := X = .ok r ∧ vs.all (noP ps) = true ∧ Wk (wipeP ps vs) Q
abbrev JEl {ρ : Type} (J : Option D → Pts → Px ρ → Prop) (o : Opd) (ps : Pts) (X : Px ρ) : Prop := ∃ d, imP ps o = some d ∧ J (some d) ps X
theorem rc_turn {tg : D → Env → Option Env} {test : Md Bool} {elt : Md Opd} {d : D} {J : Option D → Pts → Px ω → Prop} (h : RO ps (tgM tg d) (fun _ ps1 X1 => RO ps1 test (fun b ps2 X2 => ∃ X3 X4, X2 = (if b = true then X3 else X4) ∧ RO ps2 elt (fun o ps3 X5 => JEl J o ps3 X5) X3 ∧ J none ps2 X4) X1) X) : RO ps (turnM tg test elt d) J X := by
  refine RO.bind (h.mono fun _ ps1 X1 h1 => RO.bind (h1.mono fun b ps2 X2 h2 => ?_))
  obtain ⟨X3, X4, rfl, ha, hb⟩ := h2
  cases b with
  | true => exact RO.bind (ha.mono fun o ps3 X5 ⟨d, e, hJ⟩ => RO.at (fun ρ hf => ⟨ρ, by simp only [hf.imm e], hf⟩) hJ)
  | false => exact ro_ret hb
/-- .. with no test -/
theorem rc_turnY {tg : D → Env → Option Env} {elt : Md Opd} {d : D} {J : Option D → Pts → Px ω → Prop} (h : RO ps (tgM tg d) (fun _ ps1 X1 => RO ps1 elt (fun o ps3 X5 => JEl J o ps3 X5) X1) X) : RO ps (turnM tg (Md.ret true) elt d) J X := by
  refine RO.bind (h.mono fun _ ps1 X1 h1 => RO.bind (ro_ret ?_))
  exact RO.bind (h1.mono fun o ps3 X5 ⟨d, e, hJ⟩ => RO.at (fun ρ hf => ⟨ρ, by simp only [hf.imm e], hf⟩) hJ)
theorem Fit.nos {ps : Pts} {ρ : Env} (h : Fit ps ρ) {vs : List Nat} (e : vs.all (noP ps) = true) : vs.all (noOwn ρ) = true :=
  List.all_eq_true.mpr fun v m => h.no (List.all_eq_true.mp e v m)
theorem lcL_turn (vs : List Nat) (tg : D → Env → Option Env) (test : Md Bool) (elt : Md Opd) (d : D) (ds acc : List D) (ρ ρ' : Env) (r : Option D) (h : turnM tg test elt d ρ = .ok r ρ') (hn : vs.all (noOwn ρ') = true) : lcL vs tg test elt (d :: ds) acc ρ = match r with
    | some e => if acc.length < lim then lcL vs tg test elt ds (acc ++ [e]) (wipeE ρ' vs) else .stuck
    | none => lcL vs tg test elt ds acc (wipeE ρ' vs) := by
  unfold turnM Md.bind tgM at h
  rw [lcL]
  cases et : tg d ρ with
  | none => rw [et] at h; cases h
  | some ρ1 =>
    rw [et] at h
    simp only at h ⊢
    cases e2 : test ρ1 with
    | ok b ρ2 =>
      rw [e2] at h
      simp only at h ⊢
      cases b with
      | false =>
        simp only [Bool.false_eq_true, if_false, Md.ret] at h
        cases h
        simp only [hn, if_true]
      | true =>
        simp only [if_true] at h
        cases e3 : elt ρ2 with
        | ok o ρ3 =>
          rw [e3] at h
          simp only at h ⊢
          cases e4 : im ρ3 o with
          | some e =>
            rw [e4] at h
            cases h
            simp only [e3, e4, hn, and_true]
          | none => rw [e4] at h; cases h
        | raise x ρ3 => rw [e3] at h; cases h
        | stuck => rw [e3] at h; cases h
    | raise x ρ2 => rw [e2] at h; cases h
    | stuck => rw [e2] at h; cases h
theorem lc_fit {vs : List Nat} {tg : D → Env → Option Env} {test : Md Bool} {elt : Md Opd} (Q : Pts) (B : D → Px (Option D)) (hb : ∀ d, RO Q (turnM tg test elt d) (EndC vs Q) (B d)) : ∀ (ds acc : List D) (ρ : Env), Fit Q ρ → Good (fun l l' ρ' => l' = l ∧ Fit Q ρ') (lcL vs tg test elt ds acc ρ) (compP B ds acc)
  | [], acc, ρ, hf => ⟨acc, ρ, rfl, rfl, hf⟩
  | d :: ds, acc, ρ, hf => by
    have h1 := (hb d).run hf
    unfold compP
    cases eb : B d with
    | ok r =>
      rw [eb] at h1
      obtain ⟨r', ρ', e, ps', ⟨er, hn, w⟩, hf'⟩ := h1
      cases er
      rw [lcL_turn vs tg test elt d ds acc ρ ρ' r e (hf'.nos hn)]
      have hf2 := w.fit (hf'.wipe vs)
      cases r with
      | none => exact lc_fit Q B hb ds acc _ hf2
      | some x =>
        show Good _ (if acc.length < lim then _ else _) (if acc.length < lim then _ else _)
        by_cases hl : acc.length < lim
        · rw [if_pos hl, if_pos hl]
          exact lc_fit Q B hb ds _ _ hf2
        · rw [if_neg hl, if_neg hl]; exact trivial
    | rz x => exact trivial
    | no => exact trivial
/-- a comprehension that changes no cell -/
theorem rn_lc {vs : List Nat} {it : Md (List D)} {tg : D → Env → Option Env} {test : Md Bool} {elt : Md Opd} {J : JN ω} (h : RO ps it (fun ds ps1 X1 => ∃ B Y, vs.all (noP ps1) = true ∧ X1 = (compP B ds []).bind Y ∧ (∀ d, RO (wipeP ps1 vs) (turnM tg test elt d) (EndC vs (wipeP ps1 vs)) (B d)) ∧ ∀ l, J (.lst l) ps1 (Y l)) X) : RO ps (mLc vs it tg test elt) J X := by
  refine RO.bind (h.mono fun ds ps1 X1 h1 => ?_)
  obtain ⟨B, Y, hn, rfl, hb, hJ⟩ := h1
  refine RO.part (fun l => Own.lst l) (fun _ => ps1) (fun ρ hf => ?_) hJ
  have := lc_fit (wipeP ps1 vs) B hb ds [] _ (hf.wipe vs)
  cases ec : compP B ds [] with
  | ok l =>
    rw [ec] at this
    obtain ⟨l', ρ', e, rfl, hf'⟩ := this
    refine ⟨_, backE ρ vs ρ', by simp only [hf.nos hn, if_true, e], rfl, ?_⟩
    have fb := hf.back hf' wipeP_len.symm vs
    have : backP ps1 vs (wipeP ps1 vs) = ps1 := by
      have gen : ∀ us : List Nat, ∀ j : Nat, (backP ps1 us (wipeP ps1 vs))[j]? = if j ∈ us then ps1[j]? else (wipeP ps1 vs)[j]? := fun us => by
        induction us with
        | nil => intro j; simp [backP]
        | cons u us ih =>
          intro j
          unfold backP
          cases eu : ps1[u]? with
          | none =>
            simp only
            rw [ih j]
            by_cases hj : j = u
            · subst hj
              by_cases hm : j ∈ us
              · simp [hm]
              · rw [if_neg hm, if_pos (List.mem_cons_self)]
                rw [wipeP_get]
                have : ¬ j < ps1.length := fun z => by rw [List.getElem?_eq_getElem z] at eu; cases eu
                rw [if_neg (fun z => this z.2)]
            · have : (j ∈ u :: us) ↔ j ∈ us := ⟨fun z => (List.mem_cons.mp z).resolve_left hj, List.mem_cons_of_mem _⟩
              simp only [this]
          | some p =>
            simp only
            by_cases hj : u = j
            · subst hj
              have hl := (List.getElem?_eq_some_iff.mp eu).1
              rw [List.getElem?_set_self (by rw [backP_len, wipeP_len]; exact hl), if_pos List.mem_cons_self, eu]
            · rw [List.getElem?_set_ne hj, ih j]
              have : (j ∈ u :: us) ↔ j ∈ us := ⟨fun z => (List.mem_cons.mp z).resolve_left (fun q => hj q.symm), List.mem_cons_of_mem _⟩
              simp only [this]
      refine List.ext_getElem? fun j => ?_
      rw [gen vs j]
      by_cases hj : j ∈ vs
      · rw [if_pos hj]
      · rw [if_neg hj, wipeP_get, if_neg (fun z => hj z.1)]
    rw [this] at fb
    exact fb
  | rz x => exact trivial
  | no => exact trivial
/-- .. that changes cells: s is carried -/
abbrev EndCS {σ : Type} (vs : List Nat) (P : σ → Pts) (r : Option D) (ps : Pts) (X : Px (Option D × σ)) : Prop := ∃ s, X = .ok (r, s) ∧ vs.all (noP ps) = true ∧ Wk (wipeP ps vs) (P s)
theorem lcS_fit {σ : Type} {vs : List Nat} {tg : D → Env → Option Env} {test : Md Bool} {elt : Md Opd} (P : σ → Pts) (B : σ → D → Px (Option D × σ)) (hb : ∀ s d, RO (P s) (turnM tg test elt d) (EndCS vs P) (B s d)) : ∀ (ds acc : List D) (s : σ) (ρ : Env), Fit (P s) ρ → Good (fun l l' ρ' => l' = l.1 ∧ Fit (P l.2) ρ') (lcL vs tg test elt ds acc ρ) (compS B ds acc s)
  | [], acc, s, ρ, hf => ⟨acc, ρ, rfl, rfl, hf⟩
  | d :: ds, acc, s, ρ, hf => by
    have h1 := (hb s d).run hf
    unfold compS
    cases eb : B s d with
    | ok r =>
      rw [eb] at h1
      obtain ⟨r', ρ', e, ps', ⟨s', er, hn, w⟩, hf'⟩ := h1
      cases er
      rw [lcL_turn vs tg test elt d ds acc ρ ρ' r' e (hf'.nos hn)]
      have hf2 := w.fit (hf'.wipe vs)
      cases r' with
      | none => exact lcS_fit P B hb ds acc s' _ hf2
      | some x =>
        show Good _ (if acc.length < lim then _ else _) (if acc.length < lim then _ else _)
        by_cases hl : acc.length < lim
        · rw [if_pos hl, if_pos hl]
          exact lcS_fit P B hb ds _ s' _ hf2
        · rw [if_neg hl, if_neg hl]; exact trivial
    | rz x => exact trivial
    | no => exact trivial
theorem rn_lcS {vs : List Nat} {it : Md (List D)} {tg : D → Env → Option Env} {test : Md Bool} {elt : Md Opd} {J : JN ω} (h : RO ps it (fun ds ps1 X1 => ∃ (σ : Type) (P : σ → Pts) (B : σ → D → Px (Option D × σ)) (s0 : σ) (Y : List D × σ → Px ω), vs.all (noP ps1) = true ∧ (∀ s, (P s).length = ps1.length) ∧ Wk (wipeP ps1 vs) (P s0) ∧ X1 = (compS B ds [] s0).bind Y ∧ (∀ s d, RO (P s) (turnM tg test elt d) (EndCS vs P) (B s d)) ∧ ∀ l : List D × σ, J (.lst l.1) (backP ps1 vs (P l.2)) (Y l)) X) : RO ps (mLc vs it tg test elt) J X := by
  refine RO.bind (h.mono fun ds ps1 X1 h1 => ?_)
  obtain ⟨σ, P, B, s0, Y, hn, hl, w, rfl, hb, hJ⟩ := h1
  refine RO.part (fun l => Own.lst l.1) (fun l => backP ps1 vs (P l.2)) (fun ρ hf => ?_) hJ
  have := lcS_fit P B hb ds [] s0 _ (w.fit (hf.wipe vs))
  cases ec : compS B ds [] s0 with
  | ok l =>
    rw [ec] at this
    obtain ⟨l', ρ', e, rfl, hf'⟩ := this
    exact ⟨_, backE ρ vs ρ', by simp only [hf.nos hn, if_true, e], rfl, hf.back hf' (hl _).symm vs⟩
  | rz x => exact trivial
  | no => exact trivial
/-! ### defs -/
abbrev JF (res : ω → A) (fl : Fw) (ps : Pts) (X : Px ω) : Prop := ∃ w, X = .ok w ∧ (fl = .rt (res w) ∨ (fl = .nx ∧ res w = .imm .none))
theorem fx0 {n : Nat} {body : Md Fw} {as : List A} {res : ω → A} (hf : FitL ps (startE n as)) (h : RO ps body (JF res) X) : Fx0 (runFn n body) as X res := by
  have := h.run hf.fit
  unfold Fx0 runFn
  cases X with
  | ok w =>
    obtain ⟨fl, ρ', e, ps', ⟨w', ew, hr⟩, hf'⟩ := this
    cases ew
    rw [e]
    rcases hr with rfl | ⟨rfl, er⟩
    · exact ⟨_, _, rfl, rfl⟩
    · exact ⟨_, _, rfl, er.symm⟩
  | rz x => exact trivial
  | no => exact trivial
abbrev JF1 (j : Nat) (res : ω → A) (out : ω → Own) (fl : Fw) (ps : Pts) (X : Px ω) : Prop := ∃ w, X = .ok w ∧ (fl = .rt (res w) ∨ (fl = .nx ∧ res w = .imm .none)) ∧ ps[j]? = some (.ow true (out w))
theorem fx1 {n : Nat} {body : Md Fw} {as : List A} {j : Nat} {res : ω → A} {out : ω → Own} (hj : j < as.length) (hf : FitL ps (startE n as)) (h : RO ps body (JF1 j res out) X) : Fx1 (runFn n body) as j X res out := by
  have := h.run hf.fit
  unfold Fx1 runFn
  cases X with
  | ok w =>
    obtain ⟨fl, ρ', e, ps', ⟨w', ew, hr, hp⟩, hf'⟩ := this
    cases ew
    rw [e]
    have ho := hf'.pO hp
    have hk : (keepO as.length ρ')[j]? = some (some (.own true (out w))) := by
      unfold keepO
      rw [List.getElem?_mapIdx, ho]
      show some (keepA as.length j (some (.own true (out w)))) = _
      unfold keepA
      rw [if_pos hj]
    rcases hr with rfl | ⟨rfl, er⟩
    · exact ⟨_, _, rfl, rfl, true, hk⟩
    · exact ⟨_, _, rfl, er.symm, true, hk⟩
  | rz x => exact trivial
  | no => exact trivial
/-- what a mirror gives, as a plain function -/
def outD (r : Rs A) : Px D := match r with
  | .ok a _ => ofO (immA a)
  | _ => .no
def outL (r : Rs A) : Px (List D) := match r with
  | .ok (.own false (.lst l)) _ => .ok l
  | _ => .no
def outDS (j : Nat) (r : Rs A) : Px (D × List D) := match r with
  | .ok a ρ => match immA a, ρ[j]? with
    | some d, some (some (.own _ (.lst l))) => .ok (d, l)
    | _, _ => .no
  | _ => .no
def outLS (j : Nat) (r : Rs A) : Px (List D × List D) := match r with
  | .ok (.own false (.lst x)) ρ => match ρ[j]? with
    | some (some (.own _ (.lst l))) => .ok (x, l)
    | _ => .no
  | _ => .no
/-- a result that stands still -/
def outI (r : Rs A) : Px D := match r with
  | .ok (.imm d) _ => .ok d
  | _ => .no
def outIS (j : Nat) (r : Rs A) : Px (D × List D) := match r with
  | .ok (.imm d) ρ => match ρ[j]? with
    | some (some (.own _ (.lst l))) => .ok (d, l)
    | _ => .no
  | _ => .no
theorem fxI (m : List A → Rs A) (as : List A) : Fx0 m as (outI (m as)) (fun d => .imm d) := by
  unfold Fx0 outI
  split
  · rename_i d ρ e; exact ⟨_, ρ, e, rfl⟩
  · exact trivial
theorem fxL (m : List A → Rs A) (as : List A) : Fx0 m as (outL (m as)) (fun l => .own false (.lst l)) := by
  unfold Fx0 outL
  split
  · rename_i l ρ e; exact ⟨_, ρ, e, rfl⟩
  · exact trivial
theorem fxLS (m : List A → Rs A) (as : List A) (j : Nat) : Fx1 m as j (outLS j (m as)) (fun t => .own false (.lst t.1)) (fun t => .lst t.2) := by
  unfold Fx1 outLS
  split
  · rename_i d ρ e
    split
    · rename_i b l el; exact ⟨_, ρ, e, rfl, b, el⟩
    · exact trivial
  · exact trivial
theorem fxIS (m : List A → Rs A) (as : List A) (j : Nat) : Fx1 m as j (outIS j (m as)) (fun t => .imm t.1) (fun t => .lst t.2) := by
  unfold Fx1 outIS
  split
  · rename_i d ρ e
    split
    · rename_i b l el; exact ⟨_, ρ, e, rfl, b, el⟩
    · exact trivial
  · exact trivial
end
/-- own results: the owner's mark does not matter -/
theorem out_of {d : D} {m : List A → Rs A} {as : List A} {X : Px D} (h : Fx0 m as X (fun d => .imm d)) (hx : X = .ok d) : ∃ ρ, m as = .ok (.imm d) ρ := by
  subst hx
  obtain ⟨a, ρ, e, rfl⟩ := h
  exact ⟨ρ, e⟩
theorem rs_stuck {β ω : Type} {ps : Pts} {J : β → Pts → Px ω → Prop} : RO ps Md.stuck J .no := fun _ _ _ _ _ _ => trivial
theorem len_ok {n : Nat} (h : Nat.ble n 100 = true) : n ≤ 100 := Nat.le_of_ble_eq_true h
section
variable {ω τ : Type} {ps : Pts} {X : Px ω}
def asK : D → Option (List (D × D))
  | .dict l => some l
  | _ => none
theorem ro_get {fd fk fx : Md Opd} {J : JO ω} (h : RO ps fd (fun od ps1 X1 => ∃ d0 Y0, rdP ps1 od = some d0 ∧ X1 = (ofO (asK d0)).bind Y0 ∧ ∀ l, RO ps1 fk (fun ok ps2 X2 => RO ps2 fx (fun ox ps3 X3 => ∃ d k x Y, rdP ps3 od = some d ∧ rdP ps3 ok = some k ∧ imP ps3 ox = some x ∧ X3 = (ofO (gGet d k x)).bind Y ∧ ∀ d, J (.dat d) ps3 (Y d)) X2) (Y0 l)) X) : RO ps (mGet fd fk fx) J X := by
  refine RO.bind (h.mono fun od ps1 X1 h1 => ?_)
  obtain ⟨d0, Y0, e0, rfl, h1⟩ := h1
  intro α F ρ K hf hk
  cases d0 with
  | dict xs =>
    have := RO.bind (g := fun ok => Md.bind fx fun ox ρ => Md.opt (do let d ← rs ρ od; let k ← rs ρ ok; let x ← im ρ ox; let r ← gGet d k x; pure (Opd.dat r)) ρ) (J := J) ((h1 xs).mono fun ok ps2 X2 h2 => RO.bind (h2.mono fun ox ps3 X3 h3 => by
      obtain ⟨d, k, x, Y, e1, e2, e3, rfl, hJ⟩ := h3
      exact RO.optv (o := none (α := D)) (g := fun _ => .dat .none) ps3 (fun d => .dat d) (fun ρ hf t et => ⟨ρ, by simp only [hf.rd e1, hf.rd e2, hf.imm e3, et, Option.bind_eq_bind, Option.bind_some, Option.pure_def, Md.opt, Md.ret], hf⟩) hJ))
    have z := this α F ρ K hf hk
    have ee := hf.rd e0
    unfold Md.bind at z ⊢
    simp only [ee]
    exact z
  | _ => exact trivial
theorem rn_ifJ {t : Md Bool} {f g : Md Own} {J : JN ω} (h : RO ps t (fun b ps1 X1 => ∃ (X1' X2' : Px (List D)) (Y : List D → Px ω), X1 = (if b = true then X1' else X2').bind Y ∧ RO ps1 f (fun o ps' X' => ∃ d, X' = .ok d ∧ o = .lst d ∧ Wk ps' ps1) X1' ∧ RO ps1 g (fun o ps' X' => ∃ d, X' = .ok d ∧ o = .lst d ∧ Wk ps' ps1) X2' ∧ ∀ d, J (.lst d) ps1 (Y d)) X) : RO ps (mIf t f g) J X := by
  refine RO.bind (h.mono fun b ps1 X1 h1 => ?_)
  obtain ⟨X1', X2', Y, rfl, ha, hb, hJ⟩ := h1
  cases b with
  | true => exact RO.sub (fun d => .lst d) (fun _ => ps1) ha hJ
  | false => exact RO.sub (fun d => .lst d) (fun _ => ps1) hb hJ
end
/-! how the parts run -/
theorem loopP_run {σ : Type} {b : σ → D → Px σ} (I : Nat → σ → Prop) : ∀ (ds : List D) (k : Nat) (s : σ), I k s → (∀ i d s, ds[i]? = some d → I (k + i) s → ∃ s', b s d = .ok s' ∧ I (k + i + 1) s') → ∃ s', loopP b ds s = .ok s' ∧ I (k + ds.length) s'
  | [], k, s, h, _ => ⟨s, rfl, h⟩
  | d :: ds, k, s, h, hs => by
    obtain ⟨s1, e, h1⟩ := hs 0 d s rfl h
    obtain ⟨s2, e2, h2⟩ := loopP_run I ds (k + 1) s1 h1 fun i d' s hd hi => by
      have := hs (i + 1) d' s (by simpa using hd) (by rw [show k + (i + 1) = k + 1 + i by omega]; exact hi)
      rw [show k + (i + 1) = k + 1 + i by omega] at this
      exact this
    refine ⟨s2, by unfold loopP; rw [e]; exact e2, ?_⟩
    rw [show k + (d :: ds).length = k + 1 + ds.length by simp; omega]
    exact h2
/-- a loop whose states are known -/
theorem loopP_fold {σ α : Type} {b : σ → D → Px σ} (g : α → D) (f : σ → α → σ) : ∀ (xs : List α) (s : σ), (∀ s x, x ∈ xs → b s (g x) = .ok (f s x)) → loopP b (xs.map g) s = .ok (xs.foldl f s)
  | [], s, _ => rfl
  | x :: xs, s, h => by
    rw [List.map_cons, loopP, h s x (.head _), Px.bind_ok, loopP_fold g f xs _ fun s y m => h s y (.tail _ m)]
    rfl
/-- .. with an invariant -/
theorem loopP_foldI {σ α : Type} {b : σ → D → Px σ} (I : σ → Prop) (g : α → D) (f : σ → α → σ) : ∀ (xs : List α) (s : σ), I s → (∀ s x, I s → x ∈ xs → b s (g x) = .ok (f s x) ∧ I (f s x)) → loopP b (xs.map g) s = .ok (xs.foldl f s) ∧ I (xs.foldl f s)
  | [], s, hi, _ => ⟨rfl, hi⟩
  | x :: xs, s, hi, h => by
    obtain ⟨e, hi2⟩ := h s x hi (.head _)
    have ih := loopP_foldI I g f xs _ hi2 fun s y hs m => h s y hs (.tail _ m)
    rw [List.map_cons, loopP, e, Px.bind_ok]
    exact ih
/-- a loop that returns or not -/
theorem loopE_run {σ ω : Type} {b : σ → D → Px (Stp σ ω)} (I : Nat → σ → Prop) (Post : ω → Prop) : ∀ (ds : List D) (k : Nat) (s : σ), I k s → (∀ i d s, ds[i]? = some d → I (k + i) s → (∃ s', b s d = .ok (.nx s') ∧ I (k + i + 1) s') ∨ ∃ w, b s d = .ok (.rt w) ∧ Post w) → (∃ s', loopE b ds s = .ok (.inl s') ∧ I (k + ds.length) s') ∨ ∃ w, loopE b ds s = .ok (.inr w) ∧ Post w
  | [], k, s, h, _ => .inl ⟨s, rfl, h⟩
  | d :: ds, k, s, h, hs => by
    rcases hs 0 d s rfl h with ⟨s1, e, h1⟩ | ⟨w, e, hp⟩
    · have := loopE_run I Post ds (k + 1) s1 h1 fun i d' s hd hi => by
        have := hs (i + 1) d' s (by simpa using hd) (by rw [show k + (i + 1) = k + 1 + i by omega]; exact hi)
        rw [show k + (i + 1) = k + 1 + i by omega] at this
        exact this
      unfold loopE
      rw [e, Px.bind_ok]
      rw [show k + (d :: ds).length = k + 1 + ds.length by simp; omega]
      exact this
    · unfold loopE
      rw [e]
      exact .inr ⟨w, rfl, hp⟩
/-- a loop with a return: none comes -/
theorem loopE_all {σ ω α : Type} {b : σ → D → Px (Stp σ ω)} (I : σ → Prop) (g : α → D) : ∀ (xs : List α) (s : σ), I s → (∀ s x, I s → x ∈ xs → ∃ s', b s (g x) = .ok (.nx s') ∧ I s') → ∃ s', loopE b (xs.map g) s = .ok (.inl s') ∧ I s'
  | [], s, hi, _ => ⟨s, rfl, hi⟩
  | x :: xs, s, hi, h => by
    obtain ⟨s', e, hi2⟩ := h s x hi (.head _)
    have ih := loopE_all I g xs _ hi2 fun s y hs m => h s y hs (.tail _ m)
    rw [List.map_cons, loopE, e, Px.bind_ok]
    exact ih
theorem compP_map {α : Type} {b : D → Px (Option D)} (g f : α → D) : ∀ (xs : List α) (acc : List D), acc.length + xs.length ≤ lim → (∀ x ∈ xs, b (g x) = .ok (some (f x))) → compP b (xs.map g) acc = .ok (acc ++ xs.map f)
  | [], acc, _, _ => by rw [List.map_nil, List.map_nil, List.append_nil]; rfl
  | x :: xs, acc, hl, h => by
    rw [List.length_cons] at hl
    rw [List.map_cons, compP, h x (.head _), Px.bind_ok]
    show (if acc.length < lim then _ else _) = _
    rw [if_pos (by omega), compP_map g f xs _ (by rw [List.length_append, List.length_singleton]; omega) fun y m => h y (.tail _ m), List.append_assoc]
    rfl
theorem compP_filter {α : Type} {b : D → Px (Option D)} (p : α → Bool) (g f : α → D) : ∀ (xs : List α) (acc : List D), acc.length + xs.length ≤ lim → (∀ x ∈ xs, b (g x) = .ok (if p x = true then some (f x) else none)) → compP b (xs.map g) acc = .ok (acc ++ (xs.filter p).map f)
  | [], acc, _, _ => by rw [List.map_nil, List.filter_nil, List.map_nil, List.append_nil]; rfl
  | x :: xs, acc, hl, h => by
    rw [List.length_cons] at hl
    rw [List.map_cons, compP, h x (.head _), Px.bind_ok]
    cases hp : p x with
    | true =>
      show (if acc.length < lim then _ else _) = _
      rw [if_pos (by omega), compP_filter p g f xs _ (by rw [List.length_append, List.length_singleton]; omega) fun y m => h y (.tail _ m), List.append_assoc, List.filter_cons_of_pos (by exact hp)]
      rfl
    | false =>
      show compP b (xs.map g) acc = _
      rw [compP_filter p g f xs _ (by omega) fun y m => h y (.tail _ m), List.filter_cons_of_neg (by rw [hp]; exact Bool.false_ne_true)]
/-- .. that draws -/
theorem compS_run {σ α : Type} {b : σ → D → Px (Option D × σ)} (I : Nat → List D → σ → Prop) (g : α → D) : ∀ (xs : List α) (k : Nat) (acc : List D) (s : σ), acc.length + xs.length ≤ lim → I k acc s → (∀ i x acc s, xs[i]? = some x → I (k + i) acc s → ∃ e s', b s (g x) = .ok (some e, s') ∧ I (k + i + 1) (acc ++ [e]) s') → ∃ l s', compS b (xs.map g) acc s = .ok (l, s') ∧ I (k + xs.length) l s'
  | [], k, acc, s, _, h, _ => ⟨acc, s, rfl, h⟩
  | x :: xs, k, acc, s, hl, h, hs => by
    rw [List.length_cons] at hl
    obtain ⟨e, s1, eb, h1⟩ := hs 0 x acc s rfl h
    obtain ⟨l, s2, e2, h2⟩ := compS_run I g xs (k + 1) (acc ++ [e]) s1 (by rw [List.length_append, List.length_singleton]; omega) h1 fun i x' acc s hd hi => by
      have := hs (i + 1) x' acc s (by simpa using hd) (by rw [show k + (i + 1) = k + 1 + i by omega]; exact hi)
      rw [show k + (i + 1) = k + 1 + i by omega] at this
      exact this
    refine ⟨l, s2, ?_, ?_⟩
    · rw [List.map_cons, compS, eb, Px.bind_ok]
      show (if acc.length < lim then _ else _) = _
      rw [if_pos (by omega)]
      exact e2
    · rw [show k + (x :: xs).length = k + 1 + xs.length by simp; omega]
      exact h2
end DV

set_option Elab.async false
set_option linter.all false
set_option maxRecDepth 100000
set_option maxHeartbeats 4000000
set_option autoImplicit false
namespace DV
open PySem L2
def topS (i : Nat) : Stmt := PySem.Challenge.pw_coinsteps_k09_whole_great_purses.main.body.getD i (.Pass ⟨0, 0, 0, 0⟩)
structure Txt (K : Kf) (mg : Str → Option Value) : Prop where
  z_isinstance : mg "isinstance" = none
  z_int : mg "int" = none
  z_bool : mg "bool" = none
  z_str : mg "str" = none
  z_len : mg "len" = none
  c_LETTERS : ∃ u, mg "LETTERS" = some u ∧ RelV (.str ("abcdefghijklmnopqrstuvwxyz" : Str)) u
  z_all : mg "all" = none
  z_zip : mg "zip" = none
  z_tuple : mg "tuple" = none
  c_MOST_KINDS : ∃ u, mg "MOST_KINDS" = some u ∧ RelV (.int 8) u
  z_range : mg "range" = none
  c_MOST_COINS : ∃ u, mg "MOST_COINS" = some u ∧ RelV (.int (10 ^ 30)) u
  z_enumerate : mg "enumerate" = none
  z_list : mg "list" = none
  z_sum : mg "sum" = none
  z_max : mg "max" = none
  z_sorted : mg "sorted" = none
  z_min : mg "min" = none
def m_is_from : List A → Rs A := runFn 3
  (sRet (mAndV (mIsi ["int"] (mVar 0)) (mAndV (mNotV (mIsi ["bool"] (mVar 0))) (mChain gLe gLe (mVar 1) (mVar 0) (mVar 2)))))

def x_is_name_1 : Md Opd :=
  (m2 gIn (mVar 1) (mC (.str ("abcdefghijklmnopqrstuvwxyz" : Str))))
def c_is_name_1 : Md Own :=
  mLc [1] (mStr (mVar 0)) (tN 1) (Md.ret true) x_is_name_1
def m_is_name : List A → Rs A := runFn 2
  (sRet (mAndV (mIsi ["str"] (mVar 0)) (mAndV (mChain gLe gLe (mC (.int 1)) (mCall gLen (mCons (mVar 0) mNil)) (mC (.int 8))) (mCall gAll (mCons (mFrz c_is_name_1) mNil)))))

def x_is_rising_1 : Md Opd :=
  (m2 gLt (mVar 1) (mVar 2))
def c_is_rising_1 : Md Own :=
  mLc [1, 2] (mZip (mCons (mVar 0) (mCons (mSl (mVar 0) (mPart (mC (.int 1))) (Md.ret none)) mNil))) (tTupT 2 (tsCons (tN 1) (tsCons (tN 2) tsNil))) (Md.ret true) x_is_rising_1
def m_is_rising : List A → Rs A := runFn 3
  (sRet (mCall gAll (mCons (mFrz c_is_rising_1) mNil)))

def m_is_coin : List A → Rs A := runFn 1
  (sSeq (sIf (mOrT (mNotT (mT (mIsi ["tuple"] (mVar 0)))) (mOrT (mT (m2 gNe (mCall gLen (mCons (mVar 0) mNil)) (mC (.int 3)))) (mOrT (mNotT (mT (mImm (mCallA 1 m_is_name (mCons (m2 gIx (mVar 0) (mC (.int 0))) mNil))))) (mNotT (mT (mIsi ["str"] (m2 gIx (mVar 0) (mC (.int 2)))))))))
  (sRet (mC (.bool false)))
  sNx)
  (sRet (mIf (mT (m2 gEq (m2 gIx (mVar 0) (mC (.int 2))) (mC (.str ("" : Str))))) (mImm (mCallA 3 m_is_from (mCons (m2 gIx (mVar 0) (mC (.int 1))) (mCons (mC (.int 0)) (mCons (mC (.int 0)) mNil))))) (mImm (mCallA 3 m_is_from (mCons (m2 gIx (mVar 0) (mC (.int 1))) (mCons (mC (.int 2)) (mCons (mC (.int 9)) mNil))))))))

def x_are_coins_1 : Md Opd :=
  (mImm (mCallA 1 m_is_coin (mCons (mVar 1) mNil)))
def c_are_coins_1 : Md Own :=
  mLc [1] (mSeq (mVar 0)) (tN 1) (Md.ret true) x_are_coins_1
def x_are_coins_2 : Md Opd :=
  (m2 gIx (mVar 1) (mC (.int 0)))
def c_are_coins_2 : Md Own :=
  mLc [1] (mSeq (mVar 0)) (tN 1) (Md.ret true) x_are_coins_2
def c_are_coins_3 : Md Own :=
  mDc [3, 4, 5] (mSeq (mVar 0)) (tTupT 3 (tsCons (tN 3) (tsCons (tN 4) (tsCons (tN 5) tsNil)))) (Md.ret true) (mVar 3) (mVar 5)
def b_are_coins_1 : Md Fw :=
  (sSeq (sSet 6 (mIf (mT (m2 gNe (mVar 6) (mC (.str ("" : Str))))) (mGet (mVar 2) (mVar 6) (mC (.str ("" : Str)))) (mC (.str ("" : Str)))))
  (sIf (mAndT (mT (m2 gNe (mVar 6) (mC (.str ("" : Str))))) (mT (m2 gNotIn (mVar 6) (mVar 2))))
  (sRet (mC (.bool false)))
  sNx))
def l_are_coins_1 : Md Fw :=
  sFor (mRange1 (mCons (mCall gLen (mCons (mVar 2) mNil)) mNil)) (tN 7) b_are_coins_1
def b_are_coins_2 : Md Fw :=
  (sSeq (sSet 6 (mVar 3))
  (sSeq l_are_coins_1
  (sIf (mT (m2 gNe (mVar 6) (mC (.str ("" : Str)))))
  (sRet (mC (.bool false)))
  sNx)))
def l_are_coins_2 : Md Fw :=
  sForKeys 2 (tN 3) b_are_coins_2
def m_are_coins : List A → Rs A := runFn 8
  (sSeq (sIf (mOrT (mNotT (mT (mIsi ["tuple"] (mVar 0)))) (mOrT (mNotT (mT (mChain gLe gLe (mC (.int 1)) (mCall gLen (mCons (mVar 0) mNil)) (mC (.int 8))))) (mNotT (mT (mCall gAll (mCons (mFrz c_are_coins_1) mNil))))))
  (sRet (mC (.bool false)))
  sNx)
  (sSeq (sIf (mNotT (mT (mImm (mCallA 1 m_is_rising (mCons (mFrz c_are_coins_2) mNil)))))
  (sRet (mC (.bool false)))
  sNx)
  (sSeq (sSetN 2 c_are_coins_3)
  (sSeq l_are_coins_2
  (sRet (mC (.bool true)))))))

def m_need_coins : List A → Rs A := runFn 1
  (sIf (mNotT (mT (mImm (mCallA 1 m_are_coins (mCons (mVar 0) mNil)))))
  Md.stuck
  sNx)

def x_is_stock_1 : Md Opd :=
  (mImm (mCallA 3 m_is_from (mCons (mVar 2) (mCons (mC (.int 0)) (mCons (mC (.int (10 ^ 30))) mNil)))))
def c_is_stock_1 : Md Own :=
  mLc [2] (mSeq (mVar 1)) (tN 2) (Md.ret true) x_is_stock_1
def m_is_stock : List A → Rs A := runFn 3
  (sSeq (sIf (mOrT (mNotT (mT (mIsi ["tuple"] (mVar 1)))) (mT (m2 gNe (mCall gLen (mCons (mVar 1) mNil)) (mCall gLen (mCons (mVar 0) mNil)))))
  (sRet (mC (.bool false)))
  sNx)
  (sRet (mCall gAll (mCons (mFrz c_is_stock_1) mNil))))

def m_need_purse : List A → Rs A := runFn 2
  (sSeq (sDrop (mImm (mCallA 1 m_need_coins (mCons (mVar 0) mNil))))
  (sIf (mNotT (mT (mImm (mCallA 2 m_is_stock (mCons (mVar 0) (mCons (mVar 1) mNil))))))
  Md.stuck
  sNx))

def t_lesser_1 : Md Bool :=
  (mT (m2 gEq (m2 gIx (mVar 3) (mC (.int 2))) (m2 gIx (m2 gIx (mVar 0) (mVar 1)) (mC (.int 0)))))
def c_lesser_1 : Md Own :=
  mLc [2, 3] (mEnum (mCons (mVar 0) mNil)) (tTupT 2 (tsCons (tN 2) (tsCons (tN 3) tsNil))) t_lesser_1 (mVar 2)
def m_lesser : List A → Rs A := runFn 4
  (sRetN c_lesser_1)

def x_from_below_1 : Md Opd :=
  (m2 gIn (mVar 3) (mVar 1))
def c_from_below_1 : Md Own :=
  mLc [3] (mSeq (mImm (mCallA 2 m_lesser (mCons (mVar 0) (mCons (mVar 2) mNil))))) (tN 3) (Md.ret true) x_from_below_1
def b_from_below_1 : Md Fw :=
  (sIf (mAndT (mT (m2 gNotIn (mVar 2) (mVar 1))) (mT (mCall gAll (mCons (mFrz c_from_below_1) mNil))))
  (sDrop (mMeth 1 gAppend (mCons (mVar 2) mNil)))
  sNx)
def l_from_below_1 : Md Fw :=
  sFor (mRange1 (mCons (mCall gLen (mCons (mVar 0) mNil)) mNil)) (tN 2) b_from_below_1
def t_from_below_1 : Md Bool :=
  (mT (m2 gLt (mCall gLen (mCons (mVar 1) mNil)) (mCall gLen (mCons (mVar 0) mNil))))
def b_from_below_2 : Md Fw :=
  l_from_below_1
def l_from_below_2 : Md Fw :=
  whileL t_from_below_1 b_from_below_2 1000
def m_from_below : List A → Rs A := runFn 4
  (sSeq (sSetN 1 (mLstN mNil))
  (sSeq l_from_below_2
  (sRet (mVar 1))))

def x_gathered_1 : Md Opd :=
  (m2 gDiv (m2 gIx (mVar 2) (mVar 4)) (m2 gIx (m2 gIx (mVar 0) (mVar 4)) (mC (.int 1))))
def c_gathered_1 : Md Own :=
  mLc [4] (mSeq (mImm (mCallA 2 m_lesser (mCons (mVar 0) (mCons (mVar 3) mNil))))) (tN 4) (Md.ret true) x_gathered_1
def b_gathered_1 : Md Fw :=
  (sAug 2 gMod (mVar 4) (m2 gIx (m2 gIx (mVar 0) (mVar 4)) (mC (.int 1))))
def l_gathered_1 : Md Fw :=
  sFor (mSeq (mImm (mCallA 2 m_lesser (mCons (mVar 0) (mCons (mVar 3) mNil))))) (tN 4) b_gathered_1
def b_gathered_2 : Md Fw :=
  (sSeq (sAug 2 gAddI (mVar 3) (mCall gSum (mCons (mFrz c_gathered_1) mNil)))
  l_gathered_1)
def l_gathered_2 : Md Fw :=
  sFor (mSeq (mImm (mCallA 1 m_from_below (mCons (mVar 0) mNil)))) (tN 3) b_gathered_2
def m_gathered : List A → Rs A := runFn 5
  (sSeq (sSetN 2 (mCallN gList (mCons (mVar 1) mNil)))
  (sSeq l_gathered_2
  (sRet (mCall gTuple (mCons (mVar 2) mNil)))))

def m_fewest : List A → Rs A := runFn 2
  (sSeq (sDrop (mImm (mCallA 2 m_need_purse (mCons (mVar 0) (mCons (mVar 1) mNil)))))
  (sRetA (mCallA 2 m_gathered (mCons (mVar 0) (mCons (mVar 1) mNil)))))

def x_most_of_1 : Md Opd :=
  (m2 gMul (m2 gIx (m2 gIx (mVar 0) (mVar 4)) (mC (.int 1))) (m2 gIx (mVar 2) (mVar 4)))
def c_most_of_1 : Md Own :=
  mLc [4] (mSeq (mImm (mCallA 2 m_lesser (mCons (mVar 0) (mCons (mVar 3) mNil))))) (tN 4) (Md.ret true) x_most_of_1
def b_most_of_1 : Md Fw :=
  (sPut 2 (mVar 3) (mCall gMax (mCons (m2 gAdd (mLst (mCons (mC (.int 1)) mNil)) (mFrz c_most_of_1)) mNil)))
def l_most_of_1 : Md Fw :=
  sFor (mSeq (mImm (mCallA 1 m_from_below (mCons (mVar 0) mNil)))) (tN 3) b_most_of_1
def x_most_of_2 : Md Opd :=
  (m2 gMul (mVar 5) (m2 gIx (mVar 2) (mVar 3)))
def c_most_of_2 : Md Own :=
  mLc [3, 5] (mEnum (mCons (mImm (mCallA 2 m_gathered (mCons (mVar 0) (mCons (mVar 1) mNil)))) mNil)) (tTupT 2 (tsCons (tN 3) (tsCons (tN 5) tsNil))) (Md.ret true) x_most_of_2
def m_most_of : List A → Rs A := runFn 6
  (sSeq (sSetN 2 mDict)
  (sSeq l_most_of_1
  (sRet (mCall gSum (mCons (mFrz c_most_of_2) mNil)))))

def m_most : List A → Rs A := runFn 2
  (sSeq (sDrop (mImm (mCallA 2 m_need_purse (mCons (mVar 0) (mCons (mVar 1) mNil)))))
  (sRetA (mCallA 2 m_most_of (mCons (mVar 0) (mCons (mVar 1) mNil)))))

def m_need_two : List A → Rs A := runFn 3
  (sSeq (sDrop (mImm (mCallA 2 m_need_purse (mCons (mVar 0) (mCons (mVar 1) mNil)))))
  (sIf (mNotT (mT (mImm (mCallA 2 m_is_stock (mCons (mVar 0) (mCons (mVar 2) mNil))))))
  Md.stuck
  sNx))

def x_reckoned_1 : Md Opd :=
  (m2 gIn (mVar 7) (mVar 3))
def c_reckoned_1 : Md Own :=
  mLc [7] (mSeq (mVar 6)) (tN 7) (Md.ret true) x_reckoned_1
def x_reckoned_2 : Md Opd :=
  (m2 gIx (mVar 3) (mVar 7))
def c_reckoned_2 : Md Own :=
  mLc [7] (mSeq (mVar 6)) (tN 7) (Md.ret true) x_reckoned_2
def b_reckoned_1 : Md Fw :=
  (sSeq (sSet 6 (mImm (mCallA 2 m_lesser (mCons (mVar 0) (mCons (mVar 5) mNil)))))
  (sSeq (sIf (mNotT (mT (mCall gAll (mCons (mFrz c_reckoned_1) mNil))))
  (Md.ret .ct)
  sNx)
  (sSeq (sSet 8 (m2 gAdd (m2 DV.gSub (m2 gIx (mVar 1) (mVar 5)) (m2 gIx (mVar 2) (mVar 5))) (mCall gSum (mCons (mFrz c_reckoned_2) mNil))))
  (sSeq (sSet 9 (m2 gIx (m2 gIx (mVar 0) (mVar 5)) (mC (.int 1))))
  (sIf (mAndT (mT (m2 gEq (mVar 9) (mC (.int 0)))) (mT (m2 gNe (mVar 8) (mC (.int 0)))))
  (sPut 4 (mVar 5) (mVar 8))
  (sIf (mAndT (mT (m2 gGt (mVar 9) (mC (.int 0)))) (mT (m2 gNe (m2 gMod (mVar 8) (mVar 9)) (mC (.int 0)))))
  (sPut 4 (mVar 5) (m2 gMod (mVar 8) (mVar 9)))
  (sPut 3 (mVar 5) (mIf (mT (m2 gGt (mVar 9) (mC (.int 0)))) (m2 gDiv (mVar 8) (mVar 9)) (mC (.int 0))))))))))
def l_reckoned_1 : Md Fw :=
  sFor (mSeq (mImm (mCallA 1 m_from_below (mCons (mVar 0) mNil)))) (tN 5) b_reckoned_1
def m_reckoned : List A → Rs A := runFn 10
  (sSeq (sSetN 3 mDict)
  (sSeq (sSetN 4 mDict)
  (sSeq l_reckoned_1
  (sRet (mTup (mCons (mFrzV 3) (mCons (mFrzV 4) mNil)))))))

def x_counted_1 : Md Opd :=
  (m2 gIx (mVar 3) (mVar 5))
def c_counted_1 : Md Own :=
  mLc [5] (mRange1 (mCons (mCall gLen (mCons (mVar 0) mNil)) mNil)) (tN 5) (Md.ret true) x_counted_1
def m_counted : List A → Rs A := runFn 6
  (sSeq (sTg (tTupT 2 (tsCons (tN 3) (tsCons (tN 4) tsNil))) (mImm (mCallA 3 m_reckoned (mCons (mVar 0) (mCons (mVar 1) (mCons (mVar 2) mNil))))))
  (sRet (mIf (mT (mEmp false (mVar 4))) (mCall gTuple (mCons (mFrz c_counted_1) mNil)) (mC .none))))

def m_count : List A → Rs A := runFn 3
  (sSeq (sDrop (mImm (mCallA 3 m_need_two (mCons (mVar 0) (mCons (mVar 1) (mCons (mVar 2) mNil))))))
  (sRetA (mCallA 3 m_counted (mCons (mVar 0) (mCons (mVar 1) (mCons (mVar 2) mNil))))))

def t_row_to_1 : Md Bool :=
  (mT (m2 gGt (m2 gIx (mVar 3) (mVar 6)) (mC (.int 0))))
def x_row_to_1 : Md Opd :=
  (mTup (mCons (m2 gIx (m2 gIx (mVar 0) (mVar 6)) (mC (.int 0))) (mCons (m2 gIx (mVar 3) (mVar 6)) mNil)))
def c_row_to_1 : Md Own :=
  mLc [6] (mSeq (mVar 4)) (tN 6) t_row_to_1 x_row_to_1
def t_row_to_2 : Md Bool :=
  (mT (m2 gLt (m2 gIx (mVar 3) (mVar 6)) (mC (.int 0))))
def x_row_to_2 : Md Opd :=
  (mTup (mCons (m2 gIx (m2 gIx (mVar 0) (mVar 6)) (mC (.int 0))) (mCons (m2 gIx (mVar 3) (mVar 6)) mNil)))
def c_row_to_2 : Md Own :=
  mLc [6] (mSeq (mRev (mVar 4))) (tN 6) t_row_to_2 x_row_to_2
def m_row_to : List A → Rs A := runFn 7
  (sSeq (sDrop (mImm (mCallA 3 m_need_two (mCons (mVar 0) (mCons (mVar 1) (mCons (mVar 2) mNil))))))
  (sSeq (sSet 3 (mImm (mCallA 3 m_counted (mCons (mVar 0) (mCons (mVar 1) (mCons (mVar 2) mNil))))))
  (sSeq (sIf (mT (m2 gIsN (mVar 3) (mC .none)))
  (sRet (mC .none))
  sNx)
  (sSeq (sSet 4 (mImm (mCallA 1 m_from_below (mCons (mVar 0) mNil))))
  (sSeq (sSet 5 (mFrz c_row_to_1))
  (sRet (m2 gAdd (mVar 5) (mFrz c_row_to_2))))))))

def m__law_deck : List A → Rs A := runFn 2
  (sSeq (sIf (mT (m2 gGe (mVar 0) (m2 gPow (mC (.int 10)) (mC (.int 18)))))
  (sRetN (mLstN (mCons (m2 DV.gSub (mVar 0) (m2 gPow (mC (.int 10)) (mC (.int 18)))) (mCons (m2 gMod (mVar 0) (mC (.int 2147483579))) (mCons (mVar 1) mNil)))))
  sNx)
  (sRetN (mLstN (mCons (mC (.int 0)) (mCons (m2 gMod (mVar 0) (mC (.int 2147483579))) (mCons (mVar 1) mNil))))))

def m__law_pick : List A → Rs A := runFn 4
  (sSeq (sIf (mT (m2 gGt (m2 gIx (mVar 0) (mC (.int 0))) (mC (.int 1))))
  (sSeq (sSet 2 (m2 gMod (m2 gIx (mVar 0) (mC (.int 0))) (mVar 1)))
  (sSeq (sPut 0 (mC (.int 0)) (m2 gDiv (m2 gIx (mVar 0) (mC (.int 0))) (mVar 1)))
  (sRet (mVar 2))))
  sNx)
  (sSeq (sPut 0 (mC (.int 2)) (m2 gAdd (m2 gIx (mVar 0) (mC (.int 2))) (mC (.int 1))))
  (sSeq (sSet 3 (m2 gMod (m2 gPow (m2 gAdd (m2 gIx (mVar 0) (mC (.int 1))) (m2 gMul (mC (.int 15485867)) (m2 gIx (mVar 0) (mC (.int 2))))) (mC (.int 5))) (mC (.int 2147483647))))
  (sSeq (sSet 2 (m2 gDiv (m2 gMod (m2 gPow (m2 gAdd (mVar 3) (m2 gMul (mC (.int 7919)) (m2 gIx (mVar 0) (mC (.int 2))))) (mC (.int 3))) (mC (.int 2147483629))) (mC (.int 32))))
  (sRet (m2 gMod (mVar 2) (mVar 1)))))))

def m__law_one : List A → Rs A := runFn 2
  (sRet (m2 gIx (mVar 1) (mImm (mCallA 2 m__law_pick (mCons (mVar 0) (mCons (mCall gLen (mCons (mVar 1) mNil)) mNil))))))

def b__law_coins_1 : Md Fw :=
  (sDrop (mMeth 3 gAppend (mCons (mMeth 2 gPopAt (mCons (mImm (mCallA 2 m__law_pick (mCons (mVar 0) (mCons (mCall gLen (mCons (mVar 2) mNil)) mNil)))) mNil)) mNil)))
def l__law_coins_1 : Md Fw :=
  sFor (mRange1 (mCons (m2 gAdd (mC (.int 1)) (mImm (mCallA 2 m__law_pick (mCons (mVar 0) (mCons (mVar 1) mNil))))) mNil)) (tN 4) b__law_coins_1
def b__law_coins_2 : Md Fw :=
  (sIf (mOrT (mT (m2 gEq (mVar 6) (mC (.int 0)))) (mT (m2 gEq (mImm (mCallA 2 m__law_pick (mCons (mVar 0) (mCons (mC (.int 7)) mNil)))) (mC (.int 0)))))
  (sDrop (mMeth 5 gAppend (mCons (mTup (mCons (mVar 7) (mCons (mC (.int 0)) (mCons (mC (.str ("" : Str))) mNil)))) mNil)))
  (sDrop (mMeth 5 gAppend (mCons (mTup (mCons (mVar 7) (mCons (mImm (mCallA 2 m__law_one (mCons (mVar 0) (mCons (mLst (mCons (mC (.int 2)) (mCons (mC (.int 2)) (mCons (mC (.int 3)) (mCons (mC (.int 5)) (mCons (m2 gAdd (mC (.int 2)) (mImm (mCallA 2 m__law_pick (mCons (mVar 0) (mCons (mC (.int 8)) mNil))))) mNil)))))) mNil)))) (mCons (m2 gIx (mVar 3) (mImm (mCallA 2 m__law_pick (mCons (mVar 0) (mCons (mVar 6) mNil))))) mNil)))) mNil))))
def l__law_coins_2 : Md Fw :=
  sFor (mEnum (mCons (mFrzV 3) mNil)) (tTupT 2 (tsCons (tN 6) (tsCons (tN 7) tsNil))) b__law_coins_2
def m__law_coins : List A → Rs A := runFn 8
  (sSeq (sSetN 2 (mLstN (mCons (mC (.str ("ant" : Str))) (mCons (mC (.str ("bee" : Str))) (mCons (mC (.str ("cent" : Str))) (mCons (mC (.str ("dime" : Str))) (mCons (mC (.str ("elk" : Str))) (mCons (mC (.str ("fox" : Str))) (mCons (mC (.str ("gnu" : Str))) (mCons (mC (.str ("hen" : Str))) mNil))))))))))
  (sSeq (sSetN 3 (mLstN mNil))
  (sSeq l__law_coins_1
  (sSeq (sSetN 5 (mLstN mNil))
  (sSeq l__law_coins_2
  (sRet (mCall gTuple (mCons (mFrz (mCallN gSorted (mCons (mVar 5) mNil))) mNil))))))))

def b__law_purse_1 : Md Fw :=
  (sDrop (mMeth 3 gAppend (mCons (mImm (mCallA 2 m__law_one (mCons (mVar 0) (mCons (mLst (mCons (mC (.int 0)) (mCons (mC (.int 1)) (mCons (mImm (mCallA 2 m__law_pick (mCons (mVar 0) (mCons (m2 gAdd (mVar 2) (mC (.int 1))) mNil)))) (mCons (mImm (mCallA 2 m__law_pick (mCons (mVar 0) (mCons (m2 gAdd (mVar 2) (mC (.int 1))) mNil)))) mNil))))) mNil)))) mNil)))
def l__law_purse_1 : Md Fw :=
  sFor (mSeq (mVar 1)) (tN 4) b__law_purse_1
def m__law_purse : List A → Rs A := runFn 5
  (sSeq (sSetN 3 (mLstN mNil))
  (sSeq l__law_purse_1
  (sRet (mCall gTuple (mCons (mVar 3) mNil)))))

def x__law_at_1 : Md Opd :=
  (m2 gIx (mVar 2) (mC (.int 0)))
def c__law_at_1 : Md Own :=
  mLc [2] (mSeq (mVar 0)) (tN 2) (Md.ret true) x__law_at_1
def m__law_at : List A → Rs A := runFn 3
  (sRet (mLook gIndex (mFrz c__law_at_1) (mCons (mVar 1) mNil)))

def m__law_changed : List A → Rs A := runFn 8
  (sSeq (sSet 4 (mImm (mCallA 2 m__law_at (mCons (mVar 0) (mCons (mVar 2) mNil)))))
  (sSeq (sPar 5 6 (mCons (m2 gIx (m2 gIx (mVar 0) (mVar 4)) (mC (.int 1))) (mCons (mImm (mCallA 2 m__law_at (mCons (mVar 0) (mCons (m2 gIx (m2 gIx (mVar 0) (mVar 4)) (mC (.int 2))) mNil)))) mNil)))
  (sSeq (sSetN 7 (mCallN gList (mCons (mVar 1) mNil)))
  (sSeq (sPut 7 (mVar 4) (m2 DV.gSub (m2 gIx (mVar 7) (mVar 4)) (m2 gMul (mVar 5) (mVar 3))))
  (sSeq (sPut 7 (mVar 6) (m2 gAdd (m2 gIx (mVar 7) (mVar 6)) (mVar 3)))
  (sRet (mIf (mT (m2 gGe (mCall gMin (mCons (mVar 7) mNil)) (mC (.int 0)))) (mCall gTuple (mCons (mVar 7) mNil)) (mC .none))))))))

def b__law_done_1 : Md Fw :=
  (sIf (mT (m2 gNotN (mVar 1) (mC .none)))
  (sSet 1 (mImm (mCallA 4 m__law_changed (mCons (mVar 0) (mCons (mVar 1) (mCons (mVar 3) (mCons (mVar 4) mNil)))))))
  sNx)
def l__law_done_1 : Md Fw :=
  sFor (mSeq (mVar 2)) (tTupT 2 (tsCons (tN 3) (tsCons (tN 4) tsNil))) b__law_done_1
def m__law_done : List A → Rs A := runFn 5
  (sSeq l__law_done_1
  (sRet (mVar 1)))

def b__law_singles_1 : Md Fw :=
  (sIf (mAndT (mT (m2 gNe (m2 gIx (mVar 3) (mC (.int 2))) (mC (.str ("" : Str))))) (mT (m2 gNotN (mImm (mCallA 4 m__law_changed (mCons (mVar 0) (mCons (mVar 1) (mCons (m2 gIx (mVar 3) (mC (.int 0))) (mCons (mVar 4) mNil)))))) (mC .none))))
  (sDrop (mMeth 2 gAppend (mCons (mTup (mCons (m2 gIx (mVar 3) (mC (.int 0))) (mCons (mVar 4) mNil))) mNil)))
  sNx)
def l__law_singles_1 : Md Fw :=
  sFor (mSeq (mLst (mCons (m1 gNeg (mC (.int 1))) (mCons (mC (.int 1)) mNil)))) (tN 4) b__law_singles_1
def b__law_singles_2 : Md Fw :=
  l__law_singles_1
def l__law_singles_2 : Md Fw :=
  sFor (mSeq (mVar 0)) (tN 3) b__law_singles_2
def m__law_singles : List A → Rs A := runFn 5
  (sSeq (sSetN 2 (mLstN mNil))
  (sSeq l__law_singles_2
  (sRet (mVar 2))))

def b__law_row_1 : Md Fw :=
  (sSeq (sSet 7 (mImm (mCallA 2 m__law_singles (mCons (mVar 1) (mCons (mVar 2) mNil)))))
  (sSeq (sIf (mT (m2 gEq (mVar 7) (mLst mNil)))
  (sRet (mVar 5))
  sNx)
  (sSeq (sTg (tTupT 2 (tsCons (tN 8) (tsCons (tN 9) tsNil))) (mImm (mCallA 2 m__law_one (mCons (mVar 0) (mCons (mVar 7) mNil)))))
  (sSeq (sSet 10 (m2 gMul (mVar 9) (m2 gAdd (mC (.int 1)) (mImm (mCallA 2 m__law_pick (mCons (mVar 0) (mCons (mVar 4) mNil)))))))
  (sSeq (sSet 11 (mImm (mCallA 4 m__law_changed (mCons (mVar 1) (mCons (mVar 2) (mCons (mVar 8) (mCons (mVar 10) mNil)))))))
  (sSeq (sIf (mT (m2 gIsN (mVar 11) (mC .none)))
  (sSeq (sSet 10 (mVar 9))
  (sSet 11 (mImm (mCallA 4 m__law_changed (mCons (mVar 1) (mCons (mVar 2) (mCons (mVar 8) (mCons (mVar 10) mNil))))))))
  sNx)
  (sSeq (sDrop (mMeth 5 gAppend (mCons (mTup (mCons (mVar 8) (mCons (mVar 10) mNil))) mNil)))
  (sSet 2 (mVar 11)))))))))
def l__law_row_1 : Md Fw :=
  sFor (mRange1 (mCons (mImm (mCallA 2 m__law_pick (mCons (mVar 0) (mCons (m2 gAdd (mVar 3) (mC (.int 1))) mNil)))) mNil)) (tN 6) b__law_row_1
def m__law_row : List A → Rs A := runFn 12
  (sSeq (sSetN 5 (mLstN mNil))
  (sSeq l__law_row_1
  (sRet (mVar 5))))

def b_law_1 : Md Fw :=
  (sIf (mAndT (mT (m2 gNe (m2 gIx (mVar 9) (mC (.int 2))) (mC (.str ("" : Str))))) (mT (m2 gGe (m2 gIx (mVar 5) (mVar 8)) (m2 gIx (mVar 9) (mC (.int 1))))))
  (sRet (mC (.bool false)))
  sNx)
def l_law_1 : Md Fw :=
  sFor (mEnum (mCons (mVar 3) mNil)) (tTupT 2 (tsCons (tN 8) (tsCons (tN 9) tsNil))) b_law_1
def b_law_2 : Md Fw :=
  (sSeq (sSet 10 (mImm (mCallA 3 m__law_done (mCons (mVar 3) (mCons (mVar 10) (mCons (mImm (mCallA 5 m__law_row (mCons (mVar 2) (mCons (mVar 3) (mCons (mVar 10) (mCons (mC (.int 8)) (mCons (m2 gAdd (mC (.int 1)) (m2 gDiv (mCall gMax (mCons (mVar 10) mNil)) (mC (.int 500)))) mNil))))))) mNil))))))
  (sIf (mT (m2 gLe (mCall gMax (mCons (mVar 10) mNil)) (m2 gPow (mC (.int 10)) (mC (.int 30)))))
  (sSeq (sIf (mOrT (mT (m2 gNe (mImm (mCallA 2 m_fewest (mCons (mVar 3) (mCons (mVar 10) mNil)))) (mVar 5))) (mT (m2 gNe (mImm (mCallA 2 m_most (mCons (mVar 3) (mCons (mVar 10) mNil)))) (mVar 6))))
  (sRet (mC (.bool false)))
  sNx)
  (sSeq (sIf (mNotT (mT (mChain gLe gLe (mCall gSum (mCons (mVar 5) mNil)) (mCall gSum (mCons (mVar 10) mNil)) (mVar 6))))
  (sRet (mC (.bool false)))
  sNx)
  (sIf (mAndT (mT (m2 gEq (mCall gSum (mCons (mVar 10) mNil)) (mCall gSum (mCons (mVar 5) mNil)))) (mT (m2 gNe (mVar 10) (mVar 5))))
  (sRet (mC (.bool false)))
  sNx)))
  sNx))
def l_law_2 : Md Fw :=
  sFor (mRange1 (mCons (mC (.int 4)) mNil)) (tN 11) b_law_2
def b_law_3 : Md Fw :=
  (sSeq (sSetN 2 (mOwn (mCallA 2 m__law_deck (mCons (mVar 1) (mCons (mC (.int 9)) mNil)))))
  (sSeq (sSet 3 (mImm (mCallA 2 m__law_coins (mCons (mVar 2) (mCons (mC (.int 8)) mNil)))))
  (sSeq (sSet 4 (mImm (mCallA 3 m__law_purse (mCons (mVar 2) (mCons (mVar 3) (mCons (mImm (mCallA 2 m__law_one (mCons (mVar 2) (mCons (mLst (mCons (mC (.int 40)) (mCons (m2 gPow (mC (.int 10)) (mC (.int 9))) (mCons (m2 gPow (mC (.int 10)) (mC (.int 28))) mNil)))) mNil)))) mNil))))))
  (sSeq (sPar 5 6 (mCons (mImm (mCallA 2 m_fewest (mCons (mVar 3) (mCons (mVar 4) mNil)))) (mCons (mImm (mCallA 2 m_most (mCons (mVar 3) (mCons (mVar 4) mNil)))) mNil)))
  (sSeq (sSet 7 (mImm (mCallA 3 m_count (mCons (mVar 3) (mCons (mVar 4) (mCons (mVar 5) mNil))))))
  (sSeq (sIf (mOrT (mT (m2 gIsN (mVar 7) (mC .none))) (mT (m2 gLt (mCall gMin (mCons (mVar 7) mNil)) (mC (.int 0)))))
  (sRet (mC (.bool false)))
  sNx)
  (sSeq (sIf (mT (m2 gNe (mImm (mCallA 3 m__law_done (mCons (mVar 3) (mCons (mVar 4) (mCons (mImm (mCallA 3 m_row_to (mCons (mVar 3) (mCons (mVar 4) (mCons (mVar 5) mNil))))) mNil))))) (mVar 5)))
  (sRet (mC (.bool false)))
  sNx)
  (sSeq l_law_1
  (sSeq (sSet 10 (mVar 4))
  l_law_2)))))))))
def l_law_3 : Md Fw :=
  sFor (mSeq (mSl (m2 gAdd (mLst (mCons (mC (.int 0)) mNil)) (mVar 0)) (Md.ret none) (mPart (mC (.int 10))))) (tN 1) b_law_3
def m_law : List A → Rs A := runFn 12
  (sSeq l_law_3
  (sRet (mC (.bool true))))

section
variable {P : Program} {w : World} {K : Kf} {mg : Str → Option Value} {base : Heap}
abbrev N_is_from : List Str := [("thing" : Str), ("low" : Str), ("high" : Str)]
theorem sc_is_from : FnScope N_is_from [("thing" : Str), ("low" : Str), ("high" : Str)] (defScope (topS 8)) := ⟨rfl, rfl, rfl, by decide +kernel, rfl, by decide +kernel, by decide +kernel⟩
theorem ok_is_from {f : Addr} {fd : FuncData} (F : Fun K "is_from" "is_from" (topS 8) f fd) (T : Txt K mg) : FnOk P w K mg base CX0 1 f fd [("thing" : Str), ("low" : Str), ("high" : Str)] (spOf K 3 3 m_is_from) :=
  fn_ok (k := 0) F sc_is_from fun cdv A out s H E hr => by
    have nd := sc_is_from.nd
    refine ⟨_, (pss_one (ps_ret (pe_and (pe_callB (kc_isi K) (by rfl) T.z_isinstance rfl (pa_cons (pv 0) (pa_cons (pe_bltn (v := .ty "int") (by rfl) T.z_int rfl rfl) pa_nil))) (pe_and (pe_not (pe_callB (kc_isi K) (by rfl) T.z_isinstance rfl (pa_cons (pv 0) (pa_cons (pe_bltn (v := .ty "bool") (by rfl) T.z_bool rfl rfl) pa_nil)))) (pe_one (pe_chain op_leS op_leS (pv 1) (pv 0) (pv 2))))))), ?_⟩
    exact (st_ret (ev_andV (ev_isi "int" (by decide) (ev_var (i := 0))) (ev_andV (ev_notV (ev_isi "bool" (by decide) (ev_var (i := 0)))) (ev_chain g_le g_le (ev_var (i := 1)) (ev_var (i := 0)) (ev_var (i := 2))))))

abbrev N_is_name : List Str := [("thing" : Str), ("sign" : Str)]
theorem sc_is_name : FnScope N_is_name [("thing" : Str)] (defScope (topS 9)) := ⟨rfl, rfl, rfl, by decide +kernel, rfl, by decide +kernel, by decide +kernel⟩
theorem ok_is_name {f : Addr} {fd : FuncData} (F : Fun K "is_name" "is_name" (topS 9) f fd) (T : Txt K mg) : FnOk P w K mg base CX0 1 f fd [("thing" : Str)] (spOf K 1 2 m_is_name) :=
  fn_ok (k := 0) F sc_is_name fun cdv A out s H E hr => by
    have nd := sc_is_name.nd
    refine ⟨_, (pss_one (ps_ret (pe_and (pe_callB (kc_isi K) (by rfl) T.z_isinstance rfl (pa_cons (pv 0) (pa_cons (pe_bltn (v := .ty "str") (by rfl) T.z_str rfl rfl) pa_nil))) (pe_and (pe_chain op_leS op_leS pe_int (pe_callB (kc_len K) (by rfl) T.z_len rfl (pa_cons (pv 0) pa_nil)) pe_int) (pe_one (pe_callB (kc_all K rfl) (by rfl) T.z_all rfl (pa_cons (pe_lc rfl nd (pi_str (pv 0)) (own := [(("sign" : Str), 1)]) (blk_ok (by rfl)) (fun _ _ _ _ _ => (pg_name (i := 1) nd rfl (by first | exact Or.inl rfl | exact Or.inr rfl))) (fun _ _ _ _ _ => pts_nil) (fun _ _ _ _ _ => (pe_cmpR (k_in K (by exact hu65 hr)) (pv 1) (pe_gc (by rfl) T.c_LETTERS) (by rfl)))) pa_nil))))))), ?_⟩
    exact (st_ret (ev_andV (ev_isi "str" (by decide) (ev_var (i := 0))) (ev_andV (ev_chain g_le g_le ev_int (ev_callB g_len (ea_cons (ev_var (i := 0)) ea_nil)) ev_int) (ev_callB g_all (ea_cons (ev_frz (en_lc (ei_str (ev_var (i := 0))) (tg_name (i := 1) (by decide)) et_yes (ev_op g_in (ev_var (i := 1)) ev_str))) ea_nil)))))

abbrev N_is_rising : List Str := [("things" : Str), ("one" : Str), ("other" : Str)]
theorem sc_is_rising : FnScope N_is_rising [("things" : Str)] (defScope (topS 10)) := ⟨rfl, rfl, rfl, by decide +kernel, rfl, by decide +kernel, by decide +kernel⟩
theorem ok_is_rising {f : Addr} {fd : FuncData} (F : Fun K "is_rising" "is_rising" (topS 10) f fd) (T : Txt K mg) : FnOk P w K mg base CX0 1 f fd [("things" : Str)] (spOf K 1 3 m_is_rising) :=
  fn_ok (k := 0) F sc_is_rising fun cdv A out s H E hr => by
    have nd := sc_is_rising.nd
    refine ⟨_, (pss_one (ps_ret (pe_callB (kc_all K rfl) (by rfl) T.z_all rfl (pa_cons (pe_lc rfl nd (kp_zip K (by rfl) T.z_zip (pa_cons (pv 0) (pa_cons (pe_slice (k_sl K) (pv 0) (po_some pe_int) po_none) pa_nil))) (own := [(("one" : Str), 1), (("other" : Str), 2)]) (blk_ok (by rfl)) (fun _ _ _ _ _ => (kg_tup K (n := 2) rfl (pgs_cons (pg_name (i := 1) nd rfl (by first | exact Or.inl rfl | exact Or.inr rfl)) (pgs_cons (pg_name (i := 2) nd rfl (by first | exact Or.inl rfl | exact Or.inr rfl)) pgs_nil)))) (fun _ _ _ _ _ => pts_nil) (fun _ _ _ _ _ => (pe_cmpR op_ltS (pv 1) (pv 2) (nomark _)))) pa_nil)))), ?_⟩
    exact (st_ret (ev_callB g_all (ea_cons (ev_frz (en_lc (ei_zip (ea_cons (ev_var (i := 0)) (ea_cons (ev_sl (ev_var (i := 0)) (ep_some ev_int) ep_none) ea_nil))) (tg_tup (tgs_cons (tg_name (i := 1) (by decide)) (tgs_cons (tg_name (i := 2) (by decide)) tgs_nil))) et_yes (ev_op g_lt (ev_var (i := 1)) (ev_var (i := 2))))) ea_nil)))

abbrev N_is_coin : List Str := [("thing" : Str)]
theorem sc_is_coin : FnScope N_is_coin [("thing" : Str)] (defScope (topS 11)) := ⟨rfl, rfl, rfl, by decide +kernel, rfl, by decide +kernel, by decide +kernel⟩
theorem ok_is_coin {f : Addr} {fd : FuncData} (F : Fun K "is_coin" "is_coin" (topS 11) f fd) (T : Txt K mg)
    (c_is_name : Cal P w K mg base 1 "is_name" (spOf K 1 2 m_is_name))
    (c_is_from : Cal P w K mg base 1 "is_from" (spOf K 3 3 m_is_from)) : FnOk P w K mg base CX0 2 f fd [("thing" : Str)] (spOf K 1 1 m_is_coin) :=
  fn_ok (k := 1) F sc_is_coin fun cdv A out s H E hr => by
    have nd := sc_is_coin.nd
    refine ⟨_, (pss_cons (ps_if ((pw_or (pt_not (pt_val (pe_callB (kc_isi K) (by rfl) T.z_isinstance rfl (pa_cons (pv 0) (pa_cons (pe_bltn (v := .ty "tuple") (by rfl) T.z_tuple rfl rfl) pa_nil))))) (pw_or (pt_cmpR (k_ne K (by exact hr.units)) (pe_callB (kc_len K) (by rfl) T.z_len rfl (pa_cons (pv 0) pa_nil)) pe_int (nomark _)) (pw_or (pt_not (pt_val (pe_c c_is_name hr (by decide) (by rfl) (pa_cons (pe_ix (k_ix K (by exact hu1 hr)) (pv 0) pe_int (fun _ _ => rfl)) pa_nil)))) (pw_or1 (pt_not (pt_val (pe_callB (kc_isi K) (by rfl) T.z_isinstance rfl (pa_cons (pe_ix (k_ix K (by exact hu1 hr)) (pv 0) pe_int (fun _ _ => rfl)) (pa_cons (pe_bltn (v := .ty "str") (by rfl) T.z_str rfl rfl) pa_nil)))))))))).pt
  (pss_one (ps_ret pe_bl))
  pss_nil)
  (pss_one (ps_ret (pe_ifExp (pt_cmpR (k_eq K (by exact hr.units)) (pe_ix (k_ix K (by exact hu1 hr)) (pv 0) pe_int (fun _ _ => rfl)) pe_str (nomark _)) (pe_c c_is_from hr (by decide) (by rfl) (pa_cons (pe_ix (k_ix K (by exact hu1 hr)) (pv 0) pe_int (fun _ _ => rfl)) (pa_cons pe_int (pa_cons pe_int pa_nil)))) (pe_c c_is_from hr (by decide) (by rfl) (pa_cons (pe_ix (k_ix K (by exact hu1 hr)) (pv 0) pe_int (fun _ _ => rfl)) (pa_cons pe_int (pa_cons pe_int pa_nil)))))))), ?_⟩
    exact (st_seq (st_if (et_or (et_not (et_b (ev_isi "tuple" (by decide) (ev_var (i := 0))))) (et_or (et_t (ev_op g_ne (ev_callB g_len (ea_cons (ev_var (i := 0)) ea_nil)) ev_int)) (et_or (et_not (et_b (ev_imm (er_call (ea_cons (ev_op g_ix (ev_var (i := 0)) ev_int) ea_nil))))) (et_not (et_b (ev_isi "str" (by decide) (ev_op g_ix (ev_var (i := 0)) ev_int)))))))
  (st_ret ev_bl)
  st_next)
  (st_ret (ev_if (et_t (ev_op g_eq (ev_op g_ix (ev_var (i := 0)) ev_int) ev_str)) (ev_imm (er_call (ea_cons (ev_op g_ix (ev_var (i := 0)) ev_int) (ea_cons ev_int (ea_cons ev_int ea_nil))))) (ev_imm (er_call (ea_cons (ev_op g_ix (ev_var (i := 0)) ev_int) (ea_cons ev_int (ea_cons ev_int ea_nil))))))))

abbrev N_are_coins : List Str := [("thing" : Str), ("one" : Str), ("above" : Str), ("kind" : Str), ("many" : Str), ("into" : Str), ("here" : Str), ("turn" : Str)]
theorem sc_are_coins : FnScope N_are_coins [("thing" : Str)] (defScope (topS 12)) := ⟨rfl, rfl, rfl, by decide +kernel, rfl, by decide +kernel, by decide +kernel⟩
theorem ok_are_coins {f : Addr} {fd : FuncData} (F : Fun K "are_coins" "are_coins" (topS 12) f fd) (T : Txt K mg)
    (c_is_coin : Cal P w K mg base 2 "is_coin" (spOf K 1 1 m_is_coin))
    (c_is_rising : Cal P w K mg base 1 "is_rising" (spOf K 1 3 m_is_rising)) : FnOk P w K mg base CX0 3 f fd [("thing" : Str)] (spOf K 1 8 m_are_coins) :=
  fn_ok (k := 2) F sc_are_coins fun cdv A out s H E hr => by
    have nd := sc_are_coins.nd
    refine ⟨_, (pss_cons (ps_if ((pw_or (pt_not (pt_val (pe_callB (kc_isi K) (by rfl) T.z_isinstance rfl (pa_cons (pv 0) (pa_cons (pe_bltn (v := .ty "tuple") (by rfl) T.z_tuple rfl rfl) pa_nil))))) (pw_or (pt_not (pt_chain op_leS op_leS pe_int (pe_callB (kc_len K) (by rfl) T.z_len rfl (pa_cons (pv 0) pa_nil)) (pe_gc (by rfl) T.c_MOST_KINDS))) (pw_or1 (pt_not (pt_val (pe_callB (kc_all K rfl) (by rfl) T.z_all rfl (pa_cons (pe_lc rfl nd (kp_seq K (pv 0)) (own := [(("one" : Str), 1)]) (blk_ok (by rfl)) (fun _ _ _ _ _ => (pg_name (i := 1) nd rfl (by first | exact Or.inl rfl | exact Or.inr rfl))) (fun _ _ _ _ _ => pts_nil) (fun _ _ _ _ _ => (pe_c c_is_coin hr (by decide) (by rfl) (pa_cons (pv 1) pa_nil)))) pa_nil)))))))).pt
  (pss_one (ps_ret pe_bl))
  pss_nil)
  (pss_cons (ps_if (pt_not (pt_val (pe_c c_is_rising hr (by decide) (by rfl) (pa_cons (pe_lc rfl nd (kp_seq K (pv 0)) (own := [(("one" : Str), 1)]) (blk_ok (by rfl)) (fun _ _ _ _ _ => (pg_name (i := 1) nd rfl (by first | exact Or.inl rfl | exact Or.inr rfl))) (fun _ _ _ _ _ => pts_nil) (fun _ _ _ _ _ => (pe_ix (k_ix K (by exact hu1 hr)) (pv 1) pe_int (fun _ _ => rfl)))) pa_nil))))
  (pss_one (ps_ret pe_bl))
  pss_nil)
  (pss_cons (ps_setDc (i := 2) rfl nd rfl rfl (by rfl) (kp_seq K (pv 0)) (own := [(("kind" : Str), 3), (("many" : Str), 4), (("into" : Str), 5)]) (blk_ok (by rfl)) (fun _ _ _ _ _ => (kg_tup K (n := 3) rfl (pgs_cons (pg_name (i := 3) nd rfl (by first | exact Or.inl rfl | exact Or.inr rfl)) (pgs_cons (pg_name (i := 4) nd rfl (by first | exact Or.inl rfl | exact Or.inr rfl)) (pgs_cons (pg_name (i := 5) nd rfl (by first | exact Or.inl rfl | exact Or.inr rfl)) pgs_nil))))) (fun _ _ _ _ _ => pts_nil) (fun _ _ _ _ _ => (pv 3)) (fun _ _ _ _ _ => (pv 5)))
  (pss_cons (ps_lock (ps_for PassesOwn.never rfl (pi_keys (pv 2)) (pg_name (i := 3) nd rfl (by first | exact Or.inl rfl | exact Or.inr rfl))
  (pss_cons (ps_set (i := 6) nd rfl (by first | exact Or.inl rfl | exact Or.inr rfl) (pv 3))
  (pss_cons (ps_for PassesOwn.never rfl (pi_range1 (by rfl) T.z_range (pa_cons (pe_callB (kc_len K) (by rfl) T.z_len rfl (pa_cons (pv 2) pa_nil)) pa_nil)) (pg_name (i := 7) nd rfl (by first | exact Or.inl rfl | exact Or.inr rfl))
  (pss_cons (ps_set (i := 6) nd rfl (by first | exact Or.inl rfl | exact Or.inr rfl) (pe_ifExp (pt_cmpR (k_ne K (by exact hr.units)) (pv 6) pe_str (nomark _)) (pe_dget2 (by exact hu1 hr) (pv 2) (pv 6) pe_str ⟨by rfl, by rfl, by rfl, by rfl⟩) pe_str))
  (pss_one (ps_if ((pw_and (pt_cmpR (k_ne K (by exact hr.units)) (pv 6) pe_str (nomark _)) (pw_and1 (pt_cmpR (k_notIn K (by exact hu65 hr)) (pv 6) (pv 2) (by rfl))))).pt
  (pss_one (ps_ret pe_bl))
  pss_nil))))
  (pss_one (ps_if (pt_cmpR (k_ne K (by exact hr.units)) (pv 6) pe_str (nomark _))
  (pss_one (ps_ret pe_bl))
  pss_nil))))))
  (pss_one (ps_ret pe_bl)))))), ?_⟩
    exact (st_seq (st_if (et_or (et_not (et_b (ev_isi "tuple" (by decide) (ev_var (i := 0))))) (et_or (et_not (et_t (ev_chain g_le g_le ev_int (ev_callB g_len (ea_cons (ev_var (i := 0)) ea_nil)) ev_int))) (et_not (et_b (ev_callB g_all (ea_cons (ev_frz (en_lc (ei_seq (ev_var (i := 0))) (tg_name (i := 1) (by decide)) et_yes (ev_imm (er_call (ea_cons (ev_var (i := 1)) ea_nil))))) ea_nil))))))
  (st_ret ev_bl)
  st_next)
  (st_seq (st_if (et_not (et_b (ev_imm (er_call (ea_cons (ev_frz (en_lc (ei_seq (ev_var (i := 0))) (tg_name (i := 1) (by decide)) et_yes (ev_op g_ix (ev_var (i := 1)) ev_int))) ea_nil)))))
  (st_ret ev_bl)
  st_next)
  (st_seq (st_setN (en_dc (ei_seq (ev_var (i := 0))) (tg_tup (tgs_cons (tg_name (i := 3) (by decide)) (tgs_cons (tg_name (i := 4) (by decide)) (tgs_cons (tg_name (i := 5) (by decide)) tgs_nil)))) et_yes (ev_var (i := 3)) (ev_var (i := 5))))
  (st_seq (st_forKeys (vs := [0, 1, 2, 3, 4, 5, 6, 7]) (tg_name (i := 3) (by decide))
  (st_seq (st_set (ev_var (i := 3)))
  (st_seq (st_for (vs := [0, 1, 2, 3, 4, 5, 6, 7]) (ei_range1 (ea_cons (ev_callB g_len (ea_cons (ev_var (i := 2)) ea_nil)) ea_nil)) (tg_name (i := 7) (by decide))
  (st_seq (st_set (ev_if (et_t (ev_op g_ne (ev_var (i := 6)) ev_str)) (ev_get (ev_var (i := 2)) (ev_var (i := 6)) ev_str) ev_str))
  (st_if (et_and (et_t (ev_op g_ne (ev_var (i := 6)) ev_str)) (et_t (ev_op g_notIn (ev_var (i := 6)) (ev_var (i := 2)))))
  (st_ret ev_bl)
  st_next)))
  (st_if (et_t (ev_op g_ne (ev_var (i := 6)) ev_str))
  (st_ret ev_bl)
  st_next))))
  (st_ret ev_bl)))))

abbrev N_need_coins : List Str := [("coins" : Str)]
theorem sc_need_coins : FnScope N_need_coins [("coins" : Str)] (defScope (topS 13)) := ⟨rfl, rfl, rfl, by decide +kernel, rfl, by decide +kernel, by decide +kernel⟩
theorem ok_need_coins {f : Addr} {fd : FuncData} (F : Fun K "need_coins" "need_coins" (topS 13) f fd) (T : Txt K mg)
    (c_are_coins : Cal P w K mg base 3 "are_coins" (spOf K 1 8 m_are_coins)) : FnOk P w K mg base CX0 4 f fd [("coins" : Str)] (spOf K 1 1 m_need_coins) :=
  fn_ok (k := 3) F sc_need_coins fun cdv A out s H E hr => by
    have nd := sc_need_coins.nd
    refine ⟨_, (pss_one (ps_if (pt_not (pt_val (pe_c c_are_coins hr (by decide) (by rfl) (pa_cons (pv 0) pa_nil))))
  (pss_one ps_never)
  pss_nil)), ?_⟩
    exact (st_if (et_not (et_b (ev_imm (er_call (ea_cons (ev_var (i := 0)) ea_nil)))))
  st_never
  st_next)

abbrev N_is_stock : List Str := [("coins" : Str), ("thing" : Str), ("one" : Str)]
theorem sc_is_stock : FnScope N_is_stock [("coins" : Str), ("thing" : Str)] (defScope (topS 14)) := ⟨rfl, rfl, rfl, by decide +kernel, rfl, by decide +kernel, by decide +kernel⟩
theorem ok_is_stock {f : Addr} {fd : FuncData} (F : Fun K "is_stock" "is_stock" (topS 14) f fd) (T : Txt K mg)
    (c_is_from : Cal P w K mg base 1 "is_from" (spOf K 3 3 m_is_from)) : FnOk P w K mg base CX0 2 f fd [("coins" : Str), ("thing" : Str)] (spOf K 2 3 m_is_stock) :=
  fn_ok (k := 1) F sc_is_stock fun cdv A out s H E hr => by
    have nd := sc_is_stock.nd
    refine ⟨_, (pss_cons (ps_if ((pw_or (pt_not (pt_val (pe_callB (kc_isi K) (by rfl) T.z_isinstance rfl (pa_cons (pv 1) (pa_cons (pe_bltn (v := .ty "tuple") (by rfl) T.z_tuple rfl rfl) pa_nil))))) (pw_or1 (pt_cmpR (k_ne K (by exact hr.units)) (pe_callB (kc_len K) (by rfl) T.z_len rfl (pa_cons (pv 1) pa_nil)) (pe_callB (kc_len K) (by rfl) T.z_len rfl (pa_cons (pv 0) pa_nil)) (nomark _))))).pt
  (pss_one (ps_ret pe_bl))
  pss_nil)
  (pss_one (ps_ret (pe_callB (kc_all K rfl) (by rfl) T.z_all rfl (pa_cons (pe_lc rfl nd (kp_seq K (pv 1)) (own := [(("one" : Str), 2)]) (blk_ok (by rfl)) (fun _ _ _ _ _ => (pg_name (i := 2) nd rfl (by first | exact Or.inl rfl | exact Or.inr rfl))) (fun _ _ _ _ _ => pts_nil) (fun _ _ _ _ _ => (pe_c c_is_from hr (by decide) (by rfl) (pa_cons (pv 2) (pa_cons pe_int (pa_cons (pe_gc (by rfl) T.c_MOST_COINS) pa_nil)))))) pa_nil))))), ?_⟩
    exact (st_seq (st_if (et_or (et_not (et_b (ev_isi "tuple" (by decide) (ev_var (i := 1))))) (et_t (ev_op g_ne (ev_callB g_len (ea_cons (ev_var (i := 1)) ea_nil)) (ev_callB g_len (ea_cons (ev_var (i := 0)) ea_nil)))))
  (st_ret ev_bl)
  st_next)
  (st_ret (ev_callB g_all (ea_cons (ev_frz (en_lc (ei_seq (ev_var (i := 1))) (tg_name (i := 2) (by decide)) et_yes (ev_imm (er_call (ea_cons (ev_var (i := 2)) (ea_cons ev_int (ea_cons ev_int ea_nil))))))) ea_nil))))

abbrev N_need_purse : List Str := [("coins" : Str), ("purse" : Str)]
theorem sc_need_purse : FnScope N_need_purse [("coins" : Str), ("purse" : Str)] (defScope (topS 15)) := ⟨rfl, rfl, rfl, by decide +kernel, rfl, by decide +kernel, by decide +kernel⟩
theorem ok_need_purse {f : Addr} {fd : FuncData} (F : Fun K "need_purse" "need_purse" (topS 15) f fd) (T : Txt K mg)
    (c_need_coins : Cal P w K mg base 4 "need_coins" (spOf K 1 1 m_need_coins))
    (c_is_stock : Cal P w K mg base 2 "is_stock" (spOf K 2 3 m_is_stock)) : FnOk P w K mg base CX0 5 f fd [("coins" : Str), ("purse" : Str)] (spOf K 2 2 m_need_purse) :=
  fn_ok (k := 4) F sc_need_purse fun cdv A out s H E hr => by
    have nd := sc_need_purse.nd
    refine ⟨_, (pss_cons (ps_expr (pe_c c_need_coins hr (by decide) (by rfl) (pa_cons (pv 0) pa_nil)))
  (pss_one (ps_if (pt_not (pt_val (pe_c c_is_stock hr (by decide) (by rfl) (pa_cons (pv 0) (pa_cons (pv 1) pa_nil)))))
  (pss_one ps_never)
  pss_nil))), ?_⟩
    exact (st_seq (st_drop (ev_imm (er_call (ea_cons (ev_var (i := 0)) ea_nil))))
  (st_if (et_not (et_b (ev_imm (er_call (ea_cons (ev_var (i := 0)) (ea_cons (ev_var (i := 1)) ea_nil))))))
  st_never
  st_next))

abbrev N_lesser : List Str := [("coins" : Str), ("at" : Str), ("place" : Str), ("row" : Str)]
theorem sc_lesser : FnScope N_lesser [("coins" : Str), ("at" : Str)] (defScope (topS 16)) := ⟨rfl, rfl, rfl, by decide +kernel, rfl, by decide +kernel, by decide +kernel⟩
theorem ok_lesser {f : Addr} {fd : FuncData} (F : Fun K "lesser" "lesser" (topS 16) f fd) (T : Txt K mg) : FnOk P w K mg base CX0 1 f fd [("coins" : Str), ("at" : Str)] (spOf K 2 4 m_lesser) :=
  fn_ok (k := 0) F sc_lesser fun cdv A out s H E hr => by
    have nd := sc_lesser.nd
    refine ⟨_, (pss_one (ps_ret (pe_lc rfl nd (kp_enum K (by rfl) T.z_enumerate (pa_cons (pv 0) pa_nil)) (own := [(("place" : Str), 2), (("row" : Str), 3)]) (blk_ok (by rfl)) (fun _ _ _ _ _ => (kg_tup K (n := 2) rfl (pgs_cons (pg_name (i := 2) nd rfl (by first | exact Or.inl rfl | exact Or.inr rfl)) (pgs_cons (pg_name (i := 3) nd rfl (by first | exact Or.inl rfl | exact Or.inr rfl)) pgs_nil)))) (fun _ _ _ _ _ => (pts_one (pt_cmpR (k_eq K (by exact hr.units)) (pe_ix (k_ix K (by exact hu1 hr)) (pv 3) pe_int (fun _ _ => rfl)) (pe_ix (k_ix K (by exact hu1 hr)) (pe_ix (k_ix K (by exact hu1 hr)) (pv 0) (pv 1) (fun _ _ => rfl)) pe_int (fun _ _ => rfl)) (nomark _)))) (fun _ _ _ _ _ => (pv 2))))), ?_⟩
    exact (st_retN (en_lc (ei_enum (ea_cons (ev_var (i := 0)) ea_nil)) (tg_tup (tgs_cons (tg_name (i := 2) (by decide)) (tgs_cons (tg_name (i := 3) (by decide)) tgs_nil))) (et_t (ev_op g_eq (ev_op g_ix (ev_var (i := 3)) ev_int) (ev_op g_ix (ev_op g_ix (ev_var (i := 0)) (ev_var (i := 1))) ev_int))) (ev_var (i := 2))))

abbrev N_from_below : List Str := [("coins" : Str), ("found" : Str), ("at" : Str), ("place" : Str)]
theorem sc_from_below : FnScope N_from_below [("coins" : Str)] (defScope (topS 17)) := ⟨rfl, rfl, rfl, by decide +kernel, rfl, by decide +kernel, by decide +kernel⟩
theorem ok_from_below {f : Addr} {fd : FuncData} (F : Fun K "from_below" "from_below" (topS 17) f fd) (T : Txt K mg)
    (c_lesser : Cal P w K mg base 1 "lesser" (spOf K 2 4 m_lesser)) : FnOk P w K mg base CX0 2 f fd [("coins" : Str)] (spOf K 1 4 m_from_below) :=
  fn_ok (k := 1) F sc_from_below fun cdv A out s H E hr => by
    have nd := sc_from_below.nd
    refine ⟨_, (pss_cons (ps_set (i := 1) nd rfl (by first | exact Or.inl rfl | exact Or.inr rfl) (pe_lst pa_nil))
  (pss_cons (ps_while PassesOwn.never (pt_cmpR op_ltS (pe_callB (kc_len K) (by rfl) T.z_len rfl (pa_cons (pv 1) pa_nil)) (pe_callB (kc_len K) (by rfl) T.z_len rfl (pa_cons (pv 0) pa_nil)) (nomark _))
  (pss_one (ps_for PassesOwn.never rfl (pi_range1 (by rfl) T.z_range (pa_cons (pe_callB (kc_len K) (by rfl) T.z_len rfl (pa_cons (pv 0) pa_nil)) pa_nil)) (pg_name (i := 2) nd rfl (by first | exact Or.inl rfl | exact Or.inr rfl))
  (pss_one (ps_if ((pw_and (pt_cmpR (k_notIn K (by exact hu65 hr)) (pv 2) (pv 1) (by rfl)) (pw_and1 (pt_val (pe_callB (kc_all K rfl) (by rfl) T.z_all rfl (pa_cons (pe_lc rfl nd (kp_seq K (pe_c c_lesser hr (by decide) (by rfl) (pa_cons (pv 0) (pa_cons (pv 2) pa_nil)))) (own := [(("place" : Str), 3)]) (blk_ok (by rfl)) (fun _ _ _ _ _ => (pg_name (i := 3) nd rfl (by first | exact Or.inl rfl | exact Or.inr rfl))) (fun _ _ _ _ _ => pts_nil) (fun _ _ _ _ _ => (pe_cmpR (k_in K (by exact hu65 hr)) (pv 3) (pv 1) (by rfl)))) pa_nil)))))).pt
  (pss_one (ps_expr (kp_bm K PySem.F.plainAttrs_list PySem.F.slot_list_append PySem.F.type_list_append mt_append (pv 1) (pa_cons (pv 2) pa_nil))))
  pss_nil)))))
  (pss_one (ps_ret (pv 1))))), ?_⟩
    exact (st_seq (st_setN (en_lst ea_nil))
  (st_seq (st_while (et_t (ev_op g_lt (ev_callB g_len (ea_cons (ev_var (i := 1)) ea_nil)) (ev_callB g_len (ea_cons (ev_var (i := 0)) ea_nil))))
  (st_for (vs := [0, 1, 2, 3]) (ei_range1 (ea_cons (ev_callB g_len (ea_cons (ev_var (i := 0)) ea_nil)) ea_nil)) (tg_name (i := 2) (by decide))
  (st_if (et_and (et_t (ev_op g_notIn (ev_var (i := 2)) (ev_var (i := 1)))) (et_b (ev_callB g_all (ea_cons (ev_frz (en_lc (ei_seq (ev_imm (er_call (ea_cons (ev_var (i := 0)) (ea_cons (ev_var (i := 2)) ea_nil))))) (tg_name (i := 3) (by decide)) et_yes (ev_op g_in (ev_var (i := 3)) (ev_var (i := 1))))) ea_nil))))
  (st_drop (ev_methB g_append (ea_cons (ev_var (i := 2)) ea_nil)))
  st_next)))
  (st_ret ev_var)))

abbrev N_gathered : List Str := [("coins" : Str), ("purse" : Str), ("found" : Str), ("at" : Str), ("place" : Str)]
theorem sc_gathered : FnScope N_gathered [("coins" : Str), ("purse" : Str)] (defScope (topS 19)) := ⟨rfl, rfl, rfl, by decide +kernel, rfl, by decide +kernel, by decide +kernel⟩
theorem ok_gathered {f : Addr} {fd : FuncData} (F : Fun K "gathered" "gathered" (topS 19) f fd) (T : Txt K mg)
    (c_from_below : Cal P w K mg base 2 "from_below" (spOf K 1 4 m_from_below))
    (c_lesser : Cal P w K mg base 1 "lesser" (spOf K 2 4 m_lesser)) : FnOk P w K mg base CX0 3 f fd [("coins" : Str), ("purse" : Str)] (spOf K 2 5 m_gathered) :=
  fn_ok (k := 2) F sc_gathered fun cdv A out s H E hr => by
    have nd := sc_gathered.nd
    refine ⟨_, (pss_cons (ps_set (i := 2) nd rfl (by first | exact Or.inl rfl | exact Or.inr rfl) (pe_callTy (kc_list K) (by rfl) T.z_list rfl (pa_cons (pv 1) pa_nil)))
  (pss_cons (ps_for PassesOwn.never rfl (kp_seq K (pe_c c_from_below hr (by decide) (by rfl) (pa_cons (pv 0) pa_nil))) (pg_name (i := 3) nd rfl (by first | exact Or.inl rfl | exact Or.inr rfl))
  (pss_cons (ps_augS (pv 2) (pv 3) (k_get K (by exact hu1 hr)) (pe_callB (kc_sum K rfl) (by rfl) T.z_sum rfl (pa_cons (pe_lc rfl nd (kp_seq K (pe_c c_lesser hr (by decide) (by rfl) (pa_cons (pv 0) (pa_cons (pv 3) pa_nil)))) (own := [(("place" : Str), 4)]) (blk_ok (by rfl)) (fun _ _ _ _ _ => (pg_name (i := 4) nd rfl (by first | exact Or.inl rfl | exact Or.inr rfl))) (fun _ _ _ _ _ => pts_nil) (fun _ _ _ _ _ => (pe_op op_fdivW (pe_ix (k_ix K (by exact hu1 hr)) (pv 2) (pv 4) (fun _ _ => rfl)) (pe_ix (k_ix K (by exact hu1 hr)) (pe_ix (k_ix K (by exact hu1 hr)) (pv 0) (pv 4) (fun _ _ => rfl)) pe_int (fun _ _ => rfl))))) pa_nil)) (PIp.of iop_add) (set_all (by exact hu1 hr)))
  (pss_one (ps_for PassesOwn.never rfl (kp_seq K (pe_c c_lesser hr (by decide) (by rfl) (pa_cons (pv 0) (pa_cons (pv 3) pa_nil)))) (pg_name (i := 4) nd rfl (by first | exact Or.inl rfl | exact Or.inr rfl))
  (pss_one (ps_augS (pv 2) (pv 4) (k_get K (by exact hu1 hr)) (pe_ix (k_ix K (by exact hu1 hr)) (pe_ix (k_ix K (by exact hu1 hr)) (pv 0) (pv 4) (fun _ _ => rfl)) pe_int (fun _ _ => rfl)) (PIp.of iop_mod) (set_all (by exact hu1 hr))))))))
  (pss_one (ps_ret (pe_callTy (kc_tuple K) (by rfl) T.z_tuple rfl (pa_cons (pv 2) pa_nil)))))), ?_⟩
    exact (st_seq (st_setN (en_callB g_list (ea_cons (ev_var (i := 1)) ea_nil)))
  (st_seq (st_for (vs := [0, 1, 2, 3, 4]) (ei_seq (ev_imm (er_call (ea_cons (ev_var (i := 0)) ea_nil)))) (tg_name (i := 3) (by decide))
  (st_seq (st_aug g_addI (ev_var (i := 3)) (ev_callB g_sum (ea_cons (ev_frz (en_lc (ei_seq (ev_imm (er_call (ea_cons (ev_var (i := 0)) (ea_cons (ev_var (i := 3)) ea_nil))))) (tg_name (i := 4) (by decide)) et_yes (ev_op g_div (ev_op g_ix (ev_var (i := 2)) (ev_var (i := 4))) (ev_op g_ix (ev_op g_ix (ev_var (i := 0)) (ev_var (i := 4))) ev_int)))) ea_nil)))
  (st_for (vs := [0, 1, 2, 3, 4]) (ei_seq (ev_imm (er_call (ea_cons (ev_var (i := 0)) (ea_cons (ev_var (i := 3)) ea_nil))))) (tg_name (i := 4) (by decide))
  (st_aug g_mod (ev_var (i := 4)) (ev_op g_ix (ev_op g_ix (ev_var (i := 0)) (ev_var (i := 4))) ev_int)))))
  (st_ret (ev_callB g_tuple (ea_cons (ev_var (i := 2)) ea_nil)))))

abbrev N_fewest : List Str := [("coins" : Str), ("purse" : Str)]
theorem sc_fewest : FnScope N_fewest [("coins" : Str), ("purse" : Str)] (defScope (topS 20)) := ⟨rfl, rfl, rfl, by decide +kernel, rfl, by decide +kernel, by decide +kernel⟩
theorem ok_fewest {f : Addr} {fd : FuncData} (F : Fun K "fewest" "fewest" (topS 20) f fd) (T : Txt K mg)
    (c_need_purse : Cal P w K mg base 5 "need_purse" (spOf K 2 2 m_need_purse))
    (c_gathered : Cal P w K mg base 3 "gathered" (spOf K 2 5 m_gathered)) : FnOk P w K mg base CX0 6 f fd [("coins" : Str), ("purse" : Str)] (spOf K 2 2 m_fewest) :=
  fn_ok (k := 5) F sc_fewest fun cdv A out s H E hr => by
    have nd := sc_fewest.nd
    refine ⟨_, (pss_cons (ps_expr (pe_c c_need_purse hr (by decide) (by rfl) (pa_cons (pv 0) (pa_cons (pv 1) pa_nil))))
  (pss_one (ps_ret (pe_c c_gathered hr (by decide) (by rfl) (pa_cons (pv 0) (pa_cons (pv 1) pa_nil)))))), ?_⟩
    exact (st_seq (st_drop (ev_imm (er_call (ea_cons (ev_var (i := 0)) (ea_cons (ev_var (i := 1)) ea_nil)))))
  (st_retA (er_call (ea_cons (ev_var (i := 0)) (ea_cons (ev_var (i := 1)) ea_nil)))))

abbrev N_most_of : List Str := [("coins" : Str), ("purse" : Str), ("broken" : Str), ("at" : Str), ("place" : Str), ("many" : Str)]
theorem sc_most_of : FnScope N_most_of [("coins" : Str), ("purse" : Str)] (defScope (topS 21)) := ⟨rfl, rfl, rfl, by decide +kernel, rfl, by decide +kernel, by decide +kernel⟩
theorem ok_most_of {f : Addr} {fd : FuncData} (F : Fun K "most_of" "most_of" (topS 21) f fd) (T : Txt K mg)
    (c_from_below : Cal P w K mg base 2 "from_below" (spOf K 1 4 m_from_below))
    (c_lesser : Cal P w K mg base 1 "lesser" (spOf K 2 4 m_lesser))
    (c_gathered : Cal P w K mg base 3 "gathered" (spOf K 2 5 m_gathered)) : FnOk P w K mg base CX0 4 f fd [("coins" : Str), ("purse" : Str)] (spOf K 2 6 m_most_of) :=
  fn_ok (k := 3) F sc_most_of fun cdv A out s H E hr => by
    have nd := sc_most_of.nd
    refine ⟨_, (pss_cons (ps_set (i := 2) nd rfl (by first | exact Or.inl rfl | exact Or.inr rfl) pe_dnewK)
  (pss_cons (ps_for PassesOwn.never rfl (kp_seq K (pe_c c_from_below hr (by decide) (by rfl) (pa_cons (pv 0) pa_nil))) (pg_name (i := 3) nd rfl (by first | exact Or.inl rfl | exact Or.inr rfl))
  (pss_one (ps_asg (pe_callB (kc_max K rfl (by exact hu65 hr)) (by rfl) T.z_max rfl (pa_cons (pe_op (k_add K) (pe_lst (pa_cons pe_int pa_nil)) (pe_lc rfl nd (kp_seq K (pe_c c_lesser hr (by decide) (by rfl) (pa_cons (pv 0) (pa_cons (pv 3) pa_nil)))) (own := [(("place" : Str), 4)]) (blk_ok (by rfl)) (fun _ _ _ _ _ => (pg_name (i := 4) nd rfl (by first | exact Or.inl rfl | exact Or.inr rfl))) (fun _ _ _ _ _ => pts_nil) (fun _ _ _ _ _ => (pe_op op_mulW (pe_ix (k_ix K (by exact hu1 hr)) (pe_ix (k_ix K (by exact hu1 hr)) (pv 0) (pv 4) (fun _ _ => rfl)) pe_int (fun _ _ => rfl)) (pe_ix (k_ix K (by exact hu1 hr)) (pv 2) (pv 4) (fun _ _ => rfl)))))) pa_nil)) (pg_sub (pv 2) (pv 3) (set_all (by exact hu1 hr))))))
  (pss_one (ps_ret (pe_callB (kc_sum K rfl) (by rfl) T.z_sum rfl (pa_cons (pe_lc rfl nd (kp_enum K (by rfl) T.z_enumerate (pa_cons (pe_c c_gathered hr (by decide) (by rfl) (pa_cons (pv 0) (pa_cons (pv 1) pa_nil))) pa_nil)) (own := [(("at" : Str), 3), (("many" : Str), 5)]) (blk_ok (by rfl)) (fun _ _ _ _ _ => (kg_tup K (n := 2) rfl (pgs_cons (pg_name (i := 3) nd rfl (by first | exact Or.inl rfl | exact Or.inr rfl)) (pgs_cons (pg_name (i := 5) nd rfl (by first | exact Or.inl rfl | exact Or.inr rfl)) pgs_nil)))) (fun _ _ _ _ _ => pts_nil) (fun _ _ _ _ _ => (pe_op op_mulW (pv 5) (pe_ix (k_ix K (by exact hu1 hr)) (pv 2) (pv 3) (fun _ _ => rfl))))) pa_nil)))))), ?_⟩
    exact (st_seq (st_setN en_dict)
  (st_seq (st_for (vs := [0, 1, 2, 3, 4, 5]) (ei_seq (ev_imm (er_call (ea_cons (ev_var (i := 0)) ea_nil)))) (tg_name (i := 3) (by decide))
  (st_put (ev_callB g_max (ea_cons (ev_op g_add (ev_lst (ea_cons ev_int ea_nil)) (ev_frz (en_lc (ei_seq (ev_imm (er_call (ea_cons (ev_var (i := 0)) (ea_cons (ev_var (i := 3)) ea_nil))))) (tg_name (i := 4) (by decide)) et_yes (ev_op g_mul (ev_op g_ix (ev_op g_ix (ev_var (i := 0)) (ev_var (i := 4))) ev_int) (ev_op g_ix (ev_var (i := 2)) (ev_var (i := 4))))))) ea_nil)) (ev_var (i := 3))))
  (st_ret (ev_callB g_sum (ea_cons (ev_frz (en_lc (ei_enum (ea_cons (ev_imm (er_call (ea_cons (ev_var (i := 0)) (ea_cons (ev_var (i := 1)) ea_nil)))) ea_nil)) (tg_tup (tgs_cons (tg_name (i := 3) (by decide)) (tgs_cons (tg_name (i := 5) (by decide)) tgs_nil))) et_yes (ev_op g_mul (ev_var (i := 5)) (ev_op g_ix (ev_var (i := 2)) (ev_var (i := 3)))))) ea_nil)))))

abbrev N_most : List Str := [("coins" : Str), ("purse" : Str)]
theorem sc_most : FnScope N_most [("coins" : Str), ("purse" : Str)] (defScope (topS 22)) := ⟨rfl, rfl, rfl, by decide +kernel, rfl, by decide +kernel, by decide +kernel⟩
theorem ok_most {f : Addr} {fd : FuncData} (F : Fun K "most" "most" (topS 22) f fd) (T : Txt K mg)
    (c_need_purse : Cal P w K mg base 5 "need_purse" (spOf K 2 2 m_need_purse))
    (c_most_of : Cal P w K mg base 4 "most_of" (spOf K 2 6 m_most_of)) : FnOk P w K mg base CX0 6 f fd [("coins" : Str), ("purse" : Str)] (spOf K 2 2 m_most) :=
  fn_ok (k := 5) F sc_most fun cdv A out s H E hr => by
    have nd := sc_most.nd
    refine ⟨_, (pss_cons (ps_expr (pe_c c_need_purse hr (by decide) (by rfl) (pa_cons (pv 0) (pa_cons (pv 1) pa_nil))))
  (pss_one (ps_ret (pe_c c_most_of hr (by decide) (by rfl) (pa_cons (pv 0) (pa_cons (pv 1) pa_nil)))))), ?_⟩
    exact (st_seq (st_drop (ev_imm (er_call (ea_cons (ev_var (i := 0)) (ea_cons (ev_var (i := 1)) ea_nil)))))
  (st_retA (er_call (ea_cons (ev_var (i := 0)) (ea_cons (ev_var (i := 1)) ea_nil)))))

abbrev N_need_two : List Str := [("coins" : Str), ("one" : Str), ("other" : Str)]
theorem sc_need_two : FnScope N_need_two [("coins" : Str), ("one" : Str), ("other" : Str)] (defScope (topS 24)) := ⟨rfl, rfl, rfl, by decide +kernel, rfl, by decide +kernel, by decide +kernel⟩
theorem ok_need_two {f : Addr} {fd : FuncData} (F : Fun K "need_two" "need_two" (topS 24) f fd) (T : Txt K mg)
    (c_need_purse : Cal P w K mg base 5 "need_purse" (spOf K 2 2 m_need_purse))
    (c_is_stock : Cal P w K mg base 2 "is_stock" (spOf K 2 3 m_is_stock)) : FnOk P w K mg base CX0 6 f fd [("coins" : Str), ("one" : Str), ("other" : Str)] (spOf K 3 3 m_need_two) :=
  fn_ok (k := 5) F sc_need_two fun cdv A out s H E hr => by
    have nd := sc_need_two.nd
    refine ⟨_, (pss_cons (ps_expr (pe_c c_need_purse hr (by decide) (by rfl) (pa_cons (pv 0) (pa_cons (pv 1) pa_nil))))
  (pss_one (ps_if (pt_not (pt_val (pe_c c_is_stock hr (by decide) (by rfl) (pa_cons (pv 0) (pa_cons (pv 2) pa_nil)))))
  (pss_one ps_never)
  pss_nil))), ?_⟩
    exact (st_seq (st_drop (ev_imm (er_call (ea_cons (ev_var (i := 0)) (ea_cons (ev_var (i := 1)) ea_nil)))))
  (st_if (et_not (et_b (ev_imm (er_call (ea_cons (ev_var (i := 0)) (ea_cons (ev_var (i := 2)) ea_nil))))))
  st_never
  st_next))

abbrev N_reckoned : List Str := [("coins" : Str), ("one" : Str), ("other" : Str), ("found" : Str), ("wrong" : Str), ("at" : Str), ("below" : Str), ("place" : Str), ("left" : Str), ("many" : Str)]
theorem sc_reckoned : FnScope N_reckoned [("coins" : Str), ("one" : Str), ("other" : Str)] (defScope (topS 25)) := ⟨rfl, rfl, rfl, by decide +kernel, rfl, by decide +kernel, by decide +kernel⟩
theorem ok_reckoned {f : Addr} {fd : FuncData} (F : Fun K "reckoned" "reckoned" (topS 25) f fd) (T : Txt K mg)
    (c_from_below : Cal P w K mg base 2 "from_below" (spOf K 1 4 m_from_below))
    (c_lesser : Cal P w K mg base 1 "lesser" (spOf K 2 4 m_lesser)) : FnOk P w K mg base CX0 3 f fd [("coins" : Str), ("one" : Str), ("other" : Str)] (spOf K 3 10 m_reckoned) :=
  fn_ok (k := 2) F sc_reckoned fun cdv A out s H E hr => by
    have nd := sc_reckoned.nd
    refine ⟨_, (pss_cons (ps_set (i := 3) nd rfl (by first | exact Or.inl rfl | exact Or.inr rfl) pe_dnewK)
  (pss_cons (ps_set (i := 4) nd rfl (by first | exact Or.inl rfl | exact Or.inr rfl) pe_dnewK)
  (pss_cons (ps_for PassesOwn.never rfl (kp_seq K (pe_c c_from_below hr (by decide) (by rfl) (pa_cons (pv 0) pa_nil))) (pg_name (i := 5) nd rfl (by first | exact Or.inl rfl | exact Or.inr rfl))
  (pss_cons (ps_set (i := 6) nd rfl (by first | exact Or.inl rfl | exact Or.inr rfl) (pe_c c_lesser hr (by decide) (by rfl) (pa_cons (pv 0) (pa_cons (pv 5) pa_nil))))
  (pss_cons (ps_if (pt_not (pt_val (pe_callB (kc_all K rfl) (by rfl) T.z_all rfl (pa_cons (pe_lc rfl nd (kp_seq K (pv 6)) (own := [(("place" : Str), 7)]) (blk_ok (by rfl)) (fun _ _ _ _ _ => (pg_name (i := 7) nd rfl (by first | exact Or.inl rfl | exact Or.inr rfl))) (fun _ _ _ _ _ => pts_nil) (fun _ _ _ _ _ => (pe_cmpR (k_in K (by exact hu65 hr)) (pv 7) (pv 3) (by rfl)))) pa_nil))))
  (pss_one ps_continue)
  pss_nil)
  (pss_cons (ps_set (i := 8) nd rfl (by first | exact Or.inl rfl | exact Or.inr rfl) (pe_op (k_add K) (pe_op op_sub (pe_ix (k_ix K (by exact hu1 hr)) (pv 1) (pv 5) (fun _ _ => rfl)) (pe_ix (k_ix K (by exact hu1 hr)) (pv 2) (pv 5) (fun _ _ => rfl))) (pe_callB (kc_sum K rfl) (by rfl) T.z_sum rfl (pa_cons (pe_lc rfl nd (kp_seq K (pv 6)) (own := [(("place" : Str), 7)]) (blk_ok (by rfl)) (fun _ _ _ _ _ => (pg_name (i := 7) nd rfl (by first | exact Or.inl rfl | exact Or.inr rfl))) (fun _ _ _ _ _ => pts_nil) (fun _ _ _ _ _ => (pe_ix (k_ix K (by exact hu1 hr)) (pv 3) (pv 7) (fun _ _ => rfl)))) pa_nil))))
  (pss_cons (ps_set (i := 9) nd rfl (by first | exact Or.inl rfl | exact Or.inr rfl) (pe_ix (k_ix K (by exact hu1 hr)) (pe_ix (k_ix K (by exact hu1 hr)) (pv 0) (pv 5) (fun _ _ => rfl)) pe_int (fun _ _ => rfl)))
  (pss_one (ps_if ((pw_and (pt_cmpR (k_eq K (by exact hr.units)) (pv 9) pe_int (nomark _)) (pw_and1 (pt_cmpR (k_ne K (by exact hr.units)) (pv 8) pe_int (nomark _))))).pt
  (pss_one (ps_asg (pv 8) (pg_sub (pv 4) (pv 5) (set_all (by exact hu1 hr)))))
  (pss_one (ps_if ((pw_and (pt_cmpR op_gtS (pv 9) pe_int (nomark _)) (pw_and1 (pt_cmpR (k_ne K (by exact hr.units)) (pe_op op_mod (pv 8) (pv 9)) pe_int (nomark _))))).pt
  (pss_one (ps_asg (pe_op op_mod (pv 8) (pv 9)) (pg_sub (pv 4) (pv 5) (set_all (by exact hu1 hr)))))
  (pss_one (ps_asg (pe_ifExp (pt_cmpR op_gtS (pv 9) pe_int (nomark _)) (pe_op op_fdivW (pv 8) (pv 9)) pe_int) (pg_sub (pv 3) (pv 5) (set_all (by exact hu1 hr))))))))))))))
  (pss_one (ps_ret (pe_tup (pa_cons (pv 3) (pa_cons (pv 4) pa_nil)))))))), ?_⟩
    exact (st_seq (st_setN en_dict)
  (st_seq (st_setN en_dict)
  (st_seq (st_for (vs := [0, 1, 2, 3, 4, 5, 6, 7, 8, 9]) (ei_seq (ev_imm (er_call (ea_cons (ev_var (i := 0)) ea_nil)))) (tg_name (i := 5) (by decide))
  (st_seq (st_set (ev_imm (er_call (ea_cons (ev_var (i := 0)) (ea_cons (ev_var (i := 5)) ea_nil)))))
  (st_seq (st_if (et_not (et_b (ev_callB g_all (ea_cons (ev_frz (en_lc (ei_seq (ev_var (i := 6))) (tg_name (i := 7) (by decide)) et_yes (ev_op g_in (ev_var (i := 7)) (ev_var (i := 3))))) ea_nil))))
  st_cont
  st_next)
  (st_seq (st_set (ev_op g_add (ev_op g_sub (ev_op g_ix (ev_var (i := 1)) (ev_var (i := 5))) (ev_op g_ix (ev_var (i := 2)) (ev_var (i := 5)))) (ev_callB g_sum (ea_cons (ev_frz (en_lc (ei_seq (ev_var (i := 6))) (tg_name (i := 7) (by decide)) et_yes (ev_op g_ix (ev_var (i := 3)) (ev_var (i := 7))))) ea_nil))))
  (st_seq (st_set (ev_op g_ix (ev_op g_ix (ev_var (i := 0)) (ev_var (i := 5))) ev_int))
  (st_if (et_and (et_t (ev_op g_eq (ev_var (i := 9)) ev_int)) (et_t (ev_op g_ne (ev_var (i := 8)) ev_int)))
  (st_put (ev_var (i := 8)) (ev_var (i := 5)))
  (st_if (et_and (et_t (ev_op g_gt (ev_var (i := 9)) ev_int)) (et_t (ev_op g_ne (ev_op g_mod (ev_var (i := 8)) (ev_var (i := 9))) ev_int)))
  (st_put (ev_op g_mod (ev_var (i := 8)) (ev_var (i := 9))) (ev_var (i := 5)))
  (st_put (ev_if (et_t (ev_op g_gt (ev_var (i := 9)) ev_int)) (ev_op g_div (ev_var (i := 8)) (ev_var (i := 9))) ev_int) (ev_var (i := 5))))))))))
  (st_ret (ev_tup (ea_cons (ev_frzV (i := 3)) (ea_cons (ev_frzV (i := 4)) ea_nil)))))))

abbrev N_counted : List Str := [("coins" : Str), ("one" : Str), ("other" : Str), ("found" : Str), ("wrong" : Str), ("at" : Str)]
theorem sc_counted : FnScope N_counted [("coins" : Str), ("one" : Str), ("other" : Str)] (defScope (topS 26)) := ⟨rfl, rfl, rfl, by decide +kernel, rfl, by decide +kernel, by decide +kernel⟩
theorem ok_counted {f : Addr} {fd : FuncData} (F : Fun K "counted" "counted" (topS 26) f fd) (T : Txt K mg)
    (c_reckoned : Cal P w K mg base 3 "reckoned" (spOf K 3 10 m_reckoned)) : FnOk P w K mg base CX0 4 f fd [("coins" : Str), ("one" : Str), ("other" : Str)] (spOf K 3 6 m_counted) :=
  fn_ok (k := 3) F sc_counted fun cdv A out s H E hr => by
    have nd := sc_counted.nd
    refine ⟨_, (pss_cons (ps_asg (pe_c c_reckoned hr (by decide) (by rfl) (pa_cons (pv 0) (pa_cons (pv 1) (pa_cons (pv 2) pa_nil)))) (kg_tup K (n := 2) rfl (pgs_cons (pg_name (i := 3) nd rfl (by first | exact Or.inl rfl | exact Or.inr rfl)) (pgs_cons (pg_name (i := 4) nd rfl (by first | exact Or.inl rfl | exact Or.inr rfl)) pgs_nil))))
  (pss_one (ps_ret (pe_ifExp (pt_cmpR (op_eqE (by exact hr.units0)) (pv 4) pe_dnewK (nomark _)) (pe_callTy (kc_tuple K) (by rfl) T.z_tuple rfl (pa_cons (pe_lc rfl nd (pi_range1 (by rfl) T.z_range (pa_cons (pe_callB (kc_len K) (by rfl) T.z_len rfl (pa_cons (pv 0) pa_nil)) pa_nil)) (own := [(("at" : Str), 5)]) (blk_ok (by rfl)) (fun _ _ _ _ _ => (pg_name (i := 5) nd rfl (by first | exact Or.inl rfl | exact Or.inr rfl))) (fun _ _ _ _ _ => pts_nil) (fun _ _ _ _ _ => (pe_ix (k_ix K (by exact hu1 hr)) (pv 3) (pv 5) (fun _ _ => rfl)))) pa_nil)) pe_non)))), ?_⟩
    exact (st_seq (st_tg (ev_imm (er_call (ea_cons (ev_var (i := 0)) (ea_cons (ev_var (i := 1)) (ea_cons (ev_var (i := 2)) ea_nil))))) (tg_tup (tgs_cons (tg_name (i := 3) (by decide)) (tgs_cons (tg_name (i := 4) (by decide)) tgs_nil))) (vs := [0, 1, 2, 3, 4, 5]))
  (st_ret (ev_if (et_t (ev_empEq (ev_var (i := 4)))) (ev_callB g_tuple (ea_cons (ev_frz (en_lc (ei_range1 (ea_cons (ev_callB g_len (ea_cons (ev_var (i := 0)) ea_nil)) ea_nil)) (tg_name (i := 5) (by decide)) et_yes (ev_op g_ix (ev_var (i := 3)) (ev_var (i := 5))))) ea_nil)) ev_non)))

abbrev N_count : List Str := [("coins" : Str), ("one" : Str), ("other" : Str)]
theorem sc_count : FnScope N_count [("coins" : Str), ("one" : Str), ("other" : Str)] (defScope (topS 27)) := ⟨rfl, rfl, rfl, by decide +kernel, rfl, by decide +kernel, by decide +kernel⟩
theorem ok_count {f : Addr} {fd : FuncData} (F : Fun K "count" "count" (topS 27) f fd) (T : Txt K mg)
    (c_need_two : Cal P w K mg base 6 "need_two" (spOf K 3 3 m_need_two))
    (c_counted : Cal P w K mg base 4 "counted" (spOf K 3 6 m_counted)) : FnOk P w K mg base CX0 7 f fd [("coins" : Str), ("one" : Str), ("other" : Str)] (spOf K 3 3 m_count) :=
  fn_ok (k := 6) F sc_count fun cdv A out s H E hr => by
    have nd := sc_count.nd
    refine ⟨_, (pss_cons (ps_expr (pe_c c_need_two hr (by decide) (by rfl) (pa_cons (pv 0) (pa_cons (pv 1) (pa_cons (pv 2) pa_nil)))))
  (pss_one (ps_ret (pe_c c_counted hr (by decide) (by rfl) (pa_cons (pv 0) (pa_cons (pv 1) (pa_cons (pv 2) pa_nil))))))), ?_⟩
    exact (st_seq (st_drop (ev_imm (er_call (ea_cons (ev_var (i := 0)) (ea_cons (ev_var (i := 1)) (ea_cons (ev_var (i := 2)) ea_nil))))))
  (st_retA (er_call (ea_cons (ev_var (i := 0)) (ea_cons (ev_var (i := 1)) (ea_cons (ev_var (i := 2)) ea_nil))))))

abbrev N_row_to : List Str := [("coins" : Str), ("one" : Str), ("other" : Str), ("found" : Str), ("order" : Str), ("ups" : Str), ("at" : Str)]
theorem sc_row_to : FnScope N_row_to [("coins" : Str), ("one" : Str), ("other" : Str)] (defScope (topS 29)) := ⟨rfl, rfl, rfl, by decide +kernel, rfl, by decide +kernel, by decide +kernel⟩
theorem ok_row_to {f : Addr} {fd : FuncData} (F : Fun K "row_to" "row_to" (topS 29) f fd) (T : Txt K mg)
    (c_need_two : Cal P w K mg base 6 "need_two" (spOf K 3 3 m_need_two))
    (c_counted : Cal P w K mg base 4 "counted" (spOf K 3 6 m_counted))
    (c_from_below : Cal P w K mg base 2 "from_below" (spOf K 1 4 m_from_below)) : FnOk P w K mg base CX0 7 f fd [("coins" : Str), ("one" : Str), ("other" : Str)] (spOf K 3 7 m_row_to) :=
  fn_ok (k := 6) F sc_row_to fun cdv A out s H E hr => by
    have nd := sc_row_to.nd
    refine ⟨_, (pss_cons (ps_expr (pe_c c_need_two hr (by decide) (by rfl) (pa_cons (pv 0) (pa_cons (pv 1) (pa_cons (pv 2) pa_nil)))))
  (pss_cons (ps_set (i := 3) nd rfl (by first | exact Or.inl rfl | exact Or.inr rfl) (pe_c c_counted hr (by decide) (by rfl) (pa_cons (pv 0) (pa_cons (pv 1) (pa_cons (pv 2) pa_nil)))))
  (pss_cons (ps_if (pt_cmpR op_isN (pv 3) pe_non (nomark _))
  (pss_one (ps_ret pe_non))
  pss_nil)
  (pss_cons (ps_set (i := 4) nd rfl (by first | exact Or.inl rfl | exact Or.inr rfl) (pe_c c_from_below hr (by decide) (by rfl) (pa_cons (pv 0) pa_nil)))
  (pss_cons (ps_setLc (i := 5) rfl nd rfl rfl (by rfl) (kp_seq K (pv 4)) (own := [(("at" : Str), 6)]) (blk_ok (by rfl)) (fun _ _ _ _ _ => (pg_name (i := 6) nd rfl (by first | exact Or.inl rfl | exact Or.inr rfl))) (fun _ _ _ _ _ => (pts_one (pt_cmpR op_gtS (pe_ix (k_ix K (by exact hu1 hr)) (pv 3) (pv 6) (fun _ _ => rfl)) pe_int (nomark _)))) (fun _ _ _ _ _ => (pe_tup (pa_cons (pe_ix (k_ix K (by exact hu1 hr)) (pe_ix (k_ix K (by exact hu1 hr)) (pv 0) (pv 6) (fun _ _ => rfl)) pe_int (fun _ _ => rfl)) (pa_cons (pe_ix (k_ix K (by exact hu1 hr)) (pv 3) (pv 6) (fun _ _ => rfl)) pa_nil)))))
  (pss_one (ps_ret (pe_op (k_add K) (pv 5) (pe_lc rfl nd (kp_seq K (kp_rev K (pv 4))) (own := [(("at" : Str), 6)]) (blk_ok (by rfl)) (fun _ _ _ _ _ => (pg_name (i := 6) nd rfl (by first | exact Or.inl rfl | exact Or.inr rfl))) (fun _ _ _ _ _ => (pts_one (pt_cmpR op_ltS (pe_ix (k_ix K (by exact hu1 hr)) (pv 3) (pv 6) (fun _ _ => rfl)) pe_int (nomark _)))) (fun _ _ _ _ _ => (pe_tup (pa_cons (pe_ix (k_ix K (by exact hu1 hr)) (pe_ix (k_ix K (by exact hu1 hr)) (pv 0) (pv 6) (fun _ _ => rfl)) pe_int (fun _ _ => rfl)) (pa_cons (pe_ix (k_ix K (by exact hu1 hr)) (pv 3) (pv 6) (fun _ _ => rfl)) pa_nil))))))))))))), ?_⟩
    exact (st_seq (st_drop (ev_imm (er_call (ea_cons (ev_var (i := 0)) (ea_cons (ev_var (i := 1)) (ea_cons (ev_var (i := 2)) ea_nil))))))
  (st_seq (st_set (ev_imm (er_call (ea_cons (ev_var (i := 0)) (ea_cons (ev_var (i := 1)) (ea_cons (ev_var (i := 2)) ea_nil))))))
  (st_seq (st_if (et_t (ev_op g_isN (ev_var (i := 3)) ev_non))
  (st_ret ev_non)
  st_next)
  (st_seq (st_set (ev_imm (er_call (ea_cons (ev_var (i := 0)) ea_nil))))
  (st_seq (st_set (ev_frz (en_lc (ei_seq (ev_var (i := 4))) (tg_name (i := 6) (by decide)) (et_t (ev_op g_gt (ev_op g_ix (ev_var (i := 3)) (ev_var (i := 6))) ev_int)) (ev_tup (ea_cons (ev_op g_ix (ev_op g_ix (ev_var (i := 0)) (ev_var (i := 6))) ev_int) (ea_cons (ev_op g_ix (ev_var (i := 3)) (ev_var (i := 6))) ea_nil))))))
  (st_ret (ev_op g_add (ev_var (i := 5)) (ev_frz (en_lc (ei_seq (ev_rev (ev_var (i := 4)))) (tg_name (i := 6) (by decide)) (et_t (ev_op g_lt (ev_op g_ix (ev_var (i := 3)) (ev_var (i := 6))) ev_int)) (ev_tup (ea_cons (ev_op g_ix (ev_op g_ix (ev_var (i := 0)) (ev_var (i := 6))) ev_int) (ea_cons (ev_op g_ix (ev_var (i := 3)) (ev_var (i := 6))) ea_nil))))))))))))

abbrev N__law_deck : List Str := [("cell" : Str), ("turn" : Str)]
theorem sc__law_deck : FnScope N__law_deck [("cell" : Str), ("turn" : Str)] (defScope (topS 31)) := ⟨rfl, rfl, rfl, by decide +kernel, rfl, by decide +kernel, by decide +kernel⟩
theorem ok__law_deck {f : Addr} {fd : FuncData} (F : Fun K "_law_deck" "_law_deck" (topS 31) f fd) (T : Txt K mg) : FnOk P w K mg base CX0 1 f fd [("cell" : Str), ("turn" : Str)] (spOf K 2 2 m__law_deck) :=
  fn_ok (k := 0) F sc__law_deck fun cdv A out s H E hr => by
    have nd := sc__law_deck.nd
    refine ⟨_, (pss_cons (ps_if (pt_cmpR op_geS (pv 0) (pe_op op_pow pe_int pe_int) (nomark _))
  (pss_one (ps_ret (pe_lst (pa_cons (pe_op op_sub (pv 0) (pe_op op_pow pe_int pe_int)) (pa_cons (pe_op op_mod (pv 0) pe_int) (pa_cons (pv 1) pa_nil))))))
  pss_nil)
  (pss_one (ps_ret (pe_lst (pa_cons pe_int (pa_cons (pe_op op_mod (pv 0) pe_int) (pa_cons (pv 1) pa_nil))))))), ?_⟩
    exact (st_seq (st_if (et_t (ev_op g_ge (ev_var (i := 0)) (ev_op g_pow ev_int ev_int)))
  (st_retN (en_lst (ea_cons (ev_op g_sub (ev_var (i := 0)) (ev_op g_pow ev_int ev_int)) (ea_cons (ev_op g_mod (ev_var (i := 0)) ev_int) (ea_cons (ev_var (i := 1)) ea_nil)))))
  st_next)
  (st_retN (en_lst (ea_cons ev_int (ea_cons (ev_op g_mod (ev_var (i := 0)) ev_int) (ea_cons (ev_var (i := 1)) ea_nil))))))

abbrev N__law_pick : List Str := [("deck" : Str), ("size" : Str), ("found" : Str), ("number" : Str)]
theorem sc__law_pick : FnScope N__law_pick [("deck" : Str), ("size" : Str)] (defScope (topS 32)) := ⟨rfl, rfl, rfl, by decide +kernel, rfl, by decide +kernel, by decide +kernel⟩
theorem ok__law_pick {f : Addr} {fd : FuncData} (F : Fun K "_law_pick" "_law_pick" (topS 32) f fd) (T : Txt K mg) : FnOk P w K mg base CX0 1 f fd [("deck" : Str), ("size" : Str)] (spOf K 2 4 m__law_pick) :=
  fn_ok (k := 0) F sc__law_pick fun cdv A out s H E hr => by
    have nd := sc__law_pick.nd
    refine ⟨_, (pss_cons (ps_if (pt_cmpR op_gtS (pe_ix (k_ix K (by exact hu1 hr)) (pv 0) pe_int (fun _ _ => rfl)) pe_int (nomark _))
  (pss_cons (ps_set (i := 2) nd rfl (by first | exact Or.inl rfl | exact Or.inr rfl) (pe_op op_mod (pe_ix (k_ix K (by exact hu1 hr)) (pv 0) pe_int (fun _ _ => rfl)) (pv 1)))
  (pss_cons (ps_asg (pe_op op_fdivW (pe_ix (k_ix K (by exact hu1 hr)) (pv 0) pe_int (fun _ _ => rfl)) (pv 1)) (pg_sub (pv 0) pe_int (set_all (by exact hu1 hr))))
  (pss_one (ps_ret (pv 2)))))
  pss_nil)
  (pss_cons (ps_asg (pe_op (k_add K) (pe_ix (k_ix K (by exact hu1 hr)) (pv 0) pe_int (fun _ _ => rfl)) pe_int) (pg_sub (pv 0) pe_int (set_all (by exact hu1 hr))))
  (pss_cons (ps_set (i := 3) nd rfl (by first | exact Or.inl rfl | exact Or.inr rfl) (pe_op op_mod (pe_op op_pow (pe_op (k_add K) (pe_ix (k_ix K (by exact hu1 hr)) (pv 0) pe_int (fun _ _ => rfl)) (pe_op op_mulW pe_int (pe_ix (k_ix K (by exact hu1 hr)) (pv 0) pe_int (fun _ _ => rfl)))) pe_int) pe_int))
  (pss_cons (ps_set (i := 2) nd rfl (by first | exact Or.inl rfl | exact Or.inr rfl) (pe_op op_fdivW (pe_op op_mod (pe_op op_pow (pe_op (k_add K) (pv 3) (pe_op op_mulW pe_int (pe_ix (k_ix K (by exact hu1 hr)) (pv 0) pe_int (fun _ _ => rfl)))) pe_int) pe_int) pe_int))
  (pss_one (ps_ret (pe_op op_mod (pv 2) (pv 1)))))))), ?_⟩
    exact (st_seq (st_if (et_t (ev_op g_gt (ev_op g_ix (ev_var (i := 0)) ev_int) ev_int))
  (st_seq (st_set (ev_op g_mod (ev_op g_ix (ev_var (i := 0)) ev_int) (ev_var (i := 1))))
  (st_seq (st_put (ev_op g_div (ev_op g_ix (ev_var (i := 0)) ev_int) (ev_var (i := 1))) ev_int)
  (st_ret ev_var)))
  st_next)
  (st_seq (st_put (ev_op g_add (ev_op g_ix (ev_var (i := 0)) ev_int) ev_int) ev_int)
  (st_seq (st_set (ev_op g_mod (ev_op g_pow (ev_op g_add (ev_op g_ix (ev_var (i := 0)) ev_int) (ev_op g_mul ev_int (ev_op g_ix (ev_var (i := 0)) ev_int))) ev_int) ev_int))
  (st_seq (st_set (ev_op g_div (ev_op g_mod (ev_op g_pow (ev_op g_add (ev_var (i := 3)) (ev_op g_mul ev_int (ev_op g_ix (ev_var (i := 0)) ev_int))) ev_int) ev_int) ev_int))
  (st_ret (ev_op g_mod (ev_var (i := 2)) (ev_var (i := 1))))))))

abbrev N__law_one : List Str := [("deck" : Str), ("some" : Str)]
theorem sc__law_one : FnScope N__law_one [("deck" : Str), ("some" : Str)] (defScope (topS 33)) := ⟨rfl, rfl, rfl, by decide +kernel, rfl, by decide +kernel, by decide +kernel⟩
theorem ok__law_one {f : Addr} {fd : FuncData} (F : Fun K "_law_one" "_law_one" (topS 33) f fd) (T : Txt K mg)
    (c__law_pick : Cal P w K mg base 1 "_law_pick" (spOf K 2 4 m__law_pick)) : FnOk P w K mg base CX0 2 f fd [("deck" : Str), ("some" : Str)] (spOf K 2 2 m__law_one) :=
  fn_ok (k := 1) F sc__law_one fun cdv A out s H E hr => by
    have nd := sc__law_one.nd
    refine ⟨_, (pss_one (ps_ret (pe_ix (k_ix K (by exact hu1 hr)) (pv 1) (pe_c c__law_pick hr (by decide) (by rfl) (pa_cons (pv 0) (pa_cons (pe_callB (kc_len K) (by rfl) T.z_len rfl (pa_cons (pv 1) pa_nil)) pa_nil))) (fun _ _ => rfl)))), ?_⟩
    exact (st_ret (ev_op g_ix (ev_var (i := 1)) (ev_imm (er_call (ea_cons (ev_var (i := 0)) (ea_cons (ev_callB g_len (ea_cons (ev_var (i := 1)) ea_nil)) ea_nil))))))

abbrev N__law_coins : List Str := [("deck" : Str), ("at_most" : Str), ("names" : Str), ("left" : Str), ("turn" : Str), ("found" : Str), ("at" : Str), ("kind" : Str)]
theorem sc__law_coins : FnScope N__law_coins [("deck" : Str), ("at_most" : Str)] (defScope (topS 34)) := ⟨rfl, rfl, rfl, by decide +kernel, rfl, by decide +kernel, by decide +kernel⟩
theorem ok__law_coins {f : Addr} {fd : FuncData} (F : Fun K "_law_coins" "_law_coins" (topS 34) f fd) (T : Txt K mg)
    (c__law_pick : Cal P w K mg base 1 "_law_pick" (spOf K 2 4 m__law_pick))
    (c__law_one : Cal P w K mg base 2 "_law_one" (spOf K 2 2 m__law_one)) : FnOk P w K mg base CX0 3 f fd [("deck" : Str), ("at_most" : Str)] (spOf K 2 8 m__law_coins) :=
  fn_ok (k := 2) F sc__law_coins fun cdv A out s H E hr => by
    have nd := sc__law_coins.nd
    refine ⟨_, (pss_cons (ps_set (i := 2) nd rfl (by first | exact Or.inl rfl | exact Or.inr rfl) (pe_lst (pa_cons pe_str (pa_cons pe_str (pa_cons pe_str (pa_cons pe_str (pa_cons pe_str (pa_cons pe_str (pa_cons pe_str (pa_cons pe_str pa_nil))))))))))
  (pss_cons (ps_set (i := 3) nd rfl (by first | exact Or.inl rfl | exact Or.inr rfl) (pe_lst pa_nil))
  (pss_cons (ps_for PassesOwn.never rfl (pi_range1 (by rfl) T.z_range (pa_cons (pe_op (k_add K) pe_int (pe_c c__law_pick hr (by decide) (by rfl) (pa_cons (pv 0) (pa_cons (pv 1) pa_nil)))) pa_nil)) (pg_name (i := 4) nd rfl (by first | exact Or.inl rfl | exact Or.inr rfl))
  (pss_one (ps_expr (kp_bm K PySem.F.plainAttrs_list PySem.F.slot_list_append PySem.F.type_list_append mt_append (pv 3) (pa_cons (kp_bm K PySem.F.plainAttrs_list PySem.F.slot_list_pop PySem.F.type_list_pop mt_popAt (pv 2) (pa_cons (pe_c c__law_pick hr (by decide) (by rfl) (pa_cons (pv 0) (pa_cons (pe_callB (kc_len K) (by rfl) T.z_len rfl (pa_cons (pv 2) pa_nil)) pa_nil))) pa_nil)) pa_nil)))))
  (pss_cons (ps_set (i := 5) nd rfl (by first | exact Or.inl rfl | exact Or.inr rfl) (pe_lst pa_nil))
  (pss_cons (ps_for PassesOwn.never rfl (kp_enum K (by rfl) T.z_enumerate (pa_cons (pv 3) pa_nil)) (kg_tup K (n := 2) rfl (pgs_cons (pg_name (i := 6) nd rfl (by first | exact Or.inl rfl | exact Or.inr rfl)) (pgs_cons (pg_name (i := 7) nd rfl (by first | exact Or.inl rfl | exact Or.inr rfl)) pgs_nil)))
  (pss_one (ps_if ((pw_or (pt_cmpR (k_eq K (by exact hr.units)) (pv 6) pe_int (nomark _)) (pw_or1 (pt_cmpR (k_eq K (by exact hr.units)) (pe_c c__law_pick hr (by decide) (by rfl) (pa_cons (pv 0) (pa_cons pe_int pa_nil))) pe_int (nomark _))))).pt
  (pss_one (ps_expr (kp_bm K PySem.F.plainAttrs_list PySem.F.slot_list_append PySem.F.type_list_append mt_append (pv 5) (pa_cons (pe_tup (pa_cons (pv 7) (pa_cons pe_int (pa_cons pe_str pa_nil)))) pa_nil))))
  (pss_one (ps_expr (kp_bm K PySem.F.plainAttrs_list PySem.F.slot_list_append PySem.F.type_list_append mt_append (pv 5) (pa_cons (pe_tup (pa_cons (pv 7) (pa_cons (pe_c c__law_one hr (by decide) (by rfl) (pa_cons (pv 0) (pa_cons (pe_lst (pa_cons pe_int (pa_cons pe_int (pa_cons pe_int (pa_cons pe_int (pa_cons (pe_op (k_add K) pe_int (pe_c c__law_pick hr (by decide) (by rfl) (pa_cons (pv 0) (pa_cons pe_int pa_nil)))) pa_nil)))))) pa_nil))) (pa_cons (pe_ix (k_ix K (by exact hu1 hr)) (pv 3) (pe_c c__law_pick hr (by decide) (by rfl) (pa_cons (pv 0) (pa_cons (pv 6) pa_nil))) (fun _ _ => rfl)) pa_nil)))) pa_nil)))))))
  (pss_one (ps_ret (pe_callTy (kc_tuple K) (by rfl) T.z_tuple rfl (pa_cons (pe_callB (kc_sorted K (by exact hu65 hr)) (by rfl) T.z_sorted rfl (pa_cons (pv 5) pa_nil)) pa_nil))))))))), ?_⟩
    exact (st_seq (st_setN (en_lst (ea_cons ev_str (ea_cons ev_str (ea_cons ev_str (ea_cons ev_str (ea_cons ev_str (ea_cons ev_str (ea_cons ev_str (ea_cons ev_str ea_nil))))))))))
  (st_seq (st_setN (en_lst ea_nil))
  (st_seq (st_for (vs := [0, 1, 2, 3, 4, 5, 6, 7]) (ei_range1 (ea_cons (ev_op g_add ev_int (ev_imm (er_call (ea_cons (ev_var (i := 0)) (ea_cons (ev_var (i := 1)) ea_nil))))) ea_nil)) (tg_name (i := 4) (by decide))
  (st_drop (ev_methB g_append (ea_cons (ev_methB g_popAt (ea_cons (ev_imm (er_call (ea_cons (ev_var (i := 0)) (ea_cons (ev_callB g_len (ea_cons (ev_var (i := 2)) ea_nil)) ea_nil)))) ea_nil)) ea_nil))))
  (st_seq (st_setN (en_lst ea_nil))
  (st_seq (st_for (vs := [0, 1, 2, 3, 4, 5, 6, 7]) (ei_enum (ea_cons (ev_frzV (i := 3)) ea_nil)) (tg_tup (tgs_cons (tg_name (i := 6) (by decide)) (tgs_cons (tg_name (i := 7) (by decide)) tgs_nil)))
  (st_if (et_or (et_t (ev_op g_eq (ev_var (i := 6)) ev_int)) (et_t (ev_op g_eq (ev_imm (er_call (ea_cons (ev_var (i := 0)) (ea_cons ev_int ea_nil)))) ev_int)))
  (st_drop (ev_methB g_append (ea_cons (ev_tup (ea_cons (ev_var (i := 7)) (ea_cons ev_int (ea_cons ev_str ea_nil)))) ea_nil)))
  (st_drop (ev_methB g_append (ea_cons (ev_tup (ea_cons (ev_var (i := 7)) (ea_cons (ev_imm (er_call (ea_cons (ev_var (i := 0)) (ea_cons (ev_lst (ea_cons ev_int (ea_cons ev_int (ea_cons ev_int (ea_cons ev_int (ea_cons (ev_op g_add ev_int (ev_imm (er_call (ea_cons (ev_var (i := 0)) (ea_cons ev_int ea_nil))))) ea_nil)))))) ea_nil)))) (ea_cons (ev_op g_ix (ev_var (i := 3)) (ev_imm (er_call (ea_cons (ev_var (i := 0)) (ea_cons (ev_var (i := 6)) ea_nil))))) ea_nil)))) ea_nil)))))
  (st_ret (ev_callB g_tuple (ea_cons (ev_frz (en_callB g_sorted (ea_cons (ev_var (i := 5)) ea_nil))) ea_nil))))))))

abbrev N__law_purse : List Str := [("deck" : Str), ("coins_so" : Str), ("at_most" : Str), ("found" : Str), ("row" : Str)]
theorem sc__law_purse : FnScope N__law_purse [("deck" : Str), ("coins_so" : Str), ("at_most" : Str)] (defScope (topS 35)) := ⟨rfl, rfl, rfl, by decide +kernel, rfl, by decide +kernel, by decide +kernel⟩
theorem ok__law_purse {f : Addr} {fd : FuncData} (F : Fun K "_law_purse" "_law_purse" (topS 35) f fd) (T : Txt K mg)
    (c__law_one : Cal P w K mg base 2 "_law_one" (spOf K 2 2 m__law_one))
    (c__law_pick : Cal P w K mg base 1 "_law_pick" (spOf K 2 4 m__law_pick)) : FnOk P w K mg base CX0 3 f fd [("deck" : Str), ("coins_so" : Str), ("at_most" : Str)] (spOf K 3 5 m__law_purse) :=
  fn_ok (k := 2) F sc__law_purse fun cdv A out s H E hr => by
    have nd := sc__law_purse.nd
    refine ⟨_, (pss_cons (ps_set (i := 3) nd rfl (by first | exact Or.inl rfl | exact Or.inr rfl) (pe_lst pa_nil))
  (pss_cons (ps_for PassesOwn.never rfl (kp_seq K (pv 1)) (pg_name (i := 4) nd rfl (by first | exact Or.inl rfl | exact Or.inr rfl))
  (pss_one (ps_expr (kp_bm K PySem.F.plainAttrs_list PySem.F.slot_list_append PySem.F.type_list_append mt_append (pv 3) (pa_cons (pe_c c__law_one hr (by decide) (by rfl) (pa_cons (pv 0) (pa_cons (pe_lst (pa_cons pe_int (pa_cons pe_int (pa_cons (pe_c c__law_pick hr (by decide) (by rfl) (pa_cons (pv 0) (pa_cons (pe_op (k_add K) (pv 2) pe_int) pa_nil))) (pa_cons (pe_c c__law_pick hr (by decide) (by rfl) (pa_cons (pv 0) (pa_cons (pe_op (k_add K) (pv 2) pe_int) pa_nil))) pa_nil))))) pa_nil))) pa_nil)))))
  (pss_one (ps_ret (pe_callTy (kc_tuple K) (by rfl) T.z_tuple rfl (pa_cons (pv 3) pa_nil)))))), ?_⟩
    exact (st_seq (st_setN (en_lst ea_nil))
  (st_seq (st_for (vs := [0, 1, 2, 3, 4]) (ei_seq (ev_var (i := 1))) (tg_name (i := 4) (by decide))
  (st_drop (ev_methB g_append (ea_cons (ev_imm (er_call (ea_cons (ev_var (i := 0)) (ea_cons (ev_lst (ea_cons ev_int (ea_cons ev_int (ea_cons (ev_imm (er_call (ea_cons (ev_var (i := 0)) (ea_cons (ev_op g_add (ev_var (i := 2)) ev_int) ea_nil)))) (ea_cons (ev_imm (er_call (ea_cons (ev_var (i := 0)) (ea_cons (ev_op g_add (ev_var (i := 2)) ev_int) ea_nil)))) ea_nil))))) ea_nil)))) ea_nil))))
  (st_ret (ev_callB g_tuple (ea_cons (ev_var (i := 3)) ea_nil)))))

abbrev N__law_at : List Str := [("coins_so" : Str), ("kind" : Str), ("row" : Str)]
theorem sc__law_at : FnScope N__law_at [("coins_so" : Str), ("kind" : Str)] (defScope (topS 36)) := ⟨rfl, rfl, rfl, by decide +kernel, rfl, by decide +kernel, by decide +kernel⟩
theorem ok__law_at {f : Addr} {fd : FuncData} (F : Fun K "_law_at" "_law_at" (topS 36) f fd) (T : Txt K mg) : FnOk P w K mg base CX0 1 f fd [("coins_so" : Str), ("kind" : Str)] (spOf K 2 3 m__law_at) :=
  fn_ok (k := 0) F sc__law_at fun cdv A out s H E hr => by
    have nd := sc__law_at.nd
    refine ⟨_, (pss_one (ps_ret (kp_bm K PySem.F.plainAttrs_list PySem.F.slot_list_index PySem.F.type_list_index (k_index K (by exact hu65 hr)) (pe_lc rfl nd (kp_seq K (pv 0)) (own := [(("row" : Str), 2)]) (blk_ok (by rfl)) (fun _ _ _ _ _ => (pg_name (i := 2) nd rfl (by first | exact Or.inl rfl | exact Or.inr rfl))) (fun _ _ _ _ _ => pts_nil) (fun _ _ _ _ _ => (pe_ix (k_ix K (by exact hu1 hr)) (pv 2) pe_int (fun _ _ => rfl)))) (pa_cons (pv 1) pa_nil)))), ?_⟩
    exact (st_ret (ev_look g_index (ev_frz (en_lc (ei_seq (ev_var (i := 0))) (tg_name (i := 2) (by decide)) et_yes (ev_op g_ix (ev_var (i := 2)) ev_int))) (ea_cons (ev_var (i := 1)) ea_nil)))

abbrev N__law_changed : List Str := [("coins_so" : Str), ("purse" : Str), ("kind" : Str), ("times" : Str), ("at" : Str), ("many" : Str), ("above" : Str), ("found" : Str)]
theorem sc__law_changed : FnScope N__law_changed [("coins_so" : Str), ("purse" : Str), ("kind" : Str), ("times" : Str)] (defScope (topS 37)) := ⟨rfl, rfl, rfl, by decide +kernel, rfl, by decide +kernel, by decide +kernel⟩
theorem ok__law_changed {f : Addr} {fd : FuncData} (F : Fun K "_law_changed" "_law_changed" (topS 37) f fd) (T : Txt K mg)
    (c__law_at : Cal P w K mg base 1 "_law_at" (spOf K 2 3 m__law_at)) : FnOk P w K mg base CX0 2 f fd [("coins_so" : Str), ("purse" : Str), ("kind" : Str), ("times" : Str)] (spOf K 4 8 m__law_changed) :=
  fn_ok (k := 1) F sc__law_changed fun cdv A out s H E hr => by
    have nd := sc__law_changed.nd
    refine ⟨_, (pss_cons (ps_set (i := 4) nd rfl (by first | exact Or.inl rfl | exact Or.inr rfl) (pe_c c__law_at hr (by decide) (by rfl) (pa_cons (pv 0) (pa_cons (pv 2) pa_nil))))
  (pss_cons (ps_par (i := 5) (j := 6) rfl nd rfl rfl (by decide) rfl rfl (pa_cons (pe_ix (k_ix K (by exact hu1 hr)) (pe_ix (k_ix K (by exact hu1 hr)) (pv 0) (pv 4) (fun _ _ => rfl)) pe_int (fun _ _ => rfl)) (pa_cons (pe_c c__law_at hr (by decide) (by rfl) (pa_cons (pv 0) (pa_cons (pe_ix (k_ix K (by exact hu1 hr)) (pe_ix (k_ix K (by exact hu1 hr)) (pv 0) (pv 4) (fun _ _ => rfl)) pe_int (fun _ _ => rfl)) pa_nil))) pa_nil)) (by rfl))
  (pss_cons (ps_set (i := 7) nd rfl (by first | exact Or.inl rfl | exact Or.inr rfl) (pe_callTy (kc_list K) (by rfl) T.z_list rfl (pa_cons (pv 1) pa_nil)))
  (pss_cons (ps_asg (pe_op op_sub (pe_ix (k_ix K (by exact hu1 hr)) (pv 7) (pv 4) (fun _ _ => rfl)) (pe_op op_mulW (pv 5) (pv 3))) (pg_sub (pv 7) (pv 4) (set_all (by exact hu1 hr))))
  (pss_cons (ps_asg (pe_op (k_add K) (pe_ix (k_ix K (by exact hu1 hr)) (pv 7) (pv 6) (fun _ _ => rfl)) (pv 3)) (pg_sub (pv 7) (pv 6) (set_all (by exact hu1 hr))))
  (pss_one (ps_ret (pe_ifExp (pt_cmpR op_geS (pe_callB (kc_min K rfl (by exact hu65 hr)) (by rfl) T.z_min rfl (pa_cons (pv 7) pa_nil)) pe_int (nomark _)) (pe_callTy (kc_tuple K) (by rfl) T.z_tuple rfl (pa_cons (pv 7) pa_nil)) pe_non)))))))), ?_⟩
    exact (st_seq (st_set (ev_imm (er_call (ea_cons (ev_var (i := 0)) (ea_cons (ev_var (i := 2)) ea_nil)))))
  (st_seq (st_par (ea_cons (ev_op g_ix (ev_op g_ix (ev_var (i := 0)) (ev_var (i := 4))) ev_int) (ea_cons (ev_imm (er_call (ea_cons (ev_var (i := 0)) (ea_cons (ev_op g_ix (ev_op g_ix (ev_var (i := 0)) (ev_var (i := 4))) ev_int) ea_nil)))) ea_nil)))
  (st_seq (st_setN (en_callB g_list (ea_cons (ev_var (i := 1)) ea_nil)))
  (st_seq (st_put (ev_op g_sub (ev_op g_ix (ev_var (i := 7)) (ev_var (i := 4))) (ev_op g_mul (ev_var (i := 5)) (ev_var (i := 3)))) (ev_var (i := 4)))
  (st_seq (st_put (ev_op g_add (ev_op g_ix (ev_var (i := 7)) (ev_var (i := 6))) (ev_var (i := 3))) (ev_var (i := 6)))
  (st_ret (ev_if (et_t (ev_op g_ge (ev_callB g_min (ea_cons (ev_var (i := 7)) ea_nil)) ev_int)) (ev_callB g_tuple (ea_cons (ev_var (i := 7)) ea_nil)) ev_non)))))))

abbrev N__law_done : List Str := [("coins_so" : Str), ("purse" : Str), ("row" : Str), ("kind" : Str), ("times" : Str)]
theorem sc__law_done : FnScope N__law_done [("coins_so" : Str), ("purse" : Str), ("row" : Str)] (defScope (topS 38)) := ⟨rfl, rfl, rfl, by decide +kernel, rfl, by decide +kernel, by decide +kernel⟩
theorem ok__law_done {f : Addr} {fd : FuncData} (F : Fun K "_law_done" "_law_done" (topS 38) f fd) (T : Txt K mg)
    (c__law_changed : Cal P w K mg base 2 "_law_changed" (spOf K 4 8 m__law_changed)) : FnOk P w K mg base CX0 3 f fd [("coins_so" : Str), ("purse" : Str), ("row" : Str)] (spOf K 3 5 m__law_done) :=
  fn_ok (k := 2) F sc__law_done fun cdv A out s H E hr => by
    have nd := sc__law_done.nd
    refine ⟨_, (pss_cons (ps_for PassesOwn.never rfl (kp_seq K (pv 2)) (kg_tup K (n := 2) rfl (pgs_cons (pg_name (i := 3) nd rfl (by first | exact Or.inl rfl | exact Or.inr rfl)) (pgs_cons (pg_name (i := 4) nd rfl (by first | exact Or.inl rfl | exact Or.inr rfl)) pgs_nil)))
  (pss_one (ps_if (pt_cmpR op_notN (pv 1) pe_non (nomark _))
  (pss_one (ps_set (i := 1) nd rfl (by first | exact Or.inl rfl | exact Or.inr rfl) (pe_c c__law_changed hr (by decide) (by rfl) (pa_cons (pv 0) (pa_cons (pv 1) (pa_cons (pv 3) (pa_cons (pv 4) pa_nil)))))))
  pss_nil)))
  (pss_one (ps_ret (pv 1)))), ?_⟩
    exact (st_seq (st_for (vs := [0, 1, 2, 3, 4]) (ei_seq (ev_var (i := 2))) (tg_tup (tgs_cons (tg_name (i := 3) (by decide)) (tgs_cons (tg_name (i := 4) (by decide)) tgs_nil)))
  (st_if (et_t (ev_op g_notN (ev_var (i := 1)) ev_non))
  (st_set (ev_imm (er_call (ea_cons (ev_var (i := 0)) (ea_cons (ev_var (i := 1)) (ea_cons (ev_var (i := 3)) (ea_cons (ev_var (i := 4)) ea_nil)))))))
  st_next))
  (st_ret ev_var))

abbrev N__law_singles : List Str := [("coins_so" : Str), ("purse" : Str), ("found" : Str), ("row" : Str), ("way" : Str)]
theorem sc__law_singles : FnScope N__law_singles [("coins_so" : Str), ("purse" : Str)] (defScope (topS 39)) := ⟨rfl, rfl, rfl, by decide +kernel, rfl, by decide +kernel, by decide +kernel⟩
theorem ok__law_singles {f : Addr} {fd : FuncData} (F : Fun K "_law_singles" "_law_singles" (topS 39) f fd) (T : Txt K mg)
    (c__law_changed : Cal P w K mg base 2 "_law_changed" (spOf K 4 8 m__law_changed)) : FnOk P w K mg base CX0 3 f fd [("coins_so" : Str), ("purse" : Str)] (spOf K 2 5 m__law_singles) :=
  fn_ok (k := 2) F sc__law_singles fun cdv A out s H E hr => by
    have nd := sc__law_singles.nd
    refine ⟨_, (pss_cons (ps_set (i := 2) nd rfl (by first | exact Or.inl rfl | exact Or.inr rfl) (pe_lst pa_nil))
  (pss_cons (ps_for PassesOwn.never rfl (kp_seq K (pv 0)) (pg_name (i := 3) nd rfl (by first | exact Or.inl rfl | exact Or.inr rfl))
  (pss_one (ps_for PassesOwn.never rfl (kp_seq K (pe_lst (pa_cons (pe_un un_neg pe_int) (pa_cons pe_int pa_nil)))) (pg_name (i := 4) nd rfl (by first | exact Or.inl rfl | exact Or.inr rfl))
  (pss_one (ps_if ((pw_and (pt_cmpR (k_ne K (by exact hr.units)) (pe_ix (k_ix K (by exact hu1 hr)) (pv 3) pe_int (fun _ _ => rfl)) pe_str (nomark _)) (pw_and1 (pt_cmpR op_notN (pe_c c__law_changed hr (by decide) (by rfl) (pa_cons (pv 0) (pa_cons (pv 1) (pa_cons (pe_ix (k_ix K (by exact hu1 hr)) (pv 3) pe_int (fun _ _ => rfl)) (pa_cons (pv 4) pa_nil))))) pe_non (nomark _))))).pt
  (pss_one (ps_expr (kp_bm K PySem.F.plainAttrs_list PySem.F.slot_list_append PySem.F.type_list_append mt_append (pv 2) (pa_cons (pe_tup (pa_cons (pe_ix (k_ix K (by exact hu1 hr)) (pv 3) pe_int (fun _ _ => rfl)) (pa_cons (pv 4) pa_nil))) pa_nil))))
  pss_nil)))))
  (pss_one (ps_ret (pv 2))))), ?_⟩
    exact (st_seq (st_setN (en_lst ea_nil))
  (st_seq (st_for (vs := [0, 1, 2, 3, 4]) (ei_seq (ev_var (i := 0))) (tg_name (i := 3) (by decide))
  (st_for (vs := [0, 1, 2, 3, 4]) (ei_seq (ev_lst (ea_cons (ev_un g_neg ev_int) (ea_cons ev_int ea_nil)))) (tg_name (i := 4) (by decide))
  (st_if (et_and (et_t (ev_op g_ne (ev_op g_ix (ev_var (i := 3)) ev_int) ev_str)) (et_t (ev_op g_notN (ev_imm (er_call (ea_cons (ev_var (i := 0)) (ea_cons (ev_var (i := 1)) (ea_cons (ev_op g_ix (ev_var (i := 3)) ev_int) (ea_cons (ev_var (i := 4)) ea_nil)))))) ev_non)))
  (st_drop (ev_methB g_append (ea_cons (ev_tup (ea_cons (ev_op g_ix (ev_var (i := 3)) ev_int) (ea_cons (ev_var (i := 4)) ea_nil))) ea_nil)))
  st_next)))
  (st_ret ev_var)))

abbrev N__law_row : List Str := [("deck" : Str), ("coins_so" : Str), ("purse" : Str), ("at_most" : Str), ("far" : Str), ("found" : Str), ("turn" : Str), ("some" : Str), ("kind" : Str), ("way" : Str), ("times" : Str), ("there" : Str)]
theorem sc__law_row : FnScope N__law_row [("deck" : Str), ("coins_so" : Str), ("purse" : Str), ("at_most" : Str), ("far" : Str)] (defScope (topS 40)) := ⟨rfl, rfl, rfl, by decide +kernel, rfl, by decide +kernel, by decide +kernel⟩
theorem ok__law_row {f : Addr} {fd : FuncData} (F : Fun K "_law_row" "_law_row" (topS 40) f fd) (T : Txt K mg)
    (c__law_pick : Cal P w K mg base 1 "_law_pick" (spOf K 2 4 m__law_pick))
    (c__law_singles : Cal P w K mg base 3 "_law_singles" (spOf K 2 5 m__law_singles))
    (c__law_one : Cal P w K mg base 2 "_law_one" (spOf K 2 2 m__law_one))
    (c__law_changed : Cal P w K mg base 2 "_law_changed" (spOf K 4 8 m__law_changed)) : FnOk P w K mg base CX0 4 f fd [("deck" : Str), ("coins_so" : Str), ("purse" : Str), ("at_most" : Str), ("far" : Str)] (spOf K 5 12 m__law_row) :=
  fn_ok (k := 3) F sc__law_row fun cdv A out s H E hr => by
    have nd := sc__law_row.nd
    refine ⟨_, (pss_cons (ps_set (i := 5) nd rfl (by first | exact Or.inl rfl | exact Or.inr rfl) (pe_lst pa_nil))
  (pss_cons (ps_for PassesOwn.never rfl (pi_range1 (by rfl) T.z_range (pa_cons (pe_c c__law_pick hr (by decide) (by rfl) (pa_cons (pv 0) (pa_cons (pe_op (k_add K) (pv 3) pe_int) pa_nil))) pa_nil)) (pg_name (i := 6) nd rfl (by first | exact Or.inl rfl | exact Or.inr rfl))
  (pss_cons (ps_set (i := 7) nd rfl (by first | exact Or.inl rfl | exact Or.inr rfl) (pe_c c__law_singles hr (by decide) (by rfl) (pa_cons (pv 1) (pa_cons (pv 2) pa_nil))))
  (pss_cons (ps_if (pt_cmpR (k_eq K (by exact hr.units)) (pv 7) (pe_lst pa_nil) (nomark _))
  (pss_one (ps_ret (pv 5)))
  pss_nil)
  (pss_cons (ps_asg (pe_c c__law_one hr (by decide) (by rfl) (pa_cons (pv 0) (pa_cons (pv 7) pa_nil))) (kg_tup K (n := 2) rfl (pgs_cons (pg_name (i := 8) nd rfl (by first | exact Or.inl rfl | exact Or.inr rfl)) (pgs_cons (pg_name (i := 9) nd rfl (by first | exact Or.inl rfl | exact Or.inr rfl)) pgs_nil))))
  (pss_cons (ps_set (i := 10) nd rfl (by first | exact Or.inl rfl | exact Or.inr rfl) (pe_op op_mulW (pv 9) (pe_op (k_add K) pe_int (pe_c c__law_pick hr (by decide) (by rfl) (pa_cons (pv 0) (pa_cons (pv 4) pa_nil))))))
  (pss_cons (ps_set (i := 11) nd rfl (by first | exact Or.inl rfl | exact Or.inr rfl) (pe_c c__law_changed hr (by decide) (by rfl) (pa_cons (pv 1) (pa_cons (pv 2) (pa_cons (pv 8) (pa_cons (pv 10) pa_nil))))))
  (pss_cons (ps_if (pt_cmpR op_isN (pv 11) pe_non (nomark _))
  (pss_cons (ps_set (i := 10) nd rfl (by first | exact Or.inl rfl | exact Or.inr rfl) (pv 9))
  (pss_one (ps_set (i := 11) nd rfl (by first | exact Or.inl rfl | exact Or.inr rfl) (pe_c c__law_changed hr (by decide) (by rfl) (pa_cons (pv 1) (pa_cons (pv 2) (pa_cons (pv 8) (pa_cons (pv 10) pa_nil))))))))
  pss_nil)
  (pss_cons (ps_expr (kp_bm K PySem.F.plainAttrs_list PySem.F.slot_list_append PySem.F.type_list_append mt_append (pv 5) (pa_cons (pe_tup (pa_cons (pv 8) (pa_cons (pv 10) pa_nil))) pa_nil)))
  (pss_one (ps_set (i := 2) nd rfl (by first | exact Or.inl rfl | exact Or.inr rfl) (pv 11)))))))))))
  (pss_one (ps_ret (pv 5))))), ?_⟩
    exact (st_seq (st_setN (en_lst ea_nil))
  (st_seq (st_for (vs := [0, 1, 2, 3, 4, 5, 6, 7, 8, 9, 10, 11]) (ei_range1 (ea_cons (ev_imm (er_call (ea_cons (ev_var (i := 0)) (ea_cons (ev_op g_add (ev_var (i := 3)) ev_int) ea_nil)))) ea_nil)) (tg_name (i := 6) (by decide))
  (st_seq (st_set (ev_imm (er_call (ea_cons (ev_var (i := 1)) (ea_cons (ev_var (i := 2)) ea_nil)))))
  (st_seq (st_if (et_t (ev_op g_eq (ev_var (i := 7)) (ev_lst ea_nil)))
  (st_ret ev_var)
  st_next)
  (st_seq (st_tg (ev_imm (er_call (ea_cons (ev_var (i := 0)) (ea_cons (ev_var (i := 7)) ea_nil)))) (tg_tup (tgs_cons (tg_name (i := 8) (by decide)) (tgs_cons (tg_name (i := 9) (by decide)) tgs_nil))) (vs := [0, 1, 2, 3, 4, 5, 6, 7, 8, 9, 10, 11]))
  (st_seq (st_set (ev_op g_mul (ev_var (i := 9)) (ev_op g_add ev_int (ev_imm (er_call (ea_cons (ev_var (i := 0)) (ea_cons (ev_var (i := 4)) ea_nil)))))))
  (st_seq (st_set (ev_imm (er_call (ea_cons (ev_var (i := 1)) (ea_cons (ev_var (i := 2)) (ea_cons (ev_var (i := 8)) (ea_cons (ev_var (i := 10)) ea_nil)))))))
  (st_seq (st_if (et_t (ev_op g_isN (ev_var (i := 11)) ev_non))
  (st_seq (st_set (ev_var (i := 9)))
  (st_set (ev_imm (er_call (ea_cons (ev_var (i := 1)) (ea_cons (ev_var (i := 2)) (ea_cons (ev_var (i := 8)) (ea_cons (ev_var (i := 10)) ea_nil))))))))
  st_next)
  (st_seq (st_drop (ev_methB g_append (ea_cons (ev_tup (ea_cons (ev_var (i := 8)) (ea_cons (ev_var (i := 10)) ea_nil))) ea_nil)))
  (st_set (ev_var (i := 11)))))))))))
  (st_ret ev_var)))

abbrev N_law : List Str := [("script" : Str), ("cell" : Str), ("deck" : Str), ("coins_so" : Str), ("purse" : Str), ("least" : Str), ("many" : Str), ("times" : Str), ("at" : Str), ("row" : Str), ("here" : Str), ("turn" : Str)]
theorem sc_law : FnScope N_law [("script" : Str)] (defScope (topS 41)) := ⟨rfl, rfl, rfl, by decide +kernel, rfl, by decide +kernel, by decide +kernel⟩
theorem ok_law {f : Addr} {fd : FuncData} (F : Fun K "law" "law" (topS 41) f fd) (T : Txt K mg)
    (c__law_deck : Cal P w K mg base 1 "_law_deck" (spOf K 2 2 m__law_deck))
    (c__law_coins : Cal P w K mg base 3 "_law_coins" (spOf K 2 8 m__law_coins))
    (c__law_purse : Cal P w K mg base 3 "_law_purse" (spOf K 3 5 m__law_purse))
    (c__law_one : Cal P w K mg base 2 "_law_one" (spOf K 2 2 m__law_one))
    (c_most : Cal P w K mg base 6 "most" (spOf K 2 2 m_most))
    (c_fewest : Cal P w K mg base 6 "fewest" (spOf K 2 2 m_fewest))
    (c_count : Cal P w K mg base 7 "count" (spOf K 3 3 m_count))
    (c__law_done : Cal P w K mg base 3 "_law_done" (spOf K 3 5 m__law_done))
    (c_row_to : Cal P w K mg base 7 "row_to" (spOf K 3 7 m_row_to))
    (c__law_row : Cal P w K mg base 4 "_law_row" (spOf K 5 12 m__law_row)) : FnOk P w K mg base CX0 8 f fd [("script" : Str)] (spOf K 1 12 m_law) :=
  fn_ok (k := 7) F sc_law fun cdv A out s H E hr => by
    have nd := sc_law.nd
    refine ⟨_, (pss_cons (ps_for PassesOwn.never rfl (kp_seq K (pe_slice (k_sl K) (pe_op (k_add K) (pe_lst (pa_cons pe_int pa_nil)) (pv 0)) po_none (po_some pe_int))) (pg_name (i := 1) nd rfl (by first | exact Or.inl rfl | exact Or.inr rfl))
  (pss_cons (ps_set (i := 2) nd rfl (by first | exact Or.inl rfl | exact Or.inr rfl) (pe_c c__law_deck hr (by decide) (by rfl) (pa_cons (pv 1) (pa_cons pe_int pa_nil))))
  (pss_cons (ps_set (i := 3) nd rfl (by first | exact Or.inl rfl | exact Or.inr rfl) (pe_c c__law_coins hr (by decide) (by rfl) (pa_cons (pv 2) (pa_cons pe_int pa_nil))))
  (pss_cons (ps_set (i := 4) nd rfl (by first | exact Or.inl rfl | exact Or.inr rfl) (pe_c c__law_purse hr (by decide) (by rfl) (pa_cons (pv 2) (pa_cons (pv 3) (pa_cons (pe_c c__law_one hr (by decide) (by rfl) (pa_cons (pv 2) (pa_cons (pe_lst (pa_cons pe_int (pa_cons (pe_op op_pow pe_int pe_int) (pa_cons (pe_op op_pow pe_int pe_int) pa_nil)))) pa_nil))) pa_nil)))))
  (pss_cons (ps_par (i := 5) (j := 6) rfl nd rfl rfl (by decide) rfl rfl (pa_cons (pe_c c_fewest hr (by decide) (by rfl) (pa_cons (pv 3) (pa_cons (pv 4) pa_nil))) (pa_cons (pe_c c_most hr (by decide) (by rfl) (pa_cons (pv 3) (pa_cons (pv 4) pa_nil))) pa_nil)) (by rfl))
  (pss_cons (ps_set (i := 7) nd rfl (by first | exact Or.inl rfl | exact Or.inr rfl) (pe_c c_count hr (by decide) (by rfl) (pa_cons (pv 3) (pa_cons (pv 4) (pa_cons (pv 5) pa_nil)))))
  (pss_cons (ps_if ((pw_or (pt_cmpR op_isN (pv 7) pe_non (nomark _)) (pw_or1 (pt_cmpR op_ltS (pe_callB (kc_min K rfl (by exact hu65 hr)) (by rfl) T.z_min rfl (pa_cons (pv 7) pa_nil)) pe_int (nomark _))))).pt
  (pss_one (ps_ret pe_bl))
  pss_nil)
  (pss_cons (ps_if (pt_cmpR (k_ne K (by exact hr.units)) (pe_c c__law_done hr (by decide) (by rfl) (pa_cons (pv 3) (pa_cons (pv 4) (pa_cons (pe_c c_row_to hr (by decide) (by rfl) (pa_cons (pv 3) (pa_cons (pv 4) (pa_cons (pv 5) pa_nil)))) pa_nil)))) (pv 5) (nomark _))
  (pss_one (ps_ret pe_bl))
  pss_nil)
  (pss_cons (ps_for PassesOwn.never rfl (kp_enum K (by rfl) T.z_enumerate (pa_cons (pv 3) pa_nil)) (kg_tup K (n := 2) rfl (pgs_cons (pg_name (i := 8) nd rfl (by first | exact Or.inl rfl | exact Or.inr rfl)) (pgs_cons (pg_name (i := 9) nd rfl (by first | exact Or.inl rfl | exact Or.inr rfl)) pgs_nil)))
  (pss_one (ps_if ((pw_and (pt_cmpR (k_ne K (by exact hr.units)) (pe_ix (k_ix K (by exact hu1 hr)) (pv 9) pe_int (fun _ _ => rfl)) pe_str (nomark _)) (pw_and1 (pt_cmpR op_geS (pe_ix (k_ix K (by exact hu1 hr)) (pv 5) (pv 8) (fun _ _ => rfl)) (pe_ix (k_ix K (by exact hu1 hr)) (pv 9) pe_int (fun _ _ => rfl)) (nomark _))))).pt
  (pss_one (ps_ret pe_bl))
  pss_nil)))
  (pss_cons (ps_set (i := 10) nd rfl (by first | exact Or.inl rfl | exact Or.inr rfl) (pv 4))
  (pss_one (ps_for PassesOwn.never rfl (pi_range1 (by rfl) T.z_range (pa_cons pe_int pa_nil)) (pg_name (i := 11) nd rfl (by first | exact Or.inl rfl | exact Or.inr rfl))
  (pss_cons (ps_set (i := 10) nd rfl (by first | exact Or.inl rfl | exact Or.inr rfl) (pe_c c__law_done hr (by decide) (by rfl) (pa_cons (pv 3) (pa_cons (pv 10) (pa_cons (pe_c c__law_row hr (by decide) (by rfl) (pa_cons (pv 2) (pa_cons (pv 3) (pa_cons (pv 10) (pa_cons pe_int (pa_cons (pe_op (k_add K) pe_int (pe_op op_fdivW (pe_callB (kc_max K rfl (by exact hu65 hr)) (by rfl) T.z_max rfl (pa_cons (pv 10) pa_nil)) pe_int)) pa_nil)))))) pa_nil)))))
  (pss_one (ps_if (pt_cmpR op_leS (pe_callB (kc_max K rfl (by exact hu65 hr)) (by rfl) T.z_max rfl (pa_cons (pv 10) pa_nil)) (pe_op op_pow pe_int pe_int) (nomark _))
  (pss_cons (ps_if ((pw_or (pt_cmpR (k_ne K (by exact hr.units)) (pe_c c_fewest hr (by decide) (by rfl) (pa_cons (pv 3) (pa_cons (pv 10) pa_nil))) (pv 5) (nomark _)) (pw_or1 (pt_cmpR (k_ne K (by exact hr.units)) (pe_c c_most hr (by decide) (by rfl) (pa_cons (pv 3) (pa_cons (pv 10) pa_nil))) (pv 6) (nomark _))))).pt
  (pss_one (ps_ret pe_bl))
  pss_nil)
  (pss_cons (ps_if (pt_not (pt_chain op_leS op_leS (pe_callB (kc_sum K rfl) (by rfl) T.z_sum rfl (pa_cons (pv 5) pa_nil)) (pe_callB (kc_sum K rfl) (by rfl) T.z_sum rfl (pa_cons (pv 10) pa_nil)) (pv 6)))
  (pss_one (ps_ret pe_bl))
  pss_nil)
  (pss_one (ps_if ((pw_and (pt_cmpR (k_eq K (by exact hr.units)) (pe_callB (kc_sum K rfl) (by rfl) T.z_sum rfl (pa_cons (pv 10) pa_nil)) (pe_callB (kc_sum K rfl) (by rfl) T.z_sum rfl (pa_cons (pv 5) pa_nil)) (nomark _)) (pw_and1 (pt_cmpR (k_ne K (by exact hr.units)) (pv 10) (pv 5) (nomark _))))).pt
  (pss_one (ps_ret pe_bl))
  pss_nil))))
  pss_nil)))))))))))))))
  (pss_one (ps_ret pe_bl))), ?_⟩
    exact (st_seq (st_for (vs := [0, 1, 2, 3, 4, 5, 6, 7, 8, 9, 10, 11]) (ei_seq (ev_sl (ev_op g_add (ev_lst (ea_cons ev_int ea_nil)) (ev_var (i := 0))) ep_none (ep_some ev_int))) (tg_name (i := 1) (by decide))
  (st_seq (st_setN (en_own (er_call (ea_cons (ev_var (i := 1)) (ea_cons ev_int ea_nil)))))
  (st_seq (st_set (ev_imm (er_call (ea_cons (ev_var (i := 2)) (ea_cons ev_int ea_nil)))))
  (st_seq (st_set (ev_imm (er_call (ea_cons (ev_var (i := 2)) (ea_cons (ev_var (i := 3)) (ea_cons (ev_imm (er_call (ea_cons (ev_var (i := 2)) (ea_cons (ev_lst (ea_cons ev_int (ea_cons (ev_op g_pow ev_int ev_int) (ea_cons (ev_op g_pow ev_int ev_int) ea_nil)))) ea_nil)))) ea_nil))))))
  (st_seq (st_par (ea_cons (ev_imm (er_call (ea_cons (ev_var (i := 3)) (ea_cons (ev_var (i := 4)) ea_nil)))) (ea_cons (ev_imm (er_call (ea_cons (ev_var (i := 3)) (ea_cons (ev_var (i := 4)) ea_nil)))) ea_nil)))
  (st_seq (st_set (ev_imm (er_call (ea_cons (ev_var (i := 3)) (ea_cons (ev_var (i := 4)) (ea_cons (ev_var (i := 5)) ea_nil))))))
  (st_seq (st_if (et_or (et_t (ev_op g_isN (ev_var (i := 7)) ev_non)) (et_t (ev_op g_lt (ev_callB g_min (ea_cons (ev_var (i := 7)) ea_nil)) ev_int)))
  (st_ret ev_bl)
  st_next)
  (st_seq (st_if (et_t (ev_op g_ne (ev_imm (er_call (ea_cons (ev_var (i := 3)) (ea_cons (ev_var (i := 4)) (ea_cons (ev_imm (er_call (ea_cons (ev_var (i := 3)) (ea_cons (ev_var (i := 4)) (ea_cons (ev_var (i := 5)) ea_nil))))) ea_nil))))) (ev_var (i := 5))))
  (st_ret ev_bl)
  st_next)
  (st_seq (st_for (vs := [0, 1, 2, 3, 4, 5, 6, 7, 8, 9, 10, 11]) (ei_enum (ea_cons (ev_var (i := 3)) ea_nil)) (tg_tup (tgs_cons (tg_name (i := 8) (by decide)) (tgs_cons (tg_name (i := 9) (by decide)) tgs_nil)))
  (st_if (et_and (et_t (ev_op g_ne (ev_op g_ix (ev_var (i := 9)) ev_int) ev_str)) (et_t (ev_op g_ge (ev_op g_ix (ev_var (i := 5)) (ev_var (i := 8))) (ev_op g_ix (ev_var (i := 9)) ev_int))))
  (st_ret ev_bl)
  st_next))
  (st_seq (st_set (ev_var (i := 4)))
  (st_for (vs := [0, 1, 2, 3, 4, 5, 6, 7, 8, 9, 10, 11]) (ei_range1 (ea_cons ev_int ea_nil)) (tg_name (i := 11) (by decide))
  (st_seq (st_set (ev_imm (er_call (ea_cons (ev_var (i := 3)) (ea_cons (ev_var (i := 10)) (ea_cons (ev_imm (er_call (ea_cons (ev_var (i := 2)) (ea_cons (ev_var (i := 3)) (ea_cons (ev_var (i := 10)) (ea_cons ev_int (ea_cons (ev_op g_add ev_int (ev_op g_div (ev_callB g_max (ea_cons (ev_var (i := 10)) ea_nil)) ev_int)) ea_nil))))))) ea_nil))))))
  (st_if (et_t (ev_op g_le (ev_callB g_max (ea_cons (ev_var (i := 10)) ea_nil)) (ev_op g_pow ev_int ev_int)))
  (st_seq (st_if (et_or (et_t (ev_op g_ne (ev_imm (er_call (ea_cons (ev_var (i := 3)) (ea_cons (ev_var (i := 10)) ea_nil)))) (ev_var (i := 5)))) (et_t (ev_op g_ne (ev_imm (er_call (ea_cons (ev_var (i := 3)) (ea_cons (ev_var (i := 10)) ea_nil)))) (ev_var (i := 6)))))
  (st_ret ev_bl)
  st_next)
  (st_seq (st_if (et_not (et_t (ev_chain g_le g_le (ev_callB g_sum (ea_cons (ev_var (i := 5)) ea_nil)) (ev_callB g_sum (ea_cons (ev_var (i := 10)) ea_nil)) (ev_var (i := 6)))))
  (st_ret ev_bl)
  st_next)
  (st_if (et_and (et_t (ev_op g_eq (ev_callB g_sum (ea_cons (ev_var (i := 10)) ea_nil)) (ev_callB g_sum (ea_cons (ev_var (i := 5)) ea_nil)))) (et_t (ev_op g_ne (ev_var (i := 10)) (ev_var (i := 5)))))
  (st_ret ev_bl)
  st_next)))
  st_next)))))))))))))
  (st_ret ev_bl))
end
end DV

set_option Elab.async false
set_option linter.all false
set_option maxRecDepth 100000
set_option maxHeartbeats 4000000
set_option autoImplicit false
namespace DV
open PySem L2
def p_is_from (a0 : D) (a1 : D) (a2 : D) : Px D := outI (m_is_from [.imm a0, .imm a1, .imm a2])
theorem fx_is_from (a0 : D) (a1 : D) (a2 : D) : Fx0 m_is_from [.imm a0, .imm a1, .imm a2] (p_is_from a0 a1 a2) (fun w => .imm w) := fxI _ _

def p_is_name (a0 : D) : Px D := outI (m_is_name [.imm a0])
theorem fx_is_name (a0 : D) : Fx0 m_is_name [.imm a0] (p_is_name a0) (fun w => .imm w) := fxI _ _

def p_is_rising (a0 : D) : Px D := outI (m_is_rising [.imm a0])
theorem fx_is_rising (a0 : D) : Fx0 m_is_rising [.imm a0] (p_is_rising a0) (fun w => .imm w) := fxI _ _

def p_is_coin (a0 : D) : Px D := outI (m_is_coin [.imm a0])
theorem fx_is_coin (a0 : D) : Fx0 m_is_coin [.imm a0] (p_is_coin a0) (fun w => .imm w) := fxI _ _

def p_are_coins (a0 : D) : Px D := outI (m_are_coins [.imm a0])
theorem fx_are_coins (a0 : D) : Fx0 m_are_coins [.imm a0] (p_are_coins a0) (fun w => .imm w) := fxI _ _

def p_need_coins (a0 : D) : Px D := outI (m_need_coins [.imm a0])
theorem fx_need_coins (a0 : D) : Fx0 m_need_coins [.imm a0] (p_need_coins a0) (fun w => .imm w) := fxI _ _

def p_is_stock (a0 : D) (a1 : D) : Px D := outI (m_is_stock [.imm a0, .imm a1])
theorem fx_is_stock (a0 : D) (a1 : D) : Fx0 m_is_stock [.imm a0, .imm a1] (p_is_stock a0 a1) (fun w => .imm w) := fxI _ _

def p_need_purse (a0 : D) (a1 : D) : Px D := outI (m_need_purse [.imm a0, .imm a1])
theorem fx_need_purse (a0 : D) (a1 : D) : Fx0 m_need_purse [.imm a0, .imm a1] (p_need_purse a0 a1) (fun w => .imm w) := fxI _ _

def p_lesser (a0 : D) (a1 : D) : Px (List D) := outL (m_lesser [.imm a0, .imm a1])
theorem fx_lesser (a0 : D) (a1 : D) : Fx0 m_lesser [.imm a0, .imm a1] (p_lesser a0 a1) (fun w => .own false (.lst w)) := fxL _ _

def p_from_below (a0 : D) : Px (List D) := outL (m_from_below [.imm a0])
theorem fx_from_below (a0 : D) : Fx0 m_from_below [.imm a0] (p_from_below a0) (fun w => .own false (.lst w)) := fxL _ _

def pc_gathered_1 (s1 : (List D)) (coins1 : D) (d2 : D) : Px (Option D) :=
  (ofO (gIx (.list s1) d2)).bind fun x4 =>
  (ofO (gIx coins1 d2)).bind fun x5 =>
  (ofO (gIx x5 (.int 1))).bind fun x6 =>
  (ofO (gDiv x4 x6)).bind fun x7 =>
  .ok (some x7)
theorem lpc_gathered_1 (s1 : (List D)) (coins1 : D) (purse1 : D) (d1 : D) (d2 : D) : RO [.im coins1, .im purse1, .ow false (.lst s1), .im d1, .dead] (turnM (tN 4) (Md.ret true) x_gathered_1 d2) (EndC [4] [.im coins1, .im purse1, .ow false (.lst s1), .im d1, .dead]) (pc_gathered_1 s1 coins1 d2) :=
  (rc_turnY (tg_n rfl (ro_m2 (ro_m2 (ro_own rfl (ro_var rfl ⟨_, _, _, rfl, rfl, rfl, fun x4 => (ro_m2 (ro_m2 (ro_var rfl (ro_var rfl ⟨_, _, _, rfl, rfl, rfl, fun x5 => (ro_c ⟨_, _, _, rfl, rfl, rfl, fun x6 => ⟨_, _, _, rfl, rfl, rfl, fun x7 => ⟨_, rfl, rfl, rfl, (.same (.same (.same (.same (.same Wk.nil)))))⟩⟩⟩)⟩))))⟩))))))
def pb_gathered_2 (coins1 : D) (s2 : (List D)) (d3 : D) : Px ((List D)) :=
  (ofO (getL s2 d3)).bind fun x11 =>
  (ofO (gIx coins1 d3)).bind fun x12 =>
  (ofO (gIx x12 (.int 1))).bind fun x13 =>
  (ofO (gMod x11 x13)).bind fun z2 => (ofO (putL s2 d3 z2)).bind fun found3 =>
  .ok found3
theorem lpb_gathered_2 (coins1 : D) (purse1 : D) (d1 : D) (s2 : (List D)) (d3 : D) : RO ((fun s_ : (List D) => ([.im coins1, .im purse1, .ow false (.lst s_), .im d1, .dead] : Pts)) s2) (bodyM (tN 4) b_gathered_1 d3) (EndP (fun s_ : (List D) => ([.im coins1, .im purse1, .ow false (.lst s_), .im d1, .dead] : Pts))) (pb_gathered_2 coins1 s2 d3) :=
  (RO.bind (tg_n rfl (rs_aug kL rfl (ro_var rfl ⟨_, _, _, _, rfl, rfl, rfl, fun x11 => (ro_m2 (ro_m2 (ro_var rfl (ro_var rfl ⟨_, _, _, rfl, rfl, rfl, fun x12 => (ro_c ⟨_, _, _, rfl, rfl, rfl, fun x13 => ⟨_, _, _, _, rfl, rfl, rfl, fun found3 => ⟨Or.inl rfl, _, rfl, (.same (.same (.same (.same (.dead Wk.nil)))))⟩⟩⟩)⟩))))⟩))))
def pb_gathered_1 (coins1 : D) (s1 : (List D)) (d1 : D) : Px ((List D)) :=
  (ofO (getL s1 d1)).bind fun x2 =>
  (p_lesser coins1 d1).bind fun x3 =>
  (ofO (items (.list x3))).bind fun l2 =>
  (compP (pc_gathered_1 s1 coins1) l2 []).bind fun x8 =>
  (ofO (gSum [(.list x8)])).bind fun x9 =>
  (ofO (gAddI x2 x9)).bind fun z1 => (ofO (putL s1 d1 z1)).bind fun found2 =>
  (p_lesser coins1 d1).bind fun x10 =>
  (ofO (items (.list x10))).bind fun l3 =>
  (loopP (pb_gathered_2 coins1) l3 found2).bind fun found4 =>
  .ok found4
theorem lpb_gathered_1 (coins1 : D) (purse1 : D) (s1 : (List D)) (d1 : D) : RO ((fun s_ : (List D) => ([.im coins1, .im purse1, .ow false (.lst s_), .dead, .dead] : Pts)) s1) (bodyM (tN 3) b_gathered_2 d1) (EndP (fun s_ : (List D) => ([.im coins1, .im purse1, .ow false (.lst s_), .dead, .dead] : Pts))) (pb_gathered_1 coins1 s1 d1) :=
  (RO.bind (tg_n rfl (rs_seq (rs_aug kL rfl (ro_var rfl ⟨_, _, _, _, rfl, rfl, rfl, fun x2 => (ro_call (ra_cons (ro_frz (rn_lc (ri_seq (ro_imm (rr_call0 (ra_cons (ro_var rfl (ra_cons (ro_var rfl (ra_nil ⟨_, _, _, _, _, fx_lesser _ _, rfl, rfl, rfl, rfl, fun x3 => ⟨_, rfl, ⟨_, _, rfl, rfl, fun l2 => ⟨_, _, rfl, rfl, fun d_ => lpc_gathered_1 s1 coins1 purse1 d1 d_, fun x8 => ⟨_, rfl, (ra_nil ⟨_, _, rfl, rfl, fun x9 => ⟨_, _, _, _, rfl, rfl, rfl, fun found2 => (RO.cast (ps' := [.im coins1, .im purse1, .ow false (.lst found2), .im d1, .dead]) rfl (rs_for (ri_seq (ro_imm (rr_call0 (ra_cons (ro_var rfl (ra_cons (ro_var rfl (ra_nil ⟨_, _, _, _, _, fx_lesser _ _, rfl, rfl, rfl, rfl, fun x10 => ⟨_, rfl, ⟨_, _, rfl, rfl, fun l3 => ⟨_, (fun s_ : (List D) => ([.im coins1, .im purse1, .ow false (.lst s_), .im d1, .dead] : Pts)), pb_gathered_2 coins1, found2, _, fun s_ d_ => lpb_gathered_2 coins1 purse1 d1 s_ d_, (.same (.same (.same (.same (.same Wk.nil))))), rfl, fun found4 => ⟨Or.inl rfl, _, rfl, (.same (.same (.same (.dead (.same Wk.nil)))))⟩⟩⟩⟩⟩))))))))))⟩⟩)⟩⟩⟩⟩⟩))))))))))))⟩)))))
def p_gathered (coins1 : D) (purse1 : D) : Px (D) :=
  (ofO (lstO (gList [purse1]))).bind fun found1 =>
  (p_from_below coins1).bind fun x1 =>
  (ofO (items (.list x1))).bind fun l1 =>
  (loopP (pb_gathered_1 coins1) l1 found1).bind fun found5 =>
  (ofO (gTuple [(.list found5)])).bind fun r1 =>
  .ok r1
theorem fx_gathered (coins1 : D) (purse1 : D) : Fx0 m_gathered [.imm coins1, .imm purse1] (p_gathered coins1 purse1) (fun w => .imm w) :=
  fx0 (ps := [.im coins1, .im purse1, .dead, .dead, .dead]) (.im (.im (.none (.none (.none FitL.nil))))) (rs_seq (rs_setN (rn_call (ra_cons (ro_var rfl (ra_nil ⟨_, _, rfl, rfl, fun found1 => ⟨rfl, (RO.cast (ps' := [.im coins1, .im purse1, .ow false (.lst found1), .dead, .dead]) rfl (rs_seq (rs_for (ri_seq (ro_imm (rr_call0 (ra_cons (ro_var rfl (ra_nil ⟨_, _, _, _, _, fx_from_below _, rfl, rfl, rfl, rfl, fun x1 => ⟨_, rfl, ⟨_, _, rfl, rfl, fun l1 => ⟨_, (fun s_ : (List D) => ([.im coins1, .im purse1, .ow false (.lst s_), .dead, .dead] : Pts)), pb_gathered_1 coins1, found1, _, fun s_ d_ => lpb_gathered_1 coins1 purse1 s_ d_, (.same (.same (.same (.same (.same Wk.nil))))), rfl, fun found5 => (RO.cast (ps' := [.im coins1, .im purse1, .ow false (.lst found5), .dead, .dead]) rfl (rs_ret (ro_call (ra_cons (ro_own rfl (ra_nil ⟨_, _, rfl, rfl, fun r1 => ⟨_, rfl, ⟨_, rfl, Or.inl rfl⟩⟩⟩))))))⟩⟩⟩⟩)))))))))⟩⟩))))))

def p_fewest (coins1 : D) (purse1 : D) : Px (D) :=
  (p_need_purse coins1 purse1).bind fun x1 =>
  (p_gathered coins1 purse1).bind fun r1 =>
  .ok r1
theorem fx_fewest (coins1 : D) (purse1 : D) : Fx0 m_fewest [.imm coins1, .imm purse1] (p_fewest coins1 purse1) (fun w => .imm w) :=
  fx0 (ps := [.im coins1, .im purse1]) (.im (.im FitL.nil)) (rs_seq (rs_drop (ro_imm (rr_call0 (ra_cons (ro_var rfl (ra_cons (ro_var rfl (ra_nil ⟨_, _, _, _, _, fx_need_purse _ _, rfl, rfl, rfl, rfl, fun x1 => ⟨_, rfl, (rs_retA (rr_call0 (ra_cons (ro_var rfl (ra_cons (ro_var rfl (ra_nil ⟨_, _, _, _, _, fx_gathered _ _, rfl, rfl, rfl, rfl, fun r1 => ⟨_, rfl, ⟨_, rfl, Or.inl rfl⟩⟩⟩)))))))⟩⟩)))))))))

def pc_most_of_1 (coins1 : D) (s1 : (List (Key × D))) (d2 : D) : Px (Option D) :=
  (ofO (gIx coins1 d2)).bind fun x3 =>
  (ofO (gIx x3 (.int 1))).bind fun x4 =>
  (ofO (gIx (dkD s1) d2)).bind fun x5 =>
  (ofO (gMul x4 x5)).bind fun x6 =>
  .ok (some x6)
theorem lpc_most_of_1 (coins1 : D) (s1 : (List (Key × D))) (purse1 : D) (d1 : D) (d2 : D) : RO [.im coins1, .im purse1, .ow false (.dK s1), .im d1, .dead, .dead] (turnM (tN 4) (Md.ret true) x_most_of_1 d2) (EndC [4] [.im coins1, .im purse1, .ow false (.dK s1), .im d1, .dead, .dead]) (pc_most_of_1 coins1 s1 d2) :=
  (rc_turnY (tg_n rfl (ro_m2 (ro_m2 (ro_m2 (ro_var rfl (ro_var rfl ⟨_, _, _, rfl, rfl, rfl, fun x3 => (ro_c ⟨_, _, _, rfl, rfl, rfl, fun x4 => (ro_m2 (ro_own rfl (ro_var rfl ⟨_, _, _, rfl, rfl, rfl, fun x5 => ⟨_, _, _, rfl, rfl, rfl, fun x6 => ⟨_, rfl, rfl, rfl, (.same (.same (.same (.same (.same (.same Wk.nil))))))⟩⟩⟩)))⟩)⟩)))))))
def pb_most_of_1 (coins1 : D) (s1 : (List (Key × D))) (d1 : D) : Px ((List (Key × D))) :=
  (p_lesser coins1 d1).bind fun x2 =>
  (ofO (items (.list x2))).bind fun l2 =>
  (compP (pc_most_of_1 coins1 s1) l2 []).bind fun x7 =>
  (ofO (gAdd (.list [(.int 1)]) (.list x7))).bind fun x8 =>
  (ofO (gMax [x8])).bind fun x9 =>
  (ofO (putK s1 d1 x9)).bind fun broken1 =>
  .ok broken1
theorem lpb_most_of_1 (coins1 : D) (purse1 : D) (s1 : (List (Key × D))) (d1 : D) : RO ((fun s_ : (List (Key × D)) => ([.im coins1, .im purse1, .ow false (.dK s_), .dead, .dead, .dead] : Pts)) s1) (bodyM (tN 3) b_most_of_1 d1) (EndP (fun s_ : (List (Key × D)) => ([.im coins1, .im purse1, .ow false (.dK s_), .dead, .dead, .dead] : Pts))) (pb_most_of_1 coins1 s1 d1) :=
  (RO.bind (tg_n rfl (rs_put kK (ro_call (ra_cons (ro_m2 (ro_lst (ra_cons (ro_c (ra_nil ⟨_, rfl, len_ok rfl, (ro_frz (rn_lc (ri_seq (ro_imm (rr_call0 (ra_cons (ro_var rfl (ra_cons (ro_var rfl (ra_nil ⟨_, _, _, _, _, fx_lesser _ _, rfl, rfl, rfl, rfl, fun x2 => ⟨_, rfl, ⟨_, _, rfl, rfl, fun l2 => ⟨_, _, rfl, rfl, fun d_ => lpc_most_of_1 coins1 s1 purse1 d1 d_, fun x7 => ⟨_, rfl, ⟨_, _, _, rfl, rfl, rfl, fun x8 => (ra_nil ⟨_, _, rfl, rfl, fun x9 => ⟨⟨_, _, rfl⟩, (ro_var rfl ⟨_, _, _, _, _, rfl, rfl, rfl, rfl, fun broken1 => ⟨Or.inl rfl, _, rfl, (.same (.same (.same (.dead (.same (.same Wk.nil))))))⟩⟩)⟩⟩)⟩⟩⟩⟩⟩⟩))))))))))⟩))))))))))
def pc_most_of_2 (broken2 : (List (Key × D))) (d3 : D) : Px (Option D) :=
  (un2 d3).bind fun z1 =>
  (ofO (gIx (dkD broken2) z1.1)).bind fun x11 =>
  (ofO (gMul z1.2 x11)).bind fun x12 =>
  .ok (some x12)
theorem lpc_most_of_2 (broken2 : (List (Key × D))) (coins1 : D) (purse1 : D) (d3 : D) : RO [.im coins1, .im purse1, .ow false (.dK broken2), .dead, .dead, .dead] (turnM (tTupT 2 (tsCons (tN 3) (tsCons (tN 5) tsNil))) (Md.ret true) x_most_of_2 d3) (EndC [3, 5] [.im coins1, .im purse1, .ow false (.dK broken2), .dead, .dead, .dead]) (pc_most_of_2 broken2 d3) :=
  (rc_turnY (tg_2 fun z1 => (tg_n rfl (tg_n rfl (ro_m2 (ro_var rfl (ro_m2 (ro_own rfl (ro_var rfl ⟨_, _, _, rfl, rfl, rfl, fun x11 => ⟨_, _, _, rfl, rfl, rfl, fun x12 => ⟨_, rfl, rfl, rfl, (.same (.same (.same (.same (.same (.same Wk.nil))))))⟩⟩⟩)))))))))
def p_most_of (coins1 : D) (purse1 : D) : Px (D) :=
  (p_from_below coins1).bind fun x1 =>
  (ofO (items (.list x1))).bind fun l1 =>
  (loopP (pb_most_of_1 coins1) l1 []).bind fun broken2 =>
  (p_gathered coins1 purse1).bind fun x10 =>
  (ofO (enumO [x10])).bind fun l3 =>
  (compP (pc_most_of_2 broken2) l3 []).bind fun x13 =>
  (ofO (gSum [(.list x13)])).bind fun r1 =>
  .ok r1
theorem fx_most_of (coins1 : D) (purse1 : D) : Fx0 m_most_of [.imm coins1, .imm purse1] (p_most_of coins1 purse1) (fun w => .imm w) :=
  fx0 (ps := [.im coins1, .im purse1, .dead, .dead, .dead, .dead]) (.im (.im (.none (.none (.none (.none FitL.nil)))))) (rs_seq (rs_setN (rn_dict ⟨rfl, (RO.cast (ps' := [.im coins1, .im purse1, .ow false (.dK []), .dead, .dead, .dead]) rfl (rs_seq (rs_for (ri_seq (ro_imm (rr_call0 (ra_cons (ro_var rfl (ra_nil ⟨_, _, _, _, _, fx_from_below _, rfl, rfl, rfl, rfl, fun x1 => ⟨_, rfl, ⟨_, _, rfl, rfl, fun l1 => ⟨_, (fun s_ : (List (Key × D)) => ([.im coins1, .im purse1, .ow false (.dK s_), .dead, .dead, .dead] : Pts)), pb_most_of_1 coins1, [], _, fun s_ d_ => lpb_most_of_1 coins1 purse1 s_ d_, (.same (.same (.same (.same (.same (.same Wk.nil)))))), rfl, fun broken2 => (RO.cast (ps' := [.im coins1, .im purse1, .ow false (.dK broken2), .dead, .dead, .dead]) rfl (rs_ret (ro_call (ra_cons (ro_frz (rn_lc (ri_enum (ra_cons (ro_imm (rr_call0 (ra_cons (ro_var rfl (ra_cons (ro_var rfl (ra_nil ⟨_, _, _, _, _, fx_gathered _ _, rfl, rfl, rfl, rfl, fun x10 => ⟨_, rfl, (ra_nil ⟨_, _, rfl, rfl, fun l3 => ⟨_, _, rfl, rfl, fun d_ => lpc_most_of_2 broken2 coins1 purse1 d_, fun x13 => ⟨_, rfl, (ra_nil ⟨_, _, rfl, rfl, fun r1 => ⟨_, rfl, ⟨_, rfl, Or.inl rfl⟩⟩⟩)⟩⟩⟩)⟩⟩)))))))))))))))⟩⟩⟩⟩)))))))))⟩)))

def p_most (coins1 : D) (purse1 : D) : Px (D) :=
  (p_need_purse coins1 purse1).bind fun x1 =>
  (p_most_of coins1 purse1).bind fun r1 =>
  .ok r1
theorem fx_most (coins1 : D) (purse1 : D) : Fx0 m_most [.imm coins1, .imm purse1] (p_most coins1 purse1) (fun w => .imm w) :=
  fx0 (ps := [.im coins1, .im purse1]) (.im (.im FitL.nil)) (rs_seq (rs_drop (ro_imm (rr_call0 (ra_cons (ro_var rfl (ra_cons (ro_var rfl (ra_nil ⟨_, _, _, _, _, fx_need_purse _ _, rfl, rfl, rfl, rfl, fun x1 => ⟨_, rfl, (rs_retA (rr_call0 (ra_cons (ro_var rfl (ra_cons (ro_var rfl (ra_nil ⟨_, _, _, _, _, fx_most_of _ _, rfl, rfl, rfl, rfl, fun r1 => ⟨_, rfl, ⟨_, rfl, Or.inl rfl⟩⟩⟩)))))))⟩⟩)))))))))

def p_need_two (coins1 : D) (one1 : D) (other1 : D) : Px (D) :=
  (p_need_purse coins1 one1).bind fun x1 =>
  (p_is_stock coins1 other1).bind fun x2 =>
  (asB x2).bind fun b1 =>
  if (!b1) = true then
  .no
  else
  .ok .none
theorem fx_need_two (coins1 : D) (one1 : D) (other1 : D) : Fx0 m_need_two [.imm coins1, .imm one1, .imm other1] (p_need_two coins1 one1 other1) (fun w => .imm w) :=
  fx0 (ps := [.im coins1, .im one1, .im other1]) (.im (.im (.im FitL.nil))) (rs_seq (rs_drop (ro_imm (rr_call0 (ra_cons (ro_var rfl (ra_cons (ro_var rfl (ra_nil ⟨_, _, _, _, _, fx_need_purse _ _, rfl, rfl, rfl, rfl, fun x1 => ⟨_, rfl, (rs_if (ro_notT (ro_mT (ro_imm (rr_call0 (ra_cons (ro_var rfl (ra_cons (ro_var rfl (ra_nil ⟨_, _, _, _, _, fx_is_stock _ _, rfl, rfl, rfl, rfl, fun x2 => ⟨_, rfl, ⟨_, _, rfl, rfl, fun b1 => ⟨_, _, rfl, rs_stuck, (rs_nx ⟨_, rfl, Or.inr ⟨rfl, rfl⟩⟩)⟩⟩⟩⟩))))))))))⟩⟩)))))))))

def p_reckoned (a0 : D) (a1 : D) (a2 : D) : Px D := outI (m_reckoned [.imm a0, .imm a1, .imm a2])
theorem fx_reckoned (a0 : D) (a1 : D) (a2 : D) : Fx0 m_reckoned [.imm a0, .imm a1, .imm a2] (p_reckoned a0 a1 a2) (fun w => .imm w) := fxI _ _

def pc_counted_1 (z1 : D × D) (d1 : D) : Px (Option D) :=
  (ofO (gIx z1.1 d1)).bind fun x2 =>
  .ok (some x2)
theorem lpc_counted_1 (z1 : D × D) (coins1 : D) (one1 : D) (other1 : D) (d1 : D) : RO [.im coins1, .im one1, .im other1, .im z1.1, .im z1.2, .dead] (turnM (tN 5) (Md.ret true) x_counted_1 d1) (EndC [5] [.im coins1, .im one1, .im other1, .im z1.1, .im z1.2, .dead]) (pc_counted_1 z1 d1) :=
  (rc_turnY (tg_n rfl (ro_m2 (ro_var rfl (ro_var rfl ⟨_, _, _, rfl, rfl, rfl, fun x2 => ⟨_, rfl, rfl, rfl, (.same (.same (.same (.same (.same (.same Wk.nil))))))⟩⟩)))))
def p_counted (coins1 : D) (one1 : D) (other1 : D) : Px (D) :=
  (p_reckoned coins1 one1 other1).bind fun t1 =>
  (un2 t1).bind fun z1 =>
  (ofO (isEmpD z1.2)).bind fun e1 =>
  (if (false ^^ e1) = true then (ofO (gLen [coins1])).bind fun x1 =>
  (ofO (rng1 [x1])).bind fun l1 =>
  (compP (pc_counted_1 z1) l1 []).bind fun x3 =>
  (ofO (gTuple [(.list x3)])).bind fun x4 =>
  .ok x4 else .ok .none : Px D).bind fun r1 =>
  .ok r1
theorem fx_counted (coins1 : D) (one1 : D) (other1 : D) : Fx0 m_counted [.imm coins1, .imm one1, .imm other1] (p_counted coins1 one1 other1) (fun w => .imm w) :=
  fx0 (ps := [.im coins1, .im one1, .im other1, .dead, .dead, .dead]) (.im (.im (.im (.none (.none (.none FitL.nil)))))) (rs_seq (rs_tg (ro_imm (rr_call0 (ra_cons (ro_var rfl (ra_cons (ro_var rfl (ra_cons (ro_var rfl (ra_nil ⟨_, _, _, _, _, fx_reckoned _ _ _, rfl, rfl, rfl, rfl, fun t1 => ⟨_, rfl, ⟨_, rfl, (tg_2 fun z1 => (tg_n rfl (tg_n rfl (RO.cast (ps' := [.im coins1, .im one1, .im other1, .im z1.1, .im z1.2, .dead]) rfl (rs_ret (ro_ifJ (ro_mTB (ro_emp (ro_var rfl ⟨_, _, rfl, rfl, fun e1 => ⟨_, rfl, ⟨_, _, _, rfl, (ro_call (ra_cons (ro_frz (rn_lc (ri_range1 (ra_cons (ro_call (ra_cons (ro_var rfl (ra_nil ⟨_, _, rfl, rfl, fun x1 => (ra_nil ⟨_, _, rfl, rfl, fun l1 => ⟨_, _, rfl, rfl, fun d_ => lpc_counted_1 z1 coins1 one1 other1 d_, fun x3 => ⟨_, rfl, (ra_nil ⟨_, _, rfl, rfl, fun x4 => ⟨_, rfl, rfl, Wk.refl _⟩⟩)⟩⟩⟩)⟩)))))))))), (ro_c ⟨_, rfl, rfl, Wk.refl _⟩), fun r1 => ⟨_, rfl, ⟨_, rfl, Or.inl rfl⟩⟩⟩⟩⟩)))))))))⟩⟩⟩)))))))))))

def p_count (coins1 : D) (one1 : D) (other1 : D) : Px (D) :=
  (p_need_two coins1 one1 other1).bind fun x1 =>
  (p_counted coins1 one1 other1).bind fun r1 =>
  .ok r1
theorem fx_count (coins1 : D) (one1 : D) (other1 : D) : Fx0 m_count [.imm coins1, .imm one1, .imm other1] (p_count coins1 one1 other1) (fun w => .imm w) :=
  fx0 (ps := [.im coins1, .im one1, .im other1]) (.im (.im (.im FitL.nil))) (rs_seq (rs_drop (ro_imm (rr_call0 (ra_cons (ro_var rfl (ra_cons (ro_var rfl (ra_cons (ro_var rfl (ra_nil ⟨_, _, _, _, _, fx_need_two _ _ _, rfl, rfl, rfl, rfl, fun x1 => ⟨_, rfl, (rs_retA (rr_call0 (ra_cons (ro_var rfl (ra_cons (ro_var rfl (ra_cons (ro_var rfl (ra_nil ⟨_, _, _, _, _, fx_counted _ _ _, rfl, rfl, rfl, rfl, fun r1 => ⟨_, rfl, ⟨_, rfl, Or.inl rfl⟩⟩⟩)))))))))⟩⟩)))))))))))

def pc_row_to_1 (found1 : D) (coins1 : D) (d1 : D) : Px (Option D) :=
  (ofO (gIx found1 d1)).bind fun x3 =>
  (ofO (gGt x3 (.int 0))).bind fun x4 =>
  (asB x4).bind fun b2 =>
  if b2 = true then
  (ofO (gIx coins1 d1)).bind fun x5 =>
  (ofO (gIx x5 (.int 0))).bind fun x6 =>
  (ofO (gIx found1 d1)).bind fun x7 =>
  .ok (some (.tuple [x6, x7]))
  else .ok none
theorem lpc_row_to_1 (found1 : D) (coins1 : D) (one1 : D) (other1 : D) (order1 : List D) (d1 : D) : RO [.im coins1, .im one1, .im other1, .im found1, .im (.list order1), .dead, .dead] (turnM (tN 6) t_row_to_1 x_row_to_1 d1) (EndC [6] [.im coins1, .im one1, .im other1, .im found1, .im (.list order1), .dead, .dead]) (pc_row_to_1 found1 coins1 d1) :=
  (rc_turn (tg_n rfl (ro_mT (ro_m2 (ro_m2 (ro_var rfl (ro_var rfl ⟨_, _, _, rfl, rfl, rfl, fun x3 => (ro_c ⟨_, _, _, rfl, rfl, rfl, fun x4 => ⟨_, _, rfl, rfl, fun b2 => ⟨_, _, rfl, (ro_tup (ra_cons (ro_m2 (ro_m2 (ro_var rfl (ro_var rfl ⟨_, _, _, rfl, rfl, rfl, fun x5 => (ro_c ⟨_, _, _, rfl, rfl, rfl, fun x6 => (ra_cons (ro_m2 (ro_var rfl (ro_var rfl ⟨_, _, _, rfl, rfl, rfl, fun x7 => (ra_nil ⟨_, rfl, len_ok rfl, ⟨_, rfl, rfl, rfl, (.same (.same (.same (.same (.same (.same (.same Wk.nil)))))))⟩⟩)⟩))))⟩)⟩)))))), rfl, rfl, (.same (.same (.same (.same (.same (.same (.same Wk.nil)))))))⟩⟩⟩)⟩)))))))
def pc_row_to_2 (found1 : D) (coins1 : D) (d2 : D) : Px (Option D) :=
  (ofO (gIx found1 d2)).bind fun x9 =>
  (ofO (gLt x9 (.int 0))).bind fun x10 =>
  (asB x10).bind fun b3 =>
  if b3 = true then
  (ofO (gIx coins1 d2)).bind fun x11 =>
  (ofO (gIx x11 (.int 0))).bind fun x12 =>
  (ofO (gIx found1 d2)).bind fun x13 =>
  .ok (some (.tuple [x12, x13]))
  else .ok none
theorem lpc_row_to_2 (found1 : D) (coins1 : D) (one1 : D) (other1 : D) (order1 : List D) (ups1 : List D) (d2 : D) : RO [.im coins1, .im one1, .im other1, .im found1, .im (.list order1), .im (.list ups1), .dead] (turnM (tN 6) t_row_to_2 x_row_to_2 d2) (EndC [6] [.im coins1, .im one1, .im other1, .im found1, .im (.list order1), .im (.list ups1), .dead]) (pc_row_to_2 found1 coins1 d2) :=
  (rc_turn (tg_n rfl (ro_mT (ro_m2 (ro_m2 (ro_var rfl (ro_var rfl ⟨_, _, _, rfl, rfl, rfl, fun x9 => (ro_c ⟨_, _, _, rfl, rfl, rfl, fun x10 => ⟨_, _, rfl, rfl, fun b3 => ⟨_, _, rfl, (ro_tup (ra_cons (ro_m2 (ro_m2 (ro_var rfl (ro_var rfl ⟨_, _, _, rfl, rfl, rfl, fun x11 => (ro_c ⟨_, _, _, rfl, rfl, rfl, fun x12 => (ra_cons (ro_m2 (ro_var rfl (ro_var rfl ⟨_, _, _, rfl, rfl, rfl, fun x13 => (ra_nil ⟨_, rfl, len_ok rfl, ⟨_, rfl, rfl, rfl, (.same (.same (.same (.same (.same (.same (.same Wk.nil)))))))⟩⟩)⟩))))⟩)⟩)))))), rfl, rfl, (.same (.same (.same (.same (.same (.same (.same Wk.nil)))))))⟩⟩⟩)⟩)))))))
def p_row_to (coins1 : D) (one1 : D) (other1 : D) : Px (D) :=
  (p_need_two coins1 one1 other1).bind fun x1 =>
  (p_counted coins1 one1 other1).bind fun found1 =>
  (ofO (gIsN found1 .none)).bind fun x2 =>
  (asB x2).bind fun b1 =>
  if b1 = true then
  .ok .none
  else
  (p_from_below coins1).bind fun order1 =>
  (ofO (items (.list order1))).bind fun l1 =>
  (compP (pc_row_to_1 found1 coins1) l1 []).bind fun ups1 =>
  (ofO (revO (.list order1))).bind fun x8 =>
  (ofO (items x8)).bind fun l2 =>
  (compP (pc_row_to_2 found1 coins1) l2 []).bind fun x14 =>
  (ofO (gAdd (.list ups1) (.list x14))).bind fun r1 =>
  .ok r1
theorem fx_row_to (coins1 : D) (one1 : D) (other1 : D) : Fx0 m_row_to [.imm coins1, .imm one1, .imm other1] (p_row_to coins1 one1 other1) (fun w => .imm w) :=
  fx0 (ps := [.im coins1, .im one1, .im other1, .dead, .dead, .dead, .dead]) (.im (.im (.im (.none (.none (.none (.none FitL.nil))))))) (rs_seq (rs_drop (ro_imm (rr_call0 (ra_cons (ro_var rfl (ra_cons (ro_var rfl (ra_cons (ro_var rfl (ra_nil ⟨_, _, _, _, _, fx_need_two _ _ _, rfl, rfl, rfl, rfl, fun x1 => ⟨_, rfl, (rs_seq (rs_set (ro_imm (rr_call0 (ra_cons (ro_var rfl (ra_cons (ro_var rfl (ra_cons (ro_var rfl (ra_nil ⟨_, _, _, _, _, fx_counted _ _ _, rfl, rfl, rfl, rfl, fun found1 => ⟨_, rfl, ⟨_, rfl, rfl, (RO.cast (ps' := [.im coins1, .im one1, .im other1, .im found1, .dead, .dead, .dead]) rfl (rs_seq (rs_if (ro_mT (ro_m2 (ro_var rfl (ro_c ⟨_, _, _, rfl, rfl, rfl, fun x2 => ⟨_, _, rfl, rfl, fun b1 => ⟨_, _, rfl, (rs_ret (ro_c ⟨_, rfl, ⟨_, rfl, Or.inl rfl⟩⟩)), (rs_nx (rs_seq (rs_set (ro_imm (rr_call0 (ra_cons (ro_var rfl (ra_nil ⟨_, _, _, _, _, fx_from_below _, rfl, rfl, rfl, rfl, fun order1 => ⟨_, rfl, ⟨_, rfl, rfl, (RO.cast (ps' := [.im coins1, .im one1, .im other1, .im found1, .im (.list order1), .dead, .dead]) rfl (rs_seq (rs_set (ro_frz (rn_lc (ri_seq (ro_var rfl ⟨_, _, rfl, rfl, fun l1 => ⟨_, _, rfl, rfl, fun d_ => lpc_row_to_1 found1 coins1 one1 other1 order1 d_, fun ups1 => ⟨_, rfl, ⟨_, rfl, rfl, (RO.cast (ps' := [.im coins1, .im one1, .im other1, .im found1, .im (.list order1), .im (.list ups1), .dead]) rfl (rs_ret (ro_m2 (ro_var rfl (ro_frz (rn_lc (ri_seq (ro_rev (ro_var rfl ⟨_, _, rfl, rfl, fun x8 => ⟨_, _, rfl, rfl, fun l2 => ⟨_, _, rfl, rfl, fun d_ => lpc_row_to_2 found1 coins1 one1 other1 order1 ups1 d_, fun x14 => ⟨_, rfl, ⟨_, _, _, rfl, rfl, rfl, fun r1 => ⟨_, rfl, ⟨_, rfl, Or.inl rfl⟩⟩⟩⟩⟩⟩⟩)))))))))⟩⟩⟩⟩)))))))⟩⟩⟩))))))))⟩⟩⟩)))))))⟩⟩⟩)))))))))))⟩⟩)))))))))))

def p__law_deck (a0 : D) (a1 : D) : Px (List D) := outL (m__law_deck [.imm a0, .imm a1])
theorem fx__law_deck (a0 : D) (a1 : D) : Fx0 m__law_deck [.imm a0, .imm a1] (p__law_deck a0 a1) (fun w => .own false (.lst w)) := fxL _ _

def p__law_pick (a0 : List D) (a1 : D) : Px (D × List D) := outIS 0 (m__law_pick [.own true (.lst a0), .imm a1])
theorem fx__law_pick (a0 : List D) (a1 : D) : Fx1 m__law_pick [.own true (.lst a0), .imm a1] 0 (p__law_pick a0 a1) (fun w => .imm w.1) (fun w => .lst w.2) := fxIS _ _ _

def p__law_one (a0 : List D) (a1 : D) : Px (D × List D) := outIS 0 (m__law_one [.own true (.lst a0), .imm a1])
theorem fx__law_one (a0 : List D) (a1 : D) : Fx1 m__law_one [.own true (.lst a0), .imm a1] 0 (p__law_one a0 a1) (fun w => .imm w.1) (fun w => .lst w.2) := fxIS _ _ _

def p__law_coins (a0 : List D) (a1 : D) : Px (D × List D) := outIS 0 (m__law_coins [.own true (.lst a0), .imm a1])
theorem fx__law_coins (a0 : List D) (a1 : D) : Fx1 m__law_coins [.own true (.lst a0), .imm a1] 0 (p__law_coins a0 a1) (fun w => .imm w.1) (fun w => .lst w.2) := fxIS _ _ _

def p__law_purse (a0 : List D) (a1 : D) (a2 : D) : Px (D × List D) := outIS 0 (m__law_purse [.own true (.lst a0), .imm a1, .imm a2])
theorem fx__law_purse (a0 : List D) (a1 : D) (a2 : D) : Fx1 m__law_purse [.own true (.lst a0), .imm a1, .imm a2] 0 (p__law_purse a0 a1 a2) (fun w => .imm w.1) (fun w => .lst w.2) := fxIS _ _ _

def p__law_at (a0 : D) (a1 : D) : Px D := outI (m__law_at [.imm a0, .imm a1])
theorem fx__law_at (a0 : D) (a1 : D) : Fx0 m__law_at [.imm a0, .imm a1] (p__law_at a0 a1) (fun w => .imm w) := fxI _ _

def p__law_changed (a0 : D) (a1 : D) (a2 : D) (a3 : D) : Px D := outI (m__law_changed [.imm a0, .imm a1, .imm a2, .imm a3])
theorem fx__law_changed (a0 : D) (a1 : D) (a2 : D) (a3 : D) : Fx0 m__law_changed [.imm a0, .imm a1, .imm a2, .imm a3] (p__law_changed a0 a1 a2 a3) (fun w => .imm w) := fxI _ _

def p__law_done (a0 : D) (a1 : D) (a2 : D) : Px D := outI (m__law_done [.imm a0, .imm a1, .imm a2])
theorem fx__law_done (a0 : D) (a1 : D) (a2 : D) : Fx0 m__law_done [.imm a0, .imm a1, .imm a2] (p__law_done a0 a1 a2) (fun w => .imm w) := fxI _ _

def p__law_singles (a0 : D) (a1 : D) : Px (List D) := outL (m__law_singles [.imm a0, .imm a1])
theorem fx__law_singles (a0 : D) (a1 : D) : Fx0 m__law_singles [.imm a0, .imm a1] (p__law_singles a0 a1) (fun w => .own false (.lst w)) := fxL _ _

def p__law_row (a0 : List D) (a1 : D) (a2 : D) (a3 : D) (a4 : D) : Px (List D × List D) := outLS 0 (m__law_row [.own true (.lst a0), .imm a1, .imm a2, .imm a3, .imm a4])
theorem fx__law_row (a0 : List D) (a1 : D) (a2 : D) (a3 : D) (a4 : D) : Fx1 m__law_row [.own true (.lst a0), .imm a1, .imm a2, .imm a3, .imm a4] 0 (p__law_row a0 a1 a2 a3 a4) (fun w => .own false (.lst w.1)) (fun w => .lst w.2) := fxLS _ _ _

def pb_law_2 (x6 : D) (s2 : Unit) (d2 : D) : Px (Stp (Unit) (D)) :=
  (un2 d2).bind fun z1 =>
  (ofO (gIx z1.2 (.int 2))).bind fun x14 =>
  (ofO (gNe x14 (.str ("" : Str)))).bind fun x15 =>
  (asB x15).bind fun b5 =>
  (if b5 = true then (ofO (gIx x6 z1.1)).bind fun x16 =>
  (ofO (gIx z1.2 (.int 1))).bind fun x17 =>
  (ofO (gGe x16 x17)).bind fun x18 =>
  (asB x18).bind fun b6 =>
  .ok b6 else .ok false : Px Bool).bind fun b7 =>
  if b7 = true then
  .ok (.rt (.bool false))
  else
  .ok (.nx ())
theorem lpb_law_2 (x6 : D) (script1 : D) (d1 : D) (purse1 : D × List D) (coins_so1 : D × List D) (x7 : D) (times1 : D) (s2 : Unit) (d2 : D) : RO ((fun s_ : Unit => ([.im script1, .im d1, .ow false (.lst purse1.2), .im coins_so1.1, .im purse1.1, .im x6, .im x7, .im times1, .dead, .dead, .dead, .dead] : Pts)) s2) (bodyM (tTupT 2 (tsCons (tN 8) (tsCons (tN 9) tsNil))) b_law_1 d2) (EndE (fun s_ : Unit => ([.im script1, .im d1, .ow false (.lst purse1.2), .im coins_so1.1, .im purse1.1, .im x6, .im x7, .im times1, .dead, .dead, .dead, .dead] : Pts)) (fun t_ : D => (A.imm t_ : A)) (fun t_ : D => ([.gone, .gone, .gone, .gone, .gone, .gone, .gone, .gone, .gone, .gone, .gone, .gone] : Pts))) (pb_law_2 x6 s2 d2) :=
  (RO.bind (tg_2 fun z1 => (tg_n rfl (tg_n rfl (rs_if (ro_andJ (ro_mT (ro_m2 (ro_m2 (ro_var rfl (ro_c ⟨_, _, _, rfl, rfl, rfl, fun x14 => (ro_c ⟨_, _, _, rfl, rfl, rfl, fun x15 => ⟨_, _, rfl, rfl, fun b5 => ⟨_, _, rfl, (ro_mT (ro_m2 (ro_m2 (ro_var rfl (ro_var rfl ⟨_, _, _, rfl, rfl, rfl, fun x16 => (ro_m2 (ro_var rfl (ro_c ⟨_, _, _, rfl, rfl, rfl, fun x17 => ⟨_, _, _, rfl, rfl, rfl, fun x18 => ⟨_, _, rfl, rfl, fun b6 => ⟨rfl, Wk.refl _⟩⟩⟩⟩)))⟩))))), fun b7 => ⟨_, _, rfl, (rs_ret (ro_c ⟨_, rfl, ⟨_, rfl, rfl, (.goneI (.goneI (.goneO (.goneI (.goneI (.goneI (.goneI (.goneI (.goneI (.goneI (.goneD (.goneD Wk.nil))))))))))))⟩⟩)), (rs_nx ⟨_, rfl, (.same (.same (.same (.same (.same (.same (.same (.same (.dead (.dead (.same (.same Wk.nil))))))))))))⟩)⟩⟩⟩⟩)⟩)))))))))))
def pb_law_3 (coins_so1 : D × List D) (x6 : D) (x7 : D) (s4 : (List D) × D) (d3 : D) : Px (Stp ((List D) × D) (D)) :=
  (ofO (gMax [s4.2])).bind fun x19 =>
  (ofO (gDiv x19 (.int 500))).bind fun x20 =>
  (ofO (gAdd (.int 1) x20)).bind fun x21 =>
  (p__law_row s4.1 coins_so1.1 s4.2 (.int 8) x21).bind fun x22 =>
  (p__law_done coins_so1.1 s4.2 (.list x22.1)).bind fun here1 =>
  (ofO (gMax [here1])).bind fun x23 =>
  (ofO (gPow (.int 10) (.int 30))).bind fun x24 =>
  (ofO (gLe x23 x24)).bind fun x25 =>
  (asB x25).bind fun b8 =>
  if b8 = true then
  (p_fewest coins_so1.1 here1).bind fun x26 =>
  (ofO (gNe x26 x6)).bind fun x27 =>
  (asB x27).bind fun b9 =>
  (if b9 = true then .ok true else (p_most coins_so1.1 here1).bind fun x28 =>
  (ofO (gNe x28 x7)).bind fun x29 =>
  (asB x29).bind fun b10 =>
  .ok b10 : Px Bool).bind fun b11 =>
  if b11 = true then
  .ok (.rt (.bool false))
  else
  (ofO (gSum [x6])).bind fun x30 =>
  (ofO (gSum [here1])).bind fun x31 =>
  (ofO (gLe x30 x31)).bind fun c1 => (asB c1).bind fun b12 =>
  (if b12 = true then ofO (gLe x31 x7) else .ok (.bool false) : Px D).bind fun x32 =>
  (asB x32).bind fun b13 =>
  if (!b13) = true then
  .ok (.rt (.bool false))
  else
  (ofO (gSum [here1])).bind fun x33 =>
  (ofO (gSum [x6])).bind fun x34 =>
  (ofO (gEq x33 x34)).bind fun x35 =>
  (asB x35).bind fun b14 =>
  (if b14 = true then (ofO (gNe here1 x6)).bind fun x36 =>
  (asB x36).bind fun b15 =>
  .ok b15 else .ok false : Px Bool).bind fun b16 =>
  if b16 = true then
  .ok (.rt (.bool false))
  else
  .ok (.nx (x22.2, here1))
  else
  .ok (.nx (x22.2, here1))
theorem lpb_law_3 (coins_so1 : D × List D) (x6 : D) (x7 : D) (script1 : D) (d1 : D) (purse1 : D × List D) (times1 : D) (s4 : (List D) × D) (d3 : D) : RO ((fun s_ : (List D) × D => ([.im script1, .im d1, .ow false (.lst s_.1), .im coins_so1.1, .im purse1.1, .im x6, .im x7, .im times1, .dead, .dead, .im s_.2, .dead] : Pts)) s4) (bodyM (tN 11) b_law_2 d3) (EndE (fun s_ : (List D) × D => ([.im script1, .im d1, .ow false (.lst s_.1), .im coins_so1.1, .im purse1.1, .im x6, .im x7, .im times1, .dead, .dead, .im s_.2, .dead] : Pts)) (fun t_ : D => (A.imm t_ : A)) (fun t_ : D => ([.gone, .gone, .gone, .gone, .gone, .gone, .gone, .gone, .gone, .gone, .gone, .gone] : Pts))) (pb_law_3 coins_so1 x6 x7 s4 d3) :=
  (RO.bind (tg_n rfl (rs_seq (rs_set (ro_imm (rr_call0 (ra_cons (ro_var rfl (ra_cons (ro_var rfl (ra_cons (ro_imm (rr_call1 (ra_cons (ro_own rfl (ra_cons (ro_var rfl (ra_cons (ro_var rfl (ra_cons (ro_c (ra_cons (ro_m2 (ro_c (ro_m2 (ro_call (ra_cons (ro_var rfl (ra_nil ⟨_, _, rfl, rfl, fun x19 => (ro_c ⟨_, _, _, rfl, rfl, rfl, fun x20 => ⟨_, _, _, rfl, rfl, rfl, fun x21 => (ra_nil ⟨_, _, _, _, _, _, _, _, _, _, fx__law_row _ _ _ _ _, rfl, rfl, rfl, rfl, rfl, rfl, fun x22 => ⟨_, rfl, (ra_nil ⟨_, _, _, _, _, fx__law_done _ _ _, rfl, rfl, rfl, rfl, fun here1 => ⟨_, rfl, ⟨_, rfl, rfl, (RO.cast (ps' := [.im script1, .im d1, .ow false (.lst x22.2), .im coins_so1.1, .im purse1.1, .im x6, .im x7, .im times1, .dead, .dead, .im here1, .im d3]) rfl (rs_if (ro_mT (ro_m2 (ro_call (ra_cons (ro_var rfl (ra_nil ⟨_, _, rfl, rfl, fun x23 => (ro_m2 (ro_c (ro_c ⟨_, _, _, rfl, rfl, rfl, fun x24 => ⟨_, _, _, rfl, rfl, rfl, fun x25 => ⟨_, _, rfl, rfl, fun b8 => ⟨_, _, rfl, (rs_seq (rs_if (ro_orJ (ro_mT (ro_m2 (ro_imm (rr_call0 (ra_cons (ro_var rfl (ra_cons (ro_var rfl (ra_nil ⟨_, _, _, _, _, fx_fewest _ _, rfl, rfl, rfl, rfl, fun x26 => ⟨_, rfl, (ro_var rfl ⟨_, _, _, rfl, rfl, rfl, fun x27 => ⟨_, _, rfl, rfl, fun b9 => ⟨_, _, rfl, (ro_mT (ro_m2 (ro_imm (rr_call0 (ra_cons (ro_var rfl (ra_cons (ro_var rfl (ra_nil ⟨_, _, _, _, _, fx_most _ _, rfl, rfl, rfl, rfl, fun x28 => ⟨_, rfl, (ro_var rfl ⟨_, _, _, rfl, rfl, rfl, fun x29 => ⟨_, _, rfl, rfl, fun b10 => ⟨rfl, Wk.refl _⟩⟩⟩)⟩⟩))))))))), fun b11 => ⟨_, _, rfl, (rs_ret (ro_c ⟨_, rfl, ⟨_, rfl, rfl, (.goneI (.goneI (.goneO (.goneI (.goneI (.goneI (.goneI (.goneI (.goneD (.goneD (.goneI (.goneI Wk.nil))))))))))))⟩⟩)), (rs_nx (rs_seq (rs_if (ro_notT (ro_mT (ro_chainJ (ro_call (ra_cons (ro_var rfl (ra_nil ⟨_, _, rfl, rfl, fun x30 => (ro_call (ra_cons (ro_var rfl (ra_nil ⟨_, _, rfl, rfl, fun x31 => ⟨_, _, _, _, rfl, rfl, rfl, (ro_var rfl ⟨rfl, _, rfl, rfl⟩), fun x32 => ⟨_, _, rfl, rfl, fun b13 => ⟨_, _, rfl, (rs_ret (ro_c ⟨_, rfl, ⟨_, rfl, rfl, (.goneI (.goneI (.goneO (.goneI (.goneI (.goneI (.goneI (.goneI (.goneD (.goneD (.goneI (.goneI Wk.nil))))))))))))⟩⟩)), (rs_nx (rs_if (ro_andJ (ro_mT (ro_m2 (ro_call (ra_cons (ro_var rfl (ra_nil ⟨_, _, rfl, rfl, fun x33 => (ro_call (ra_cons (ro_var rfl (ra_nil ⟨_, _, rfl, rfl, fun x34 => ⟨_, _, _, rfl, rfl, rfl, fun x35 => ⟨_, _, rfl, rfl, fun b14 => ⟨_, _, rfl, (ro_mT (ro_m2 (ro_var rfl (ro_var rfl ⟨_, _, _, rfl, rfl, rfl, fun x36 => ⟨_, _, rfl, rfl, fun b15 => ⟨rfl, Wk.refl _⟩⟩⟩)))), fun b16 => ⟨_, _, rfl, (rs_ret (ro_c ⟨_, rfl, ⟨_, rfl, rfl, (.goneI (.goneI (.goneO (.goneI (.goneI (.goneI (.goneI (.goneI (.goneD (.goneD (.goneI (.goneI Wk.nil))))))))))))⟩⟩)), (rs_nx ⟨_, rfl, (.same (.same (.same (.same (.same (.same (.same (.same (.same (.same (.same (.dead Wk.nil))))))))))))⟩)⟩⟩⟩⟩⟩))))⟩)))))))))⟩⟩⟩⟩))))⟩))))))))))⟩⟩⟩⟩)⟩⟩)))))))))))), (rs_nx ⟨_, rfl, (.same (.same (.same (.same (.same (.same (.same (.same (.same (.same (.same (.dead Wk.nil))))))))))))⟩)⟩⟩⟩⟩)))⟩))))))))⟩⟩⟩)⟩⟩)⟩⟩)⟩)))))))))))))))))))))))))))))
def pb_law_1 (s1 : Unit) (d1 : D) : Px (Stp (Unit) (D)) :=
  (p__law_deck d1 (.int 9)).bind fun deck1 =>
  (p__law_coins deck1 (.int 8)).bind fun coins_so1 =>
  (ofO (gPow (.int 10) (.int 9))).bind fun x3 =>
  (ofO (gPow (.int 10) (.int 28))).bind fun x4 =>
  (p__law_one coins_so1.2 (.list [(.int 40), x3, x4])).bind fun x5 =>
  (p__law_purse x5.2 coins_so1.1 x5.1).bind fun purse1 =>
  (p_fewest coins_so1.1 purse1.1).bind fun x6 =>
  (p_most coins_so1.1 purse1.1).bind fun x7 =>
  (p_count coins_so1.1 purse1.1 x6).bind fun times1 =>
  (ofO (gIsN times1 .none)).bind fun x8 =>
  (asB x8).bind fun b1 =>
  (if b1 = true then .ok true else (ofO (gMin [times1])).bind fun x9 =>
  (ofO (gLt x9 (.int 0))).bind fun x10 =>
  (asB x10).bind fun b2 =>
  .ok b2 : Px Bool).bind fun b3 =>
  if b3 = true then
  .ok (.rt (.bool false))
  else
  (p_row_to coins_so1.1 purse1.1 x6).bind fun x11 =>
  (p__law_done coins_so1.1 purse1.1 x11).bind fun x12 =>
  (ofO (gNe x12 x6)).bind fun x13 =>
  (asB x13).bind fun b4 =>
  if b4 = true then
  .ok (.rt (.bool false))
  else
  (ofO (enumO [coins_so1.1])).bind fun l2 =>
  (loopE (pb_law_2 x6) l2 ()).bind fun r2 => (match r2 with
  | .inl s3 =>
  (ofO (rng1 [(.int 4)])).bind fun l3 =>
  (loopE (pb_law_3 coins_so1 x6 x7) l3 (purse1.2, purse1.1)).bind fun r1 => (match r1 with
  | .inl deck_here1 =>
  .ok (.nx ())
  | .inr w1 =>
  .ok (.rt w1))
  | .inr w2 =>
  .ok (.rt w2))
theorem lpb_law_1 (script1 : D) (s1 : Unit) (d1 : D) : RO ((fun s_ : Unit => ([.im script1, .dead, .gone, .dead, .dead, .dead, .dead, .dead, .dead, .dead, .dead, .dead] : Pts)) s1) (bodyM (tN 1) b_law_3 d1) (EndE (fun s_ : Unit => ([.im script1, .dead, .gone, .dead, .dead, .dead, .dead, .dead, .dead, .dead, .dead, .dead] : Pts)) (fun t_ : D => (A.imm t_ : A)) (fun t_ : D => ([.gone, .gone, .gone, .gone, .gone, .gone, .gone, .gone, .gone, .gone, .gone, .gone] : Pts))) (pb_law_1 s1 d1) :=
  (RO.bind (tg_n rfl (rs_seq (rs_setN (rn_own (rr_call0 (ra_cons (ro_var rfl (ra_cons (ro_c (ra_nil ⟨_, _, _, _, _, fx__law_deck _ _, rfl, rfl, rfl, rfl, fun deck1 => ⟨_, _, rfl, ⟨rfl, (RO.cast (ps' := [.im script1, .im d1, .ow false (.lst deck1), .dead, .dead, .dead, .dead, .dead, .dead, .dead, .dead, .dead]) rfl (rs_seq (rs_set (ro_imm (rr_call1 (ra_cons (ro_own rfl (ra_cons (ro_c (ra_nil ⟨_, _, _, _, _, _, _, _, _, _, fx__law_coins _ _, rfl, rfl, rfl, rfl, rfl, rfl, fun coins_so1 => ⟨_, rfl, ⟨_, rfl, rfl, (RO.cast (ps' := [.im script1, .im d1, .ow false (.lst coins_so1.2), .im coins_so1.1, .dead, .dead, .dead, .dead, .dead, .dead, .dead, .dead]) rfl (rs_seq (rs_set (ro_imm (rr_call1 (ra_cons (ro_own rfl (ra_cons (ro_var rfl (ra_cons (ro_imm (rr_call1 (ra_cons (ro_own rfl (ra_cons (ro_lst (ra_cons (ro_c (ra_cons (ro_m2 (ro_c (ro_c ⟨_, _, _, rfl, rfl, rfl, fun x3 => (ra_cons (ro_m2 (ro_c (ro_c ⟨_, _, _, rfl, rfl, rfl, fun x4 => (ra_nil ⟨_, rfl, len_ok rfl, (ra_nil ⟨_, _, _, _, _, _, _, _, _, _, fx__law_one _ _, rfl, rfl, rfl, rfl, rfl, rfl, fun x5 => ⟨_, rfl, (ra_nil ⟨_, _, _, _, _, _, _, _, _, _, fx__law_purse _ _ _, rfl, rfl, rfl, rfl, rfl, rfl, fun purse1 => ⟨_, rfl, ⟨_, rfl, rfl, (RO.cast (ps' := [.im script1, .im d1, .ow false (.lst purse1.2), .im coins_so1.1, .im purse1.1, .dead, .dead, .dead, .dead, .dead, .dead, .dead]) rfl (rs_seq (rs_par (ra_cons (ro_imm (rr_call0 (ra_cons (ro_var rfl (ra_cons (ro_var rfl (ra_nil ⟨_, _, _, _, _, fx_fewest _ _, rfl, rfl, rfl, rfl, fun x6 => ⟨_, rfl, (ra_cons (ro_imm (rr_call0 (ra_cons (ro_var rfl (ra_cons (ro_var rfl (ra_nil ⟨_, _, _, _, _, fx_most _ _, rfl, rfl, rfl, rfl, fun x7 => ⟨_, rfl, (ra_nil ⟨_, _, rfl, rfl, rfl, (RO.cast (ps' := [.im script1, .im d1, .ow false (.lst purse1.2), .im coins_so1.1, .im purse1.1, .im x6, .im x7, .dead, .dead, .dead, .dead, .dead]) rfl (rs_seq (rs_set (ro_imm (rr_call0 (ra_cons (ro_var rfl (ra_cons (ro_var rfl (ra_cons (ro_var rfl (ra_nil ⟨_, _, _, _, _, fx_count _ _ _, rfl, rfl, rfl, rfl, fun times1 => ⟨_, rfl, ⟨_, rfl, rfl, (RO.cast (ps' := [.im script1, .im d1, .ow false (.lst purse1.2), .im coins_so1.1, .im purse1.1, .im x6, .im x7, .im times1, .dead, .dead, .dead, .dead]) rfl (rs_seq (rs_if (ro_orJ (ro_mT (ro_m2 (ro_var rfl (ro_c ⟨_, _, _, rfl, rfl, rfl, fun x8 => ⟨_, _, rfl, rfl, fun b1 => ⟨_, _, rfl, (ro_mT (ro_m2 (ro_call (ra_cons (ro_var rfl (ra_nil ⟨_, _, rfl, rfl, fun x9 => (ro_c ⟨_, _, _, rfl, rfl, rfl, fun x10 => ⟨_, _, rfl, rfl, fun b2 => ⟨rfl, Wk.refl _⟩⟩⟩)⟩)))))), fun b3 => ⟨_, _, rfl, (rs_ret (ro_c ⟨_, rfl, ⟨_, rfl, rfl, (.goneI (.goneI (.goneO (.goneI (.goneI (.goneI (.goneI (.goneI (.goneD (.goneD (.goneD (.goneD Wk.nil))))))))))))⟩⟩)), (rs_nx (rs_seq (rs_if (ro_mT (ro_m2 (ro_imm (rr_call0 (ra_cons (ro_var rfl (ra_cons (ro_var rfl (ra_cons (ro_imm (rr_call0 (ra_cons (ro_var rfl (ra_cons (ro_var rfl (ra_cons (ro_var rfl (ra_nil ⟨_, _, _, _, _, fx_row_to _ _ _, rfl, rfl, rfl, rfl, fun x11 => ⟨_, rfl, (ra_nil ⟨_, _, _, _, _, fx__law_done _ _ _, rfl, rfl, rfl, rfl, fun x12 => ⟨_, rfl, (ro_var rfl ⟨_, _, _, rfl, rfl, rfl, fun x13 => ⟨_, _, rfl, rfl, fun b4 => ⟨_, _, rfl, (rs_ret (ro_c ⟨_, rfl, ⟨_, rfl, rfl, (.goneI (.goneI (.goneO (.goneI (.goneI (.goneI (.goneI (.goneI (.goneD (.goneD (.goneD (.goneD Wk.nil))))))))))))⟩⟩)), (rs_nx (rs_seq (rs_forE (ri_enum (ra_cons (ro_var rfl (ra_nil ⟨_, _, rfl, rfl, fun l2 => ⟨_, _, (fun s_ : Unit => ([.im script1, .im d1, .ow false (.lst purse1.2), .im coins_so1.1, .im purse1.1, .im x6, .im x7, .im times1, .dead, .dead, .dead, .dead] : Pts)), (fun t_ : D => (A.imm t_ : A)), (fun t_ : D => ([.gone, .gone, .gone, .gone, .gone, .gone, .gone, .gone, .gone, .gone, .gone, .gone] : Pts)), pb_law_2 x6, (), _, fun s_ d_ => lpb_law_2 x6 script1 d1 purse1 coins_so1 x7 times1 s_ d_, (.same (.same (.same (.same (.same (.same (.same (.same (.same (.same (.same (.same Wk.nil)))))))))))), rfl, fun s3 => (rs_seq (rs_set (ro_var rfl ⟨_, rfl, rfl, (RO.cast (ps' := [.im script1, .im d1, .ow false (.lst purse1.2), .im coins_so1.1, .im purse1.1, .im x6, .im x7, .im times1, .dead, .dead, .im purse1.1, .dead]) rfl (rs_forE (ri_range1 (ra_cons (ro_c (ra_nil ⟨_, _, rfl, rfl, fun l3 => ⟨_, _, (fun s_ : (List D) × D => ([.im script1, .im d1, .ow false (.lst s_.1), .im coins_so1.1, .im purse1.1, .im x6, .im x7, .im times1, .dead, .dead, .im s_.2, .dead] : Pts)), (fun t_ : D => (A.imm t_ : A)), (fun t_ : D => ([.gone, .gone, .gone, .gone, .gone, .gone, .gone, .gone, .gone, .gone, .gone, .gone] : Pts)), pb_law_3 coins_so1 x6 x7, (purse1.2, purse1.1), _, fun s_ d_ => lpb_law_3 coins_so1 x6 x7 script1 d1 purse1 times1 s_ d_, (.same (.same (.same (.same (.same (.same (.same (.same (.same (.same (.same (.same Wk.nil)))))))))))), rfl, fun deck_here1 => ⟨_, rfl, (.same (.dead (.goneO (.dead (.dead (.dead (.dead (.dead (.same (.same (.dead (.same Wk.nil))))))))))))⟩, fun w1 => ⟨_, rfl, rfl, (.same (.same (.same (.same (.same (.same (.same (.same (.same (.same (.same (.same Wk.nil))))))))))))⟩⟩⟩))))))⟩))), fun w2 => ⟨_, rfl, rfl, (.same (.same (.same (.same (.same (.same (.same (.same (.same (.same (.same (.same Wk.nil))))))))))))⟩⟩⟩)))))))⟩⟩⟩)⟩⟩)⟩⟩)))))))))))))))))))))⟩⟩⟩⟩))))))))⟩⟩⟩))))))))))))⟩)⟩⟩))))))))⟩⟩)))))))))))⟩⟩⟩)⟩⟩)⟩)⟩))))⟩))))))))))))))))))))))⟩⟩⟩))))))))))⟩⟩⟩)))))))))))
def p_law (script1 : D) : Px (D) :=
  (ofO (gAdd (.list [(.int 0)]) script1)).bind fun x1 =>
  (ofO (intO (.int 10))).bind fun i1 =>
  (ofO (gSl x1 none (some i1))).bind fun x2 =>
  (ofO (items x2)).bind fun l1 =>
  (loopE (pb_law_1) l1 ()).bind fun r3 => (match r3 with
  | .inl s5 =>
  .ok (.bool true)
  | .inr w3 =>
  .ok w3)
theorem fx_law (script1 : D) : Fx0 m_law [.imm script1] (p_law script1) (fun w => .imm w) :=
  fx0 (ps := [.im script1, .dead, .dead, .dead, .dead, .dead, .dead, .dead, .dead, .dead, .dead, .dead]) (.im (.none (.none (.none (.none (.none (.none (.none (.none (.none (.none (.none FitL.nil)))))))))))) (rs_seq (rs_forE (ri_seq (ro_sl (ro_m2 (ro_lst (ra_cons (ro_c (ra_nil ⟨_, rfl, len_ok rfl, (ro_var rfl ⟨_, _, _, rfl, rfl, rfl, fun x1 => (ro_ret (rp_part (ro_c ⟨_, _, rfl, rfl, fun i1 => ⟨_, _, rfl, rfl, fun x2 => ⟨_, _, rfl, rfl, fun l1 => ⟨_, _, (fun s_ : Unit => ([.im script1, .dead, .gone, .dead, .dead, .dead, .dead, .dead, .dead, .dead, .dead, .dead] : Pts)), (fun t_ : D => (A.imm t_ : A)), (fun t_ : D => ([.gone, .gone, .gone, .gone, .gone, .gone, .gone, .gone, .gone, .gone, .gone, .gone] : Pts)), pb_law_1, (), _, fun s_ d_ => lpb_law_1 script1 s_ d_, (.same (.same (.goneD (.same (.same (.same (.same (.same (.same (.same (.same (.same Wk.nil)))))))))))), rfl, fun s5 => (RO.cast (ps' := [.im script1, .dead, .gone, .dead, .dead, .dead, .dead, .dead, .dead, .dead, .dead, .dead]) rfl (rs_ret (ro_c ⟨_, rfl, ⟨_, rfl, Or.inl rfl⟩⟩))), fun w3 => ⟨_, rfl, Or.inl rfl⟩⟩⟩⟩⟩)))⟩)⟩)))))))))
end DV

set_option Elab.async false
set_option linter.all false
set_option maxRecDepth 100000
set_option maxHeartbeats 4000000
set_option autoImplicit false
/-! MxA: loops of the mirrors, in plain words. -/
namespace DV
open PySem L2
theorem forL_nil (tg : D → Env → Option Env) (body : Md Fw) (ρ : Env) : forL tg body [] ρ = .ok .nx ρ := rfl
/-- a loop that may return -/
theorem forL_ret {tg : D → Env → Option Env} {body : Md Fw} (I : Nat → Env → Prop) (Post : A → Env → Prop) : ∀ (ds : List D) (k : Nat) (ρ : Env), I k ρ →
    (∀ i d ρ, ds[i]? = some d → I (k + i) ρ → ∃ ρ1 ρ2, tg d ρ = some ρ1 ∧ (((body ρ1 = .ok .nx ρ2 ∨ body ρ1 = .ok .ct ρ2) ∧ I (k + i + 1) ρ2) ∨ ∃ a, body ρ1 = .ok (.rt a) ρ2 ∧ Post a ρ2)) →
    (∃ ρ', forL tg body ds ρ = .ok .nx ρ' ∧ I (k + ds.length) ρ') ∨ ∃ a ρ', forL tg body ds ρ = .ok (.rt a) ρ' ∧ Post a ρ'
  | [], k, ρ, h, _ => .inl ⟨ρ, rfl, h⟩
  | d :: ds, k, ρ, h, hs => by
    obtain ⟨ρ1, ρ2, e, q⟩ := hs 0 d ρ rfl h
    have next : ∀ ρ2, I (k + 0 + 1) ρ2 → (∃ ρ', forL tg body ds ρ2 = .ok .nx ρ' ∧ I (k + (d :: ds).length) ρ') ∨ ∃ a ρ', forL tg body ds ρ2 = .ok (.rt a) ρ' ∧ Post a ρ' := fun ρ2 h2 => by
      have := forL_ret I Post ds (k + 1) ρ2 (by simpa using h2) fun i d' ρ hd hi => by
        have := hs (i + 1) d' ρ (by simpa using hd) (by rw [show k + (i + 1) = k + 1 + i by omega]; exact hi)
        rw [show k + (i + 1) = k + 1 + i by omega] at this
        exact this
      rw [show k + (d :: ds).length = k + 1 + ds.length by simp; omega]
      exact this
    unfold forL
    rw [e]
    rcases q with ⟨q | q, h2⟩ | ⟨a, q, hp⟩
    · simp only [q]; exact next ρ2 h2
    · simp only [q]; exact next ρ2 h2
    · simp only [q]; exact .inr ⟨a, ρ2, rfl, hp⟩
theorem forL_run {tg : D → Env → Option Env} {body : Md Fw} (I : Nat → Env → Prop) (ds : List D) (ρ : Env) (h0 : I 0 ρ)
    (hs : ∀ i d ρ, ds[i]? = some d → I i ρ → ∃ ρ1 ρ2, tg d ρ = some ρ1 ∧ (body ρ1 = .ok .nx ρ2 ∨ body ρ1 = .ok .ct ρ2) ∧ I (i + 1) ρ2) :
    ∃ ρ', forL tg body ds ρ = .ok .nx ρ' ∧ I ds.length ρ' := by
  rcases forL_ret I (fun _ _ => False) ds 0 ρ h0 (fun i d ρ hd hi => by
    obtain ⟨ρ1, ρ2, a, b, c⟩ := hs i d ρ hd (by simpa using hi)
    exact ⟨ρ1, ρ2, a, .inl ⟨b, by simpa using c⟩⟩) with ⟨ρ', e, h⟩ | ⟨_, _, _, h⟩
  · exact ⟨ρ', e, by simpa using h⟩
  · exact h.elim
/-- a loop whose turns are alike: the state after i items is F i -/
theorem forL_eq {tg : D → Env → Option Env} {body : Md Fw} (F : Nat → Env) (ds : List D) (h : ∀ i d, ds[i]? = some d → ∃ ρ1, tg d (F i) = some ρ1 ∧ (body ρ1 = .ok .nx (F (i + 1)) ∨ body ρ1 = .ok .ct (F (i + 1)))) :
    forL tg body ds (F 0) = .ok .nx (F ds.length) := by
  obtain ⟨ρ', e, h2⟩ := forL_run (fun i ρ => ρ = F i) ds (F 0) rfl (fun i d ρ hd hi => by
    subst hi
    obtain ⟨ρ1, a, b⟩ := h i d hd
    exact ⟨ρ1, _, a, b, rfl⟩)
  rw [e, h2]
/-- a comprehension that may change cells -/
theorem lcL_run {vs : List Nat} {tg : D → Env → Option Env} {test : Md Bool} {elt : Md Opd} (I : Nat → List D → Env → Prop) : ∀ (ds : List D) (k : Nat) (acc : List D) (ρ : Env), I k acc ρ →
    (∀ i d acc ρ, ds[i]? = some d → I (k + i) acc ρ → ∃ ρ1 ρ2, tg d ρ = some ρ1 ∧
      ((test ρ1 = .ok false ρ2 ∧ vs.all (noOwn ρ2) = true ∧ I (k + i + 1) acc (wipeE ρ2 vs)) ∨
       (test ρ1 = .ok true ρ2 ∧ ∃ o ρ3 e, elt ρ2 = .ok o ρ3 ∧ im ρ3 o = some e ∧ acc.length < lim ∧ vs.all (noOwn ρ3) = true ∧ I (k + i + 1) (acc ++ [e]) (wipeE ρ3 vs)))) →
    ∃ acc' ρ', lcL vs tg test elt ds acc ρ = .ok acc' ρ' ∧ I (k + ds.length) acc' ρ'
  | [], k, acc, ρ, h, _ => ⟨acc, ρ, rfl, h⟩
  | d :: ds, k, acc, ρ, h, hs => by
    obtain ⟨ρ1, ρ2, e, q⟩ := hs 0 d acc ρ rfl h
    have next : ∀ acc ρ2, I (k + 0 + 1) acc ρ2 → ∃ acc' ρ', lcL vs tg test elt ds acc ρ2 = .ok acc' ρ' ∧ I (k + (d :: ds).length) acc' ρ' := fun acc ρ2 h2 => by
      have := lcL_run I ds (k + 1) acc ρ2 (by simpa using h2) fun i d' acc ρ hd hi => by
        have := hs (i + 1) d' acc ρ (by simpa using hd) (by rw [show k + (i + 1) = k + 1 + i by omega]; exact hi)
        rw [show k + (i + 1) = k + 1 + i by omega] at this
        exact this
      rw [show k + (d :: ds).length = k + 1 + ds.length by simp; omega]
      exact this
    unfold lcL
    rw [e]
    rcases q with ⟨q, nw, h2⟩ | ⟨q, o, ρ3, e', q2, q3, l, nw, h2⟩
    · simp only [q, nw, if_true]; exact next _ _ h2
    · simp only [q, q2, q3, l, nw, and_self, if_true]; exact next _ _ h2
/-- a comprehension that changes nothing -/
theorem lcL_pure {vs : List Nat} {tg : D → Env → Option Env} {test : Md Bool} {elt : Md Opd} (p : D → Bool) (f : D → D) (ρ : Env) (ds : List D) (hl : ds.length ≤ lim)
    (h : ∀ d ∈ ds, ∃ ρ1 ρ2, tg d ρ = some ρ1 ∧ test ρ1 = .ok (p d) ρ2 ∧ (p d = false → vs.all (noOwn ρ2) = true ∧ wipeE ρ2 vs = ρ) ∧ (p d = true → ∃ o ρ3, elt ρ2 = .ok o ρ3 ∧ im ρ3 o = some (f d) ∧ vs.all (noOwn ρ3) = true ∧ wipeE ρ3 vs = ρ)) :
    lcL vs tg test elt ds [] ρ = .ok ((ds.filter p).map f) ρ := by
  obtain ⟨acc', ρ', e, h1, h2⟩ := lcL_run (vs := vs) (tg := tg) (test := test) (elt := elt) (fun i acc ρ' => ρ' = ρ ∧ acc = ((ds.take i).filter p).map f) ds 0 [] ρ ⟨rfl, by simp⟩ (fun i d acc ρ' hd ⟨hi, ha⟩ => by
    subst hi
    rw [Nat.zero_add] at ha
    have hm : d ∈ ds := List.mem_of_getElem? hd
    obtain ⟨ρ1, ρ2, a, b, c1, c2⟩ := h d hm
    have tk : ds.take (i + 1) = ds.take i ++ [d] := by
      obtain ⟨hlt, e⟩ := List.getElem?_eq_some_iff.mp hd
      rw [List.take_succ_eq_append_getElem hlt, e]
    refine ⟨ρ1, ρ2, a, ?_⟩
    rw [Nat.zero_add, tk, List.filter_append, List.map_append, ← ha]
    cases hp : p d with
    | false =>
      obtain ⟨n, w⟩ := c1 hp
      exact .inl ⟨by rw [b, hp], n, w, by simp [hp]⟩
    | true =>
      obtain ⟨o, ρ3, x, y, n, w⟩ := c2 hp
      refine .inr ⟨by rw [b, hp], o, ρ3, f d, x, y, ?_, n, w, by simp [hp]⟩
      rw [ha, List.length_map]
      have h1 : ((ds.take i).filter p).length ≤ (ds.take i).length := List.length_filter_le _ _
      have h2 : (ds.take i).length ≤ i := List.length_take_le _ _
      have h3 : i < ds.length := (List.getElem?_eq_some_iff.mp hd).1
      omega)
  rw [e, h1, h2, Nat.zero_add, List.take_length]
/-- .. with no test -/
theorem lcL_map {vs : List Nat} {tg : D → Env → Option Env} {elt : Md Opd} (f : D → D) (ρ : Env) (ds : List D) (hl : ds.length ≤ lim)
    (h : ∀ d ∈ ds, ∃ ρ1, tg d ρ = some ρ1 ∧ ∃ o ρ3, elt ρ1 = .ok o ρ3 ∧ im ρ3 o = some (f d) ∧ vs.all (noOwn ρ3) = true ∧ wipeE ρ3 vs = ρ) :
    lcL vs tg (Md.ret true) elt ds [] ρ = .ok (ds.map f) ρ := by
  have := lcL_pure (vs := vs) (tg := tg) (test := Md.ret true) (elt := elt) (fun _ => true) f ρ ds hl (fun d m => by
    obtain ⟨ρ1, a, q⟩ := h d m
    exact ⟨ρ1, ρ1, a, rfl, fun (z : true = false) => (Bool.noConfusion z), fun _ => q⟩)
  rw [this]
  have e : ds.filter (fun _ => true) = ds := List.filter_eq_self.mpr fun _ _ => rfl
  rw [e]
theorem whileL_step {t : Md Bool} {body : Md Fw} {n : Nat} {ρ ρ1 ρ2 : Env} (h : t ρ = .ok true ρ1) (hb : body ρ1 = .ok .nx ρ2) : whileL t body (n + 1) ρ = whileL t body n ρ2 := by
  show (match t ρ with
    | .ok false ρ1 => (.ok .nx ρ1 : Rs Fw)
    | .ok true ρ1 => match body ρ1 with
      | .ok .nx ρ2 => whileL t body n ρ2
      | .ok .ct ρ2 => whileL t body n ρ2
      | .ok .br ρ2 => .ok .nx ρ2
      | .ok (.rt a) ρ2 => .ok (.rt a) ρ2
      | .raise e ρ2 => .raise e ρ2
      | .stuck => .stuck
    | .raise e ρ2 => .raise e ρ2
    | .stuck => .stuck) = _
  rw [h]
  show (match body ρ1 with
      | .ok .nx ρ2 => whileL t body n ρ2
      | .ok .ct ρ2 => whileL t body n ρ2
      | .ok .br ρ2 => .ok .nx ρ2
      | .ok (.rt a) ρ2 => .ok (.rt a) ρ2
      | .raise e ρ2 => .raise e ρ2
      | .stuck => .stuck) = _
  rw [hb]
theorem whileL_end {t : Md Bool} {body : Md Fw} {n : Nat} {ρ ρ1 : Env} (h : t ρ = .ok false ρ1) : whileL t body (n + 1) ρ = .ok .nx ρ1 := by
  simp [whileL, h]
/-- a loop with a measure -/
theorem whileL_run {t : Md Bool} {body : Md Fw} (I : Nat → Env → Prop) : ∀ (m n : Nat) (ρ : Env), I m ρ → m < n → (∀ m ρ, I m ρ → (∃ ρ1, t ρ = .ok false ρ1 ∧ I 0 ρ1) ∨ ∃ ρ1 ρ2 m', t ρ = .ok true ρ1 ∧ body ρ1 = .ok .nx ρ2 ∧ I m' ρ2 ∧ m' < m) →
    ∃ ρ1 ρ0 m', whileL t body n ρ = .ok .nx ρ1 ∧ I m' ρ0 ∧ t ρ0 = .ok false ρ1 ∧ I 0 ρ1 := by
  intro m
  induction m using Nat.strongRecOn with
  | ind m ih =>
    intro n ρ h hn hs
    cases n with
    | zero => omega
    | succ n =>
      rcases hs m ρ h with ⟨ρ1, e, h0⟩ | ⟨ρ1, ρ2, m', e, e2, h2, hlt⟩
      · exact ⟨ρ1, ρ, m, whileL_end e, h, e, h0⟩
      · rw [whileL_step e e2]
        exact ih m' hlt n ρ2 h2 (by omega) hs
/-! ### equal data -/
theorem eqv_int (i j : Int) : PyData.eqv (.int i) (.int j) = decide (i = j) := by
  show (i == j) = _
  by_cases h : i = j
  · simp [h]
  · simp [h]
theorem beq_strD (x y : Str) : (x == y) = decide (x = y) := by
  by_cases h : x = y
  · subst h; simp
  · rw [decide_eq_false h]
    exact beq_eq_false_iff_ne.mpr h
theorem eqv_str (x y : Str) : PyData.eqv (.str x) (.str y) = decide (x = y) := beq_strD x y
theorem eqv_list (x y : List D) : PyData.eqv (.list x) (.list y) = PyData.eqvAll x y := by rw [PyData.eqv]
theorem eqv_tup (x y : List D) : PyData.eqv (.tuple x) (.tuple y) = PyData.eqvAll x y := by rw [PyData.eqv]
theorem eqvAll_ints : ∀ xs ys : List Int, PyData.eqvAll (xs.map .int) (ys.map .int) = decide (xs = ys)
  | [], [] => rfl
  | [], _ :: _ => rfl
  | _ :: _, [] => rfl
  | x :: xs, y :: ys => by
    show (PyData.eqv (.int x) (.int y) && PyData.eqvAll (xs.map .int) (ys.map .int)) = _
    rw [eqv_int, eqvAll_ints xs ys]
    by_cases h : x = y <;> by_cases h2 : xs = ys <;> simp [h, h2]
theorem shaped_int (i : Int) : SeqAt.shaped (.int i) = true := rfl
theorem shaped_bool (i : Bool) : SeqAt.shaped (.bool i) = true := rfl
theorem shaped_none : SeqAt.shaped .none = true := rfl
theorem shaped_nil : SeqAt.shaped (.list []) = true := rfl
theorem lay_ints : ∀ xs : List Int, PyData.canLayAll0 (xs.map .int) = true
  | [] => rfl
  | x :: xs => by
    show (PyData.canLay0 (.int x) && PyData.canLayAll0 (xs.map .int)) = true
    rw [lay_ints xs]; rfl
theorem dep_ints : ∀ xs : List Int, PyData.depthAll (xs.map .int) = 0
  | [] => rfl
  | x :: xs => by
    show max (PyData.depth (.int x)) (PyData.depthAll (xs.map .int)) = 0
    rw [dep_ints xs]; rfl
theorem shaped_tupI (xs : List Int) : SeqAt.shaped (.tuple (xs.map .int)) = true := by
  show (PyData.canLayAll0 (xs.map .int) && decide (PyData.depthAll (xs.map .int) + 1 ≤ 64)) = true
  rw [lay_ints, dep_ints]; rfl
theorem shaped_lstI (xs : List Int) : SeqAt.shaped (.list (xs.map .int)) = true := by
  show (PyData.canLayAll0 (xs.map .int) && decide (PyData.depthAll (xs.map .int) + 1 ≤ 64)) = true
  rw [lay_ints, dep_ints]; rfl
theorem shaped_str {x : Str} (h : PyData.strOk x = true) : SeqAt.shaped (.str x) = true := by
  show (PyData.canLay0 (.str x) && decide (PyData.depth (.str x) ≤ 64)) = true
  rw [show PyData.canLay0 (.str x) = PyData.strOk x from rfl, h]; rfl
theorem intsD_map (xs : List Int) : intsD (xs.map .int) = some xs := by
  induction xs with
  | nil => rfl
  | cons x xs ih => simp [intsD, ih]
theorem boolsD_map (xs : List Bool) : boolsD (xs.map .bool) = some xs := by
  induction xs with
  | nil => rfl
  | cons x xs ih => simp [boolsD, ih]
/-! ### statement by statement -/
theorem runFn_rt {n : Nat} {body : Md Fw} {as : List A} {a : A} {ρ : Env} (h : body (startE n as) = .ok (.rt a) ρ) : runFn n body as = .ok a (keepO as.length ρ) := by
  unfold runFn; rw [h]
theorem runFn_nx {n : Nat} {body : Md Fw} {as : List A} {ρ : Env} (h : body (startE n as) = .ok .nx ρ) : runFn n body as = .ok (.imm .none) (keepO as.length ρ) := by
  unfold runFn; rw [h]
theorem sSeq_nx {f g : Md Fw} {ρ ρ1 : Env} (h : f ρ = .ok .nx ρ1) : sSeq f g ρ = g ρ1 := by
  unfold sSeq Md.bind; rw [h]
theorem sSeq_rt {f g : Md Fw} {ρ ρ1 : Env} {a : A} (h : f ρ = .ok (.rt a) ρ1) : sSeq f g ρ = .ok (.rt a) ρ1 := by
  unfold sSeq Md.bind; rw [h]; rfl
theorem sIf_t {t : Md Bool} {f g : Md Fw} {ρ ρ1 : Env} (h : t ρ = .ok true ρ1) : sIf t f g ρ = f ρ1 := by
  unfold sIf Md.bind; rw [h]; rfl
theorem sIf_f {t : Md Bool} {f g : Md Fw} {ρ ρ1 : Env} (h : t ρ = .ok false ρ1) : sIf t f g ρ = g ρ1 := by
  unfold sIf Md.bind; rw [h]; rfl
theorem sFor_eq {it : Md (List D)} {tg : D → Env → Option Env} {body : Md Fw} {ρ ρ1 : Env} {ds : List D} (h : it ρ = .ok ds ρ1) : sFor it tg body ρ = forL tg body ds ρ1 := by
  unfold sFor Md.bind; rw [h]
theorem mLc_eq {vs : List Nat} {it : Md (List D)} {tg : D → Env → Option Env} {test : Md Bool} {elt : Md Opd} {ρ ρ1 ρ2 : Env} {ds acc : List D} (h : it ρ = .ok ds ρ1) (hn : vs.all (noOwn ρ1) = true) (hl : lcL vs tg test elt ds [] (wipeE ρ1 vs) = .ok acc ρ2) :
    mLc vs it tg test elt ρ = .ok (.lst acc) (backE ρ1 vs ρ2) := by
  unfold mLc Md.bind; rw [h]; simp only [hn, if_true, hl]
theorem mDc_eq {vs : List Nat} {it : Md (List D)} {tg : D → Env → Option Env} {test : Md Bool} {fk fv : Md Opd} {ρ ρ1 ρ2 : Env} {ds : List D} {acc : List (Key × D)} (h : it ρ = .ok ds ρ1) (hn : vs.all (noOwn ρ1) = true) (hl : dcL vs tg test fk fv ds [] (wipeE ρ1 vs) = .ok acc ρ2) :
    mDc vs it tg test fk fv ρ = .ok (.dK acc) (backE ρ1 vs ρ2) := by
  unfold mDc Md.bind; rw [h]; simp only [hn, if_true, hl]
theorem gEq_int (i j : Int) : gEq (.int i) (.int j) = some (.bool (decide (i = j))) := by
  unfold gEq; rw [shaped_int, shaped_int, eqv_int]; rfl
theorem gNe_int (i j : Int) : gNe (.int i) (.int j) = some (.bool (!decide (i = j))) := by
  unfold gNe; rw [shaped_int, shaped_int, eqv_int]; rfl
theorem gEq_str {x y : Str} (h : PyData.strOk x = true) (h2 : PyData.strOk y = true) : gEq (.str x) (.str y) = some (.bool (decide (x = y))) := by
  unfold gEq; rw [shaped_str h, shaped_str h2, eqv_str]; rfl
theorem gNe_str {x y : Str} (h : PyData.strOk x = true) (h2 : PyData.strOk y = true) : gNe (.str x) (.str y) = some (.bool (!decide (x = y))) := by
  unfold gNe; rw [shaped_str h, shaped_str h2, eqv_str]; rfl
theorem gEq_tupI (x y : List Int) : gEq (.tuple (x.map .int)) (.tuple (y.map .int)) = some (.bool (decide (x = y))) := by
  unfold gEq; rw [shaped_tupI, shaped_tupI, eqv_tup, eqvAll_ints]; rfl
theorem gNe_tupI (x y : List Int) : gNe (.tuple (x.map .int)) (.tuple (y.map .int)) = some (.bool (!decide (x = y))) := by
  unfold gNe; rw [shaped_tupI, shaped_tupI, eqv_tup, eqvAll_ints]; rfl
theorem gEq_nil {x : List D} (h : SeqAt.shaped (.list x) = true) : gEq (.list x) (.list []) = some (.bool (decide (x = []))) := by
  unfold gEq; rw [h, shaped_nil, eqv_list]
  cases x <;> rfl
theorem gAll_map {α : Type} (f : α → Bool) (xs : List α) : gAll [.list (xs.map fun x => .bool (f x))] = some (.bool (xs.all f)) := by
  show (boolsD (xs.map fun x => .bool (f x))).map (fun ns => PyData.bool (ns.all id)) = _
  have : (xs.map fun x => PyData.bool (f x)) = (xs.map f).map .bool := by rw [List.map_map]; rfl
  rw [this, boolsD_map, Option.map_some, List.all_map]
  rfl
theorem gLe_int (i j : Int) : gLe (.int i) (.int j) = some (.bool (decide (i ≤ j))) := rfl
theorem gLt_int (i j : Int) : gLt (.int i) (.int j) = some (.bool (decide (i < j))) := rfl
theorem gGt_int (i j : Int) : gGt (.int i) (.int j) = some (.bool (decide (j < i))) := rfl
theorem gGe_int (i j : Int) : gGe (.int i) (.int j) = some (.bool (decide (j ≤ i))) := rfl
theorem gAdd_int (i j : Int) : gAdd (.int i) (.int j) = some (.int (i + j)) := rfl
theorem gAddI_int (i j : Int) : gAddI (.int i) (.int j) = some (.int (i + j)) := rfl
theorem gSub_int (i j : Int) : DV.gSub (.int i) (.int j) = some (.int (i - j)) := rfl
theorem gNeg_int (i : Int) : gNeg (.int i) = some (.int (-i)) := rfl
theorem gMul_int {i j : Int} (h : cMul i j = true) : gMul (.int i) (.int j) = some (.int (i * j)) := by
  show (if cMul i j = true then some (PyData.int (i * j)) else none) = _
  rw [if_pos h]
theorem gIx_tup (ds : List D) (i : Int) : gIx (.tuple ds) (.int i) = atI ds i := rfl
theorem gIx_lst (ds : List D) (i : Int) : gIx (.list ds) (.int i) = atI ds i := rfl
theorem gLen_tup (ds : List D) : gLen [.tuple ds] = some (.int ds.length) := rfl
theorem gLen_dict (ds : List (D × D)) : gLen [.dict ds] = some (.int ds.length) := rfl
theorem gLen_lst (ds : List D) : gLen [.list ds] = some (.int ds.length) := rfl
theorem gLen_str {z : Str} (h : z.length ≤ lim) : gLen [.str z] = some (.int z.length) := by
  show (if z.length ≤ lim then some (PyData.int z.length) else none) = _
  rw [if_pos h]
theorem gIsN_eq (a : D) : gIsN a .none = some (.bool (isNone a)) := by cases a <;> rfl
theorem gNotN_eq (a : D) : gNotN a .none = some (.bool (!isNone a)) := by cases a <;> rfl
theorem atI_at {ds : List D} {i : Nat} {d : D} (h : ds[i]? = some d) : atI ds (i : Nat) = some d := by
  have hl := (List.getElem?_eq_some_iff.mp h).1
  unfold atI
  rw [show ixN ds.length ((i : Nat) : Int) = some i from ?_]
  · exact h
  · unfold ixN
    simp [hl]
def lets (z : Str) : List Nat := z.cps.toList
theorem strOk_of {z : Str} (h : ∀ c ∈ lets z, c < 1114112) : PyData.strOk z = true := by
  unfold PyData.strOk
  rw [Array.all_eq_true_iff_forall_mem]
  intro c m
  exact decide_eq_true (h c (by unfold lets; exact Array.mem_toList_iff.mpr m))
theorem strOk_nil : PyData.strOk ("" : Str) = true := by decide +kernel
theorem ofLens {z : Str} : (lets z).length = z.length := rfl
theorem small62_int {i : Int} (h0 : 0 ≤ i) (h : i ≤ 1000000) : small62 i = true := by
  unfold small62
  have h2 : (1000000 : Int) < 2 ^ 62 := by decide
  have h3 : -(2 ^ 62) ≤ (0 : Int) := by decide
  rw [decide_eq_true (Int.le_trans h3 h0), decide_eq_true (Int.lt_of_le_of_lt h h2)]
  rfl
theorem small62_nat {n : Nat} (h : n ≤ 1000) : small62 ((n : Nat) : Int) = true := small62_int (Int.natCast_nonneg n) (by omega)
theorem range1_eq {fa : Md (List Opd)} {ρ ρ' : Env} {os : List Opd} {n : Int} (h : fa ρ = .ok os ρ') (h2 : rss ρ' os = some [.int n]) (hs : small62 n = true) : mRange1 fa ρ = .ok (rangeD 0 n) ρ' := by
  unfold mRange1 Md.bind
  rw [h]
  simp only [h2]
  rw [if_pos hs]
theorem range2_eq {fa : Md (List Opd)} {ρ ρ' : Env} {os : List Opd} {m n : Int} (h : fa ρ = .ok os ρ') (h2 : rss ρ' os = some [.int m, .int n]) (hs : small62 m = true) (hs2 : small62 n = true) : mRange2 fa ρ = .ok (rangeD m n) ρ' := by
  unfold mRange2 Md.bind
  rw [h]
  simp only [h2]
  rw [if_pos (by rw [hs, hs2]; rfl)]
theorem seq_nx {f g : Md Fw} {ρ : Env} (ρ1 : Env) {r : Rs Fw} (h : f ρ = .ok .nx ρ1) (h2 : g ρ1 = r) : sSeq f g ρ = r := (sSeq_nx h).trans h2
theorem run_rt {n : Nat} {body : Md Fw} {as : List A} (a : A) (ρ : Env) {r : Rs A} (h : body (startE n as) = .ok (.rt a) ρ) (hr : .ok a (keepO as.length ρ) = r) : runFn n body as = r := (runFn_rt h).trans hr
theorem run_nx {n : Nat} {body : Md Fw} {as : List A} (ρ : Env) {r : Rs A} (h : body (startE n as) = .ok .nx ρ) (hr : .ok (.imm .none) (keepO as.length ρ) = r) : runFn n body as = r := (runFn_nx h).trans hr
theorem keepO_len (np : Nat) (ρ : Env) : (keepO np ρ).length = ρ.length := by unfold keepO; rw [List.length_mapIdx]
/-- nothing was lent -/
theorem keepO_none {np : Nat} {ρ : Env} (h : ∀ (i : Nat) b o, i < np → ρ[i]? ≠ some (some (.own b o))) : keepO np ρ = List.replicate ρ.length none := by
  refine List.ext_getElem? fun i => ?_
  by_cases hi : i < ρ.length
  · rw [List.getElem?_replicate_of_lt hi]
    have hl : i < (keepO np ρ).length := by rw [keepO_len]; exact hi
    cases e : (keepO np ρ)[i]? with
    | none => rw [List.getElem?_eq_none_iff] at e; omega
    | some a =>
      cases a with
      | none => rfl
      | some a =>
        obtain ⟨h1, b, o, rfl⟩ := keepO_get e
        unfold keepO at e
        rw [List.getElem?_mapIdx, h1] at e
        have e : keepA np i (some (.own b o)) = some (.own b o) := Option.some.inj e
        unfold keepA at e
        split at e
        · rename_i hlt
          exact absurd h1 (h i b o hlt)
        · cases e
  · rw [List.getElem?_eq_none (by rw [keepO_len]; omega), List.getElem?_eq_none (by simp; omega)]
theorem keepO_1 {d : D} {r : Env} : keepO 1 (some (.imm d) :: r) = List.replicate (r.length + 1) none := by
  rw [keepO_none fun i b o h => by
    have : i = 0 := by omega
    subst this
    simp]
  rfl
theorem cons_eq {f : Md Opd} {g : Md (List Opd)} {ρ ρ1 ρ2 : Env} {o : Opd} {os : List Opd} (h : f ρ = .ok o ρ1) (h2 : g ρ1 = .ok os ρ2) : mCons f g ρ = .ok (o :: os) ρ2 := by
  simp only [mCons, Md.bind, h, h2, Md.ret]
theorem nil_eq {ρ : Env} : mNil ρ = .ok [] ρ := rfl
theorem drop_eq {f : Md Opd} {ρ ρ1 : Env} {o : Opd} (h : f ρ = .ok o ρ1) : sDrop f ρ = .ok .nx ρ1 := by
  unfold sDrop Md.bind
  rw [h]
  rfl
theorem opd_dat {d : D} {ρ : Env} : im ρ (.dat d) = some d := rfl
theorem perm_erase {α : Type} {l : List α} {i : Nat} {x : α} (h : l[i]? = some x) : (x :: l.eraseIdx i).Perm l := by
  obtain ⟨hl, e⟩ := List.getElem?_eq_some_iff.mp h
  have e1 : l = l.take i ++ x :: l.drop (i + 1) := by
    rw [← e, List.getElem_cons_drop, List.take_append_drop]
  rw [List.eraseIdx_eq_take_drop_succ]
  exact (List.perm_middle.symm).trans (by rw [← e1])
theorem map_erase {α β : Type} (f : α → β) (l : List α) (i : Nat) : (l.map f).eraseIdx i = (l.eraseIdx i).map f := by
  simp [List.eraseIdx_eq_take_drop_succ, List.map_take, List.map_drop]
theorem set_eq {i : Nat} {f : Md Opd} {ρ ρ' : Env} {o : Opd} {d : D} (h : f ρ = .ok o ρ') (hi : im ρ' o = some d) (hc : canSet ρ' i = true) : sSet i f ρ = .ok .nx (ρ'.set i (some (.imm d))) := by
  simp only [sSet, sTg, Md.bind, h, hi, tN, hc, Option.bind_some, if_true]
theorem setN_eq {i : Nat} {f : Md Own} {ρ ρ' : Env} {o : Own} (h : f ρ = .ok o ρ') (hc : canSet ρ' i = true) : sSetN i f ρ = .ok .nx (ρ'.set i (some (.own false o))) := by
  simp only [sSetN, Md.bind, h, hc, if_true]
theorem tg_eq {tg : D → Env → Option Env} {f : Md Opd} {ρ ρ' ρ2 : Env} {o : Opd} {d : D} (h : f ρ = .ok o ρ') (hi : im ρ' o = some d) (ht : tg d ρ' = some ρ2) : sTg tg f ρ = .ok .nx ρ2 := by
  simp only [sTg, Md.bind, h, hi, Option.bind_some, ht]
end DV

set_option Elab.async false
set_option linter.all false
set_option maxRecDepth 100000
set_option maxHeartbeats 4000000
set_option autoImplicit false
/-! MxB: the deck of draws. -/
namespace DV
open PySem L2
/-- a deck that was drawn from at most n times -/
def Dk (n : Int) (o : Own) : Prop := ∃ a b t : Int, o = .lst [.int a, .int b, .int t] ∧ 0 ≤ a ∧ 0 ≤ b ∧ b < 2147483579 ∧ 0 ≤ t ∧ t ≤ n
theorem Dk.mono {n m : Int} {o : Own} (h : Dk n o) (l : n ≤ m) : Dk m o := by
  obtain ⟨a, b, t, e, h1, h2, h3, h4, h5⟩ := h
  exact ⟨a, b, t, e, h1, h2, h3, h4, by omega⟩
theorem cPow_of {i j : Int} (h1 : 0 ≤ j) (h2 : j ≤ 1000) (h3 : 0 ≤ i) (h4 : i < 18446744073709551616) : cPow i j = true := by
  unfold cPow
  have : i.natAbs < 2 ^ 64 := by
    have : i.natAbs < 18446744073709551616 := by omega
    simpa using this
  simp only [h1, h2, this, decide_true, Bool.and_self]
theorem log2_small {s : Int} (h0 : 0 ≤ s) {k : Nat} (h : s < 2 ^ k) (hk : 0 < k) : s.natAbs.log2 < k := by
  by_cases z : s.natAbs = 0
  · rw [z, Nat.log2_zero]; exact hk
  · rw [Nat.log2_lt z]
    have : (s.natAbs : Int) = s := by omega
    have h2 : (s.natAbs : Int) < ((2 ^ k : Nat) : Int) := by rw [this]; push_cast; exact h
    exact_mod_cast h2
theorem cMul_small {i j : Int} (h1 : i.natAbs < 2 ^ 400000) (h2 : j.natAbs < 2 ^ 400000) : cMul i j = true := by
  unfold cMul
  have a : ∀ n : Nat, n < 2 ^ 400000 → n.log2 ≤ 400000 := fun n h => by
    by_cases z : n = 0
    · subst z; rw [Nat.log2_zero]; omega
    · exact Nat.le_of_lt ((Nat.log2_lt z).mpr h)
  exact decide_eq_true (by have := a _ h1; have := a _ h2; omega)
theorem e_deck (cell turn : Int) (ht : 0 ≤ turn) : ∃ o, Dk turn o ∧ m__law_deck [.imm (.int cell), .imm (.int turn)] = .ok (.own false o) [none, none] := by
  have m0 : 0 ≤ cell % 2147483579 := Int.emod_nonneg _ (by decide)
  have m1 : cell % 2147483579 < 2147483579 := Int.emod_lt_of_pos _ (by decide)
  have e18 : gPow (.int 10) (.int 18) = some (.int 1000000000000000000) := by
    show (if cPow 10 18 = true then some (PyData.int (10 ^ (18 : Int).toNat)) else none) = _
    rw [cPow_of (by decide) (by decide) (by decide) (by decide)]
    rfl
  by_cases h : (1000000000000000000 : Int) ≤ cell
  · refine ⟨.lst [.int (cell - 1000000000000000000), .int (cell % 2147483579), .int turn], ⟨_, _, _, rfl, by omega, m0, m1, ht, Int.le_refl _⟩, ?_⟩
    simp [m__law_deck, runFn, startE, keepO, keepA, sRet, sRetN, sRetA, sRetNone, sSeq, sIf, sNx, sDrop, sSet, sTg, tN, canSet, sSetN, Md.bind, Md.ret, Md.opt, mVar, mC, mT, m2, m1, mIf, mAndV, mOrV, mNotV, mAndT, mOrT, mNotT, mChain, mCons, mNil, mCall, mCallN, mImm, mOwn, mTup, mLst, mLstN, mItems, mFrz, rs, im, rss, ims, ownD, argOf, argsOf, slotOf, isSlot, cellsBack, backA, mCallA, List.filterMap_cons, List.filterMap_nil, List.findIdx?_cons, List.findIdx?_nil, gOrd, gGe, e18, h, gI, gIC, gMod, cMod, DV.gSub, lim]
  · refine ⟨.lst [.int 0, .int (cell % 2147483579), .int turn], ⟨_, _, _, rfl, Int.le_refl _, m0, m1, ht, Int.le_refl _⟩, ?_⟩
    simp [m__law_deck, runFn, startE, keepO, keepA, sRet, sRetN, sRetA, sRetNone, sSeq, sIf, sNx, sDrop, sSet, sTg, tN, canSet, sSetN, Md.bind, Md.ret, Md.opt, mVar, mC, mT, m2, m1, mIf, mAndV, mOrV, mNotV, mAndT, mOrT, mNotT, mChain, mCons, mNil, mCall, mCallN, mImm, mOwn, mTup, mLst, mLstN, mItems, mFrz, rs, im, rss, ims, ownD, argOf, argsOf, slotOf, isSlot, cellsBack, backA, mCallA, List.filterMap_cons, List.filterMap_nil, List.findIdx?_cons, List.findIdx?_nil, gOrd, gGe, e18, h, gI, gIC, gMod, cMod, DV.gSub, lim]
theorem e_pick {n : Int} {o : Own} {s : Int} (hd : Dk n o) (hn : n ≤ 100000000000) (hs : 0 < s) (hl : s < 2 ^ 200) : ∃ r o', 0 ≤ r ∧ r < s ∧ Dk (n + 1) o' ∧ m__law_pick [.own true o, .imm (.int s)] = .ok (.imm (.int r)) [some (.own true o'), none, none, none] := by
  obtain ⟨a, b, t, rfl, ha, hb, hb2, ht, htn⟩ := hd
  have hl2 : s.natAbs.log2 < 9000 := Nat.lt_trans (log2_small (by omega) hl (by decide)) (by decide)
  by_cases h : 1 < a
  · refine ⟨a % s, .lst [.int (a / s), .int b, .int t], Int.emod_nonneg _ (by omega), Int.emod_lt_of_pos _ hs, ⟨_, _, _, rfl, Int.ediv_nonneg ha (by omega), hb, hb2, ht, by omega⟩, ?_⟩
    simp [m__law_pick, runFn, startE, keepO, keepA, sRet, sRetN, sRetA, sRetNone, sSeq, sIf, sNx, sDrop, sSet, sTg, tN, canSet, sSetN, Md.bind, Md.ret, Md.opt, mVar, mC, mT, m2, m1, mIf, mAndV, mOrV, mNotV, mAndT, mOrT, mNotT, mChain, mCons, mNil, mCall, mCallN, mImm, mOwn, mTup, mLst, mLstN, mItems, mFrz, rs, im, rss, ims, ownD, argOf, argsOf, slotOf, isSlot, cellsBack, backA, mCallA, List.filterMap_cons, List.filterMap_nil, List.findIdx?_cons, List.findIdx?_nil, gIx, gGt, gOrd, atI, ixN, h, gMod, gDiv, gIC, cMod, cDiv, hs, hl2, sPut, putO]
  · have hu : 0 ≤ b + 15485867 * (t + 1) ∧ b + 15485867 * (t + 1) < 18446744073709551616 := by omega
    have p1 : cPow (b + 15485867 * (t + 1)) 5 = true := cPow_of (by decide) (by decide) hu.1 hu.2
    have q0 : 0 ≤ (b + 15485867 * (t + 1)) ^ 5 % 2147483647 := Int.emod_nonneg _ (by decide)
    have q1 : (b + 15485867 * (t + 1)) ^ 5 % 2147483647 < 2147483647 := Int.emod_lt_of_pos _ (by decide)
    generalize hg : (b + 15485867 * (t + 1)) ^ 5 % 2147483647 = g at q0 q1
    have p2 : cPow (g + 7919 * (t + 1)) 3 = true := cPow_of (by decide) (by decide) (by omega) (by omega)
    have c1 : cMul 15485867 (t + 1) = true := by
      unfold cMul
      have : (t + 1).natAbs.log2 < 64 := log2_small (by omega) (by omega) (by decide)
      have h2 : (15485867 : Int).natAbs.log2 = 23 := by decide
      exact decide_eq_true (by omega)
    have c2 : cMul 7919 (t + 1) = true := by
      unfold cMul
      have : (t + 1).natAbs.log2 < 64 := log2_small (by omega) (by omega) (by decide)
      have h2 : (7919 : Int).natAbs.log2 = 12 := by decide
      exact decide_eq_true (by omega)
    have d1 : Nat.log2 32 < 9000 := by decide
    refine ⟨(g + 7919 * (t + 1)) ^ 3 % 2147483629 / 32 % s, .lst [.int a, .int b, .int (t + 1)], Int.emod_nonneg _ (by omega), Int.emod_lt_of_pos _ hs, ⟨_, _, _, rfl, ha, hb, hb2, by omega, by omega⟩, ?_⟩
    simp [m__law_pick, runFn, startE, keepO, keepA, sRet, sRetN, sRetA, sRetNone, sSeq, sIf, sNx, sDrop, sSet, sTg, tN, canSet, sSetN, Md.bind, Md.ret, Md.opt, mVar, mC, mT, m2, m1, mIf, mAndV, mOrV, mNotV, mAndT, mOrT, mNotT, mChain, mCons, mNil, mCall, mCallN, mImm, mOwn, mTup, mLst, mLstN, mItems, mFrz, rs, im, rss, ims, ownD, argOf, argsOf, slotOf, isSlot, cellsBack, backA, mCallA, List.filterMap_cons, List.filterMap_nil, List.findIdx?_cons, List.findIdx?_nil, gIx, gGt, gOrd, atI, ixN, h, gMod, gDiv, gIC, cMod, cDiv, hs, hl2, sPut, putO, gAdd, gMul, gPow, p1, p2, c1, c2, hg, d1]
theorem atI_nat' {ds : List D} {r : Int} (h0 : 0 ≤ r) (h1 : r < ds.length) : atI ds r = ds[r.toNat]? := by
  unfold atI
  rw [show ixN ds.length r = some r.toNat from ?_]
  · rfl
  · unfold ixN
    simp [h0, h1]
theorem e_one {n : Int} {o : Own} {ds : List D} (hd : Dk n o) (hn : n ≤ 100000000000) (hs : ds ≠ []) (hl : ds.length ≤ 4000000) : ∃ (i : Nat) (d : D) (o' : Own), ds[i]? = some d ∧ Dk (n + 1) o' ∧
    m__law_one [.own true o, .imm (.list ds)] = .ok (.imm d) [some (.own true o'), none] := by
  have hp : 0 < ds.length := List.length_pos_iff.mpr hs
  have hlt : ((ds.length : Nat) : Int) < 2 ^ 200 := by omega
  obtain ⟨r, o', h0, h1, dk, e⟩ := e_pick hd hn (s := (ds.length : Nat)) (by omega) hlt
  have hr : r.toNat < ds.length := by omega
  refine ⟨r.toNat, ds[r.toNat], o', List.getElem?_eq_getElem hr, dk, ?_⟩
  have ea := atI_nat' h0 h1
  rw [List.getElem?_eq_getElem hr] at ea
  simp [m__law_one, runFn, startE, keepO, keepA, sRet, sRetN, sRetA, sRetNone, sSeq, sIf, sNx, sDrop, sSet, sTg, tN, canSet, sSetN, Md.bind, Md.ret, Md.opt, mVar, mC, mT, m2, m1, mIf, mAndV, mOrV, mNotV, mAndT, mOrT, mNotT, mChain, mCons, mNil, mCall, mCallN, mImm, mOwn, mTup, mLst, mLstN, mItems, mFrz, rs, im, rss, ims, ownD, argOf, argsOf, slotOf, isSlot, cellsBack, backA, mCallA, List.filterMap_cons, List.filterMap_nil, List.findIdx?_cons, List.findIdx?_nil, gLen, e, gIx, ea]
end DV

set_option Elab.async false
set_option linter.all false
set_option maxRecDepth 100000
set_option maxHeartbeats 4000000
set_option autoImplicit false
/-! MxC: names, rows, coins. -/
namespace DV
open PySem L2
mutual
/-- texts and rows of a bearable size, no dict -/
def goodD : D → Bool
  | .none => true
  | .bool _ => true
  | .int _ => true
  | .str z => PyData.strOk z && decide (z.length ≤ 1000)
  | .list ds => goodDs ds && decide (ds.length ≤ 1000)
  | .tuple ds => goodDs ds && decide (ds.length ≤ 1000)
  | .dict _ => false
def goodDs : List D → Bool
  | [] => true
  | d :: r => goodD d && goodDs r
end
theorem goodDs_iff {ds : List D} : goodDs ds = true ↔ ∀ d ∈ ds, goodD d = true := by
  induction ds with
  | nil => simp [goodDs]
  | cons d r ih => simp [goodDs, ih]
theorem good_str {z : Str} (h : goodD (.str z) = true) : PyData.strOk z = true ∧ z.length ≤ 1000 := by
  simpa [goodD] using h
theorem good_tup {ds : List D} (h : goodD (.tuple ds) = true) : (∀ d ∈ ds, goodD d = true) ∧ ds.length ≤ 1000 := by
  rw [goodD] at h
  simpa [goodDs_iff] using h
theorem good_lst {ds : List D} (h : goodD (.list ds) = true) : (∀ d ∈ ds, goodD d = true) ∧ ds.length ≤ 1000 := by
  rw [goodD] at h
  simpa [goodDs_iff] using h
def isFrom (d : D) (lo hi : Int) : Bool := match d with
  | .int i => decide (lo ≤ i) && decide (i ≤ hi)
  | _ => false
theorem e_is_from (d : D) (lo hi : Int) : m_is_from [.imm d, .imm (.int lo), .imm (.int hi)] = .ok (.imm (.bool (isFrom d lo hi))) [none, none, none] := by
  cases d with
  | int i =>
    by_cases h : lo ≤ i <;> simp [m_is_from, runFn, startE, keepO, keepA, sRet, sRetN, sRetA, sRetNone, sSeq, sIf, sNx, sDrop, sSet, sTg, tN, canSet, sSetN, Md.bind, Md.ret, Md.opt, mVar, mC, mT, m2, m1, mIf, mAndV, mOrV, mNotV, mAndT, mOrT, mNotT, mChain, mCons, mNil, mCall, mCallN, mImm, mOwn, mTup, mLst, mLstN, mItems, mFrz, rs, im, rss, ims, ownD, argOf, argsOf, slotOf, isSlot, cellsBack, backA, mCallA, List.filterMap_cons, List.filterMap_nil, List.findIdx?_cons, List.findIdx?_nil, mIsi, isA, gLe, gOrd, isFrom, h]
  | _ => simp [m_is_from, runFn, startE, keepO, keepA, sRet, sRetN, sRetA, sRetNone, sSeq, sIf, sNx, sDrop, sSet, sTg, tN, canSet, sSetN, Md.bind, Md.ret, Md.opt, mVar, mC, mT, m2, m1, mIf, mAndV, mOrV, mNotV, mAndT, mOrT, mNotT, mChain, mCons, mNil, mCall, mCallN, mImm, mOwn, mTup, mLst, mLstN, mItems, mFrz, rs, im, rss, ims, ownD, argOf, argsOf, slotOf, isSlot, cellsBack, backA, mCallA, List.filterMap_cons, List.filterMap_nil, List.findIdx?_cons, List.findIdx?_nil, mIsi, isA, isFrom]
def abc : List Nat := lets "abcdefghijklmnopqrstuvwxyz"
/-- what is_name asks -/
def nameB (z : Str) : Bool := decide (1 ≤ z.length) && decide (z.length ≤ 8) && (lets z).all fun c => decide (c ∈ abc)
def isNameB : D → Bool
  | .str z => nameB z
  | _ => false
theorem c_name {z : Str} (hz : z.length ≤ 1000) : c_is_name_1 [some (.imm (.str z)), none] = .ok (.lst ((lets z).map fun c => .bool (decide (c ∈ abc)))) [some (.imm (.str z)), none] := by
  have e := lcL_map (vs := [1]) (tg := tN 1) (elt := x_is_name_1) (fun d => match d with
    | .str x => match x.cps.toList with
      | [c] => .bool (decide (c ∈ abc))
      | _ => .none
    | _ => .none) [some (.imm (.str z)), none] (signs z) (by
      have : (signs z).length = z.length := by simp [signs, Str.length]
      rw [this]; exact Nat.le_trans hz (by decide)) (fun d m => by
      obtain ⟨c, mc, rfl⟩ := List.mem_map.mp m
      refine ⟨[some (.imm (.str z)), some (.imm (.str ⟨#[c]⟩))], by simp [tN, canSet], .dat (.bool (decide (c ∈ abc))), [some (.imm (.str z)), some (.imm (.str ⟨#[c]⟩))], ?_, rfl, rfl, rfl⟩
      simp [x_is_name_1, runFn, startE, keepO, keepA, sRet, sRetN, sRetA, sRetNone, sSeq, sIf, sNx, sDrop, sSet, sTg, tN, canSet, sSetN, Md.bind, Md.ret, Md.opt, mVar, mC, mT, m2, m1, mIf, mAndV, mOrV, mNotV, mAndT, mOrT, mNotT, mChain, mCons, mNil, mCall, mCallN, mImm, mOwn, mTup, mLst, mLstN, mItems, mFrz, rs, im, rss, ims, ownD, argOf, argsOf, slotOf, isSlot, cellsBack, backA, mCallA, List.filterMap_cons, List.filterMap_nil, List.findIdx?_cons, List.findIdx?_nil, gIn, inB, abc, lets])
  refine (mLc_eq (ds := signs z) (ρ1 := [some (.imm (.str z)), none]) (by simp [mStr, runFn, startE, keepO, keepA, sRet, sRetN, sRetA, sRetNone, sSeq, sIf, sNx, sDrop, sSet, sTg, tN, canSet, sSetN, Md.bind, Md.ret, Md.opt, mVar, mC, mT, m2, m1, mIf, mAndV, mOrV, mNotV, mAndT, mOrT, mNotT, mChain, mCons, mNil, mCall, mCallN, mImm, mOwn, mTup, mLst, mLstN, mItems, mFrz, rs, im, rss, ims, ownD, argOf, argsOf, slotOf, isSlot, cellsBack, backA, mCallA, List.filterMap_cons, List.filterMap_nil, List.findIdx?_cons, List.findIdx?_nil]) rfl e).trans ?_
  simp [signs, backE, lets]
theorem e_is_name {d : D} (h : goodD d = true) : m_is_name [.imm d] = .ok (.imm (.bool (isNameB d))) [none, none] := by
  cases d with
  | str z =>
    obtain ⟨h1, h2⟩ := good_str h
    have h3 : z.length ≤ lim := Nat.le_trans h2 (by decide)
    have a := gAll_map (fun c => decide (c ∈ abc)) (lets z)
    have c := c_name h2
    have gl := gLen_str h3
    by_cases q1 : 1 ≤ z.length
    · have q1' : (1 : Int) ≤ (z.length : Nat) := by omega
      by_cases q2 : z.length ≤ 8
      · have q2' : ((z.length : Nat) : Int) ≤ 8 := by omega
        simp [m_is_name, runFn, startE, keepO, keepA, sRet, sRetN, sRetA, sRetNone, sSeq, sIf, sNx, sDrop, sSet, sTg, tN, canSet, sSetN, Md.bind, Md.ret, Md.opt, mVar, mC, mT, m2, m1, mIf, mAndV, mOrV, mNotV, mAndT, mOrT, mNotT, mChain, mCons, mNil, mCall, mCallN, mImm, mOwn, mTup, mLst, mLstN, mItems, mFrz, rs, im, rss, ims, ownD, argOf, argsOf, slotOf, isSlot, cellsBack, backA, mCallA, List.filterMap_cons, List.filterMap_nil, List.findIdx?_cons, List.findIdx?_nil, mIsi, isA, gl, gLe_int, isNameB, nameB, c, a, q1, q2, q1', q2']
      · have q2' : ¬ ((z.length : Nat) : Int) ≤ 8 := by omega
        simp [m_is_name, runFn, startE, keepO, keepA, sRet, sRetN, sRetA, sRetNone, sSeq, sIf, sNx, sDrop, sSet, sTg, tN, canSet, sSetN, Md.bind, Md.ret, Md.opt, mVar, mC, mT, m2, m1, mIf, mAndV, mOrV, mNotV, mAndT, mOrT, mNotT, mChain, mCons, mNil, mCall, mCallN, mImm, mOwn, mTup, mLst, mLstN, mItems, mFrz, rs, im, rss, ims, ownD, argOf, argsOf, slotOf, isSlot, cellsBack, backA, mCallA, List.filterMap_cons, List.filterMap_nil, List.findIdx?_cons, List.findIdx?_nil, mIsi, isA, gl, gLe_int, isNameB, nameB, q1, q2, q1', q2']
    · have q1' : ¬ (1 : Int) ≤ (z.length : Nat) := by omega
      simp [m_is_name, runFn, startE, keepO, keepA, sRet, sRetN, sRetA, sRetNone, sSeq, sIf, sNx, sDrop, sSet, sTg, tN, canSet, sSetN, Md.bind, Md.ret, Md.opt, mVar, mC, mT, m2, m1, mIf, mAndV, mOrV, mNotV, mAndT, mOrT, mNotT, mChain, mCons, mNil, mCall, mCallN, mImm, mOwn, mTup, mLst, mLstN, mItems, mFrz, rs, im, rss, ims, ownD, argOf, argsOf, slotOf, isSlot, cellsBack, backA, mCallA, List.filterMap_cons, List.filterMap_nil, List.findIdx?_cons, List.findIdx?_nil, mIsi, isA, gl, gLe_int, isNameB, nameB, q1, q1']
  | _ => simp [m_is_name, runFn, startE, keepO, keepA, sRet, sRetN, sRetA, sRetNone, sSeq, sIf, sNx, sDrop, sSet, sTg, tN, canSet, sSetN, Md.bind, Md.ret, Md.opt, mVar, mC, mT, m2, m1, mIf, mAndV, mOrV, mNotV, mAndT, mOrT, mNotT, mChain, mCons, mNil, mCall, mCallN, mImm, mOwn, mTup, mLst, mLstN, mItems, mFrz, rs, im, rss, ims, ownD, argOf, argsOf, slotOf, isSlot, cellsBack, backA, mCallA, List.filterMap_cons, List.filterMap_nil, List.findIdx?_cons, List.findIdx?_nil, mIsi, isA, isNameB]
/-- what is_coin asks -/
def isCoinB : D → Bool
  | .tuple [a, b, .str z] => isNameB a && (if z = "" then isFrom b 0 0 else isFrom b 2 9)
  | _ => false
theorem isCoinB_len {ds : List D} (h : ds.length ≠ 3) : isCoinB (.tuple ds) = false := by
  match ds, h with
  | [], _ => rfl
  | [_], _ => rfl
  | [_, _], _ => rfl
  | [_, _, _], h => exact absurd rfl h
  | _ :: _ :: _ :: _ :: _, _ => simp [isCoinB]
theorem e_is_coin {d : D} (h : goodD d = true) : m_is_coin [.imm d] = .ok (.imm (.bool (isCoinB d))) [none] := by
  cases d with
  | tuple ds =>
    obtain ⟨hg, hl⟩ := good_tup h
    by_cases h3 : ds.length = 3
    · match ds, hg, h3 with
      | [a, b, c], hg, _ =>
        have ea := e_is_name (hg a (by simp))
        cases c with
        | str z =>
          have hz := (good_str (hg (.str z) (by simp))).1
          have eq : gEq (.str z) (.str "") = some (.bool (decide (z = ""))) := gEq_str hz strOk_nil
          cases hn : isNameB a with
          | false =>
            rw [hn] at ea
            simp [m_is_coin, runFn, startE, keepO, keepA, sRet, sRetN, sRetA, sRetNone, sSeq, sIf, sNx, sDrop, sSet, sTg, tN, canSet, sSetN, Md.bind, Md.ret, Md.opt, mVar, mC, mT, m2, m1, mIf, mAndV, mOrV, mNotV, mAndT, mOrT, mNotT, mChain, mCons, mNil, mCall, mCallN, mImm, mOwn, mTup, mLst, mLstN, mItems, mFrz, rs, im, rss, ims, ownD, argOf, argsOf, slotOf, isSlot, cellsBack, backA, mCallA, List.filterMap_cons, List.filterMap_nil, List.findIdx?_cons, List.findIdx?_nil, gEq_int, gNe_int, gLe_int, gLt_int, gGt_int, gGe_int, gAdd_int, gAddI_int, gSub_int, gNeg_int, gIx_tup, gIx_lst, gLen_tup, gLen_lst, gLen_dict, gIsN_eq, gNotN_eq, mIsi, isA, atI, ixN, isCoinB, ea, hn]
          | true =>
            rw [hn] at ea
            by_cases hz2 : z = ""
            · subst hz2
              simp [m_is_coin, runFn, startE, keepO, keepA, sRet, sRetN, sRetA, sRetNone, sSeq, sIf, sNx, sDrop, sSet, sTg, tN, canSet, sSetN, Md.bind, Md.ret, Md.opt, mVar, mC, mT, m2, m1, mIf, mAndV, mOrV, mNotV, mAndT, mOrT, mNotT, mChain, mCons, mNil, mCall, mCallN, mImm, mOwn, mTup, mLst, mLstN, mItems, mFrz, rs, im, rss, ims, ownD, argOf, argsOf, slotOf, isSlot, cellsBack, backA, mCallA, List.filterMap_cons, List.filterMap_nil, List.findIdx?_cons, List.findIdx?_nil, gEq_int, gNe_int, gLe_int, gLt_int, gGt_int, gGe_int, gAdd_int, gAddI_int, gSub_int, gNeg_int, gIx_tup, gIx_lst, gLen_tup, gLen_lst, gLen_dict, gIsN_eq, gNotN_eq, mIsi, isA, atI, ixN, isCoinB, ea, hn, eq, e_is_from]
            · simp [m_is_coin, runFn, startE, keepO, keepA, sRet, sRetN, sRetA, sRetNone, sSeq, sIf, sNx, sDrop, sSet, sTg, tN, canSet, sSetN, Md.bind, Md.ret, Md.opt, mVar, mC, mT, m2, m1, mIf, mAndV, mOrV, mNotV, mAndT, mOrT, mNotT, mChain, mCons, mNil, mCall, mCallN, mImm, mOwn, mTup, mLst, mLstN, mItems, mFrz, rs, im, rss, ims, ownD, argOf, argsOf, slotOf, isSlot, cellsBack, backA, mCallA, List.filterMap_cons, List.filterMap_nil, List.findIdx?_cons, List.findIdx?_nil, gEq_int, gNe_int, gLe_int, gLt_int, gGt_int, gGe_int, gAdd_int, gAddI_int, gSub_int, gNeg_int, gIx_tup, gIx_lst, gLen_tup, gLen_lst, gLen_dict, gIsN_eq, gNotN_eq, mIsi, isA, atI, ixN, isCoinB, ea, hn, eq, hz2, e_is_from]
        | _ =>
          cases hn : isNameB a <;> (rw [hn] at ea; simp [m_is_coin, runFn, startE, keepO, keepA, sRet, sRetN, sRetA, sRetNone, sSeq, sIf, sNx, sDrop, sSet, sTg, tN, canSet, sSetN, Md.bind, Md.ret, Md.opt, mVar, mC, mT, m2, m1, mIf, mAndV, mOrV, mNotV, mAndT, mOrT, mNotT, mChain, mCons, mNil, mCall, mCallN, mImm, mOwn, mTup, mLst, mLstN, mItems, mFrz, rs, im, rss, ims, ownD, argOf, argsOf, slotOf, isSlot, cellsBack, backA, mCallA, List.filterMap_cons, List.filterMap_nil, List.findIdx?_cons, List.findIdx?_nil, gEq_int, gNe_int, gLe_int, gLt_int, gGt_int, gGe_int, gAdd_int, gAddI_int, gSub_int, gNeg_int, gIx_tup, gIx_lst, gLen_tup, gLen_lst, gLen_dict, gIsN_eq, gNotN_eq, mIsi, isA, atI, ixN, isCoinB, ea])
    · have h3' : ¬ ((ds.length : Nat) : Int) = 3 := by omega
      simp [m_is_coin, runFn, startE, keepO, keepA, sRet, sRetN, sRetA, sRetNone, sSeq, sIf, sNx, sDrop, sSet, sTg, tN, canSet, sSetN, Md.bind, Md.ret, Md.opt, mVar, mC, mT, m2, m1, mIf, mAndV, mOrV, mNotV, mAndT, mOrT, mNotT, mChain, mCons, mNil, mCall, mCallN, mImm, mOwn, mTup, mLst, mLstN, mItems, mFrz, rs, im, rss, ims, ownD, argOf, argsOf, slotOf, isSlot, cellsBack, backA, mCallA, List.filterMap_cons, List.filterMap_nil, List.findIdx?_cons, List.findIdx?_nil, gEq_int, gNe_int, gLe_int, gLt_int, gGt_int, gGe_int, gAdd_int, gAddI_int, gSub_int, gNeg_int, gIx_tup, gIx_lst, gLen_tup, gLen_lst, gLen_dict, gIsN_eq, gNotN_eq, mIsi, isA, isCoinB_len h3, h3']
  | _ => simp [m_is_coin, runFn, startE, keepO, keepA, sRet, sRetN, sRetA, sRetNone, sSeq, sIf, sNx, sDrop, sSet, sTg, tN, canSet, sSetN, Md.bind, Md.ret, Md.opt, mVar, mC, mT, m2, m1, mIf, mAndV, mOrV, mNotV, mAndT, mOrT, mNotT, mChain, mCons, mNil, mCall, mCallN, mImm, mOwn, mTup, mLst, mLstN, mItems, mFrz, rs, im, rss, ims, ownD, argOf, argsOf, slotOf, isSlot, cellsBack, backA, mCallA, List.filterMap_cons, List.filterMap_nil, List.findIdx?_cons, List.findIdx?_nil, mIsi, isA, isCoinB]
/-- a row of coins -/
structure Rw where
  nm : Str
  mn : Int
  up : Str
def rwD (r : Rw) : D := .tuple [.str r.nm, .int r.mn, .str r.up]
def csD (cs : List Rw) : D := .tuple (cs.map rwD)
def rowB (r : Rw) : Bool := nameB r.nm && (if r.up = "" then decide (r.mn = 0) else decide (2 ≤ r.mn) && decide (r.mn ≤ 9))
theorem isCoin_row (r : Rw) : isCoinB (rwD r) = rowB r := by
  show (nameB r.nm && if r.up = "" then decide (0 ≤ r.mn) && decide (r.mn ≤ 0) else decide (2 ≤ r.mn) && decide (r.mn ≤ 9)) = _
  unfold rowB
  by_cases h : r.up = ""
  · rw [if_pos h, if_pos h]
    congr 1
    by_cases z : r.mn = 0
    · rw [z]; rfl
    · by_cases z2 : 0 ≤ r.mn <;> simp [z, z2] <;> omega
  · rw [if_neg h, if_neg h]
theorem row_of_coin {d : D} (h : isCoinB d = true) : ∃ r, d = rwD r ∧ rowB r = true := by
  match d, h with
  | .tuple [.str a, .int m, .str z], h => exact ⟨⟨a, m, z⟩, rfl, by rw [← isCoin_row]; exact h⟩
  | .tuple [.str a, .none, .str z], h => simp [isCoinB, isFrom] at h
  | .tuple [.str a, .bool _, .str z], h => simp [isCoinB, isFrom] at h
  | .tuple [.str a, .str _, .str z], h => simp [isCoinB, isFrom] at h
  | .tuple [.str a, .list _, .str z], h => simp [isCoinB, isFrom] at h
  | .tuple [.str a, .tuple _, .str z], h => simp [isCoinB, isFrom] at h
  | .tuple [.str a, .dict _, .str z], h => simp [isCoinB, isFrom] at h
  | .tuple [.none, b, .str z], h => simp [isCoinB, isNameB] at h
  | .tuple [.bool _, b, .str z], h => simp [isCoinB, isNameB] at h
  | .tuple [.int _, b, .str z], h => simp [isCoinB, isNameB] at h
  | .tuple [.list _, b, .str z], h => simp [isCoinB, isNameB] at h
  | .tuple [.tuple _, b, .str z], h => simp [isCoinB, isNameB] at h
  | .tuple [.dict _, b, .str z], h => simp [isCoinB, isNameB] at h
def lim8 : (8 : Nat) ≤ lim := by decide
theorem cut_all (ds : List D) : cutG ds none none = ds := by
  unfold cutG
  rw [HT.sIx_none, HT.sIx_none, List.drop_zero, Nat.sub_zero, List.take_length]
theorem cut_from (ds : List D) (k : Nat) : cutG ds (some (k : Nat)) none = ds.drop k := by
  unfold cutG
  rw [HT.sIx_nat, HT.sIx_none]
  by_cases h : k ≤ ds.length
  · rw [Nat.min_eq_left h]
    exact List.take_of_length_le (by rw [List.length_drop]; exact Nat.le_refl _)
  · rw [Nat.min_eq_right (by omega), List.drop_length, List.drop_eq_nil_of_le (by omega)]
    simp
theorem cut_to (ds : List D) (k : Nat) : cutG ds none (some (k : Nat)) = ds.take k := by
  unfold cutG
  rw [HT.sIx_nat, HT.sIx_none, List.drop_zero, Nat.sub_zero]
  by_cases h : k ≤ ds.length
  · rw [Nat.min_eq_left h]
  · rw [Nat.min_eq_right (by omega), List.take_length, List.take_of_length_le (by omega)]
def pairs2 (xs : List Str) : List (Str × Str) := xs.zip (xs.drop 1)
def risingB (xs : List Str) : Bool := (pairs2 xs).all fun p => decide (lets p.1 < lets p.2)
theorem gLt_str (a b : Str) : gLt (.str a) (.str b) = some (.bool (decide (lets a < lets b))) := rfl
def ltD : D → D
  | .tuple [.str a, .str b] => .bool (decide (lets a < lets b))
  | _ => .none
theorem it_rising (xs : List Str) : (mZip (mCons (mVar 0) (mCons (mSl (mVar 0) (mPart (mC (.int 1))) (Md.ret none)) mNil))) [some (.imm (.list (xs.map .str))), none, none] = .ok ((pairs2 xs).map fun p => .tuple [.str p.1, .str p.2]) [some (.imm (.list (xs.map .str))), none, none] := by
  have h : cutG (xs.map PyData.str) (some 1) none = (xs.map PyData.str).drop 1 := cut_from (xs.map PyData.str) 1
  have h2 : zipD (xs.map PyData.str) ((xs.map PyData.str).drop 1) = (pairs2 xs).map fun p => .tuple [.str p.1, .str p.2] := by
    unfold zipD pairs2
    rw [← List.map_drop, List.zip_map, List.map_map]
    rfl
  rw [← h] at h2
  rw [← h2]
  simp [mZip, mSl, mPart, gSl, runFn, startE, keepO, keepA, sRet, sRetN, sRetA, sRetNone, sSeq, sIf, sNx, sDrop, sSet, sTg, tN, canSet, sSetN, Md.bind, Md.ret, Md.opt, mVar, mC, mT, m2, m1, mIf, mAndV, mOrV, mNotV, mAndT, mOrT, mNotT, mChain, mCons, mNil, mCall, mCallN, mImm, mOwn, mTup, mLst, mLstN, mItems, mFrz, rs, im, rss, ims, ownD, argOf, argsOf, slotOf, isSlot, cellsBack, backA, mCallA, List.filterMap_cons, List.filterMap_nil, List.findIdx?_cons, List.findIdx?_nil]
theorem e_is_rising {xs : List Str} (hl : xs.length ≤ 1000) : m_is_rising [.imm (.list (xs.map .str))] = .ok (.imm (.bool (risingB xs))) [none, none, none] := by
  have e := lcL_map (vs := [1, 2]) (tg := tTupT 2 (tsCons (tN 1) (tsCons (tN 2) tsNil))) (elt := x_is_rising_1) ltD [some (.imm (.list (xs.map .str))), none, none] ((pairs2 xs).map fun p => .tuple [.str p.1, .str p.2]) (by
      unfold pairs2
      rw [List.length_map, List.length_zip]
      exact Nat.le_trans (Nat.min_le_left _ _) (Nat.le_trans hl (by decide))) (fun d m => by
      obtain ⟨⟨a, b⟩, _, rfl⟩ := List.mem_map.mp m
      refine ⟨[some (.imm (.list (xs.map .str))), some (.imm (.str a)), some (.imm (.str b))], by simp [tTupT, tsCons, tsNil, tN, canSet], .dat (.bool (decide (lets a < lets b))), [some (.imm (.list (xs.map .str))), some (.imm (.str a)), some (.imm (.str b))], ?_, rfl, rfl, rfl⟩
      simp [x_is_rising_1, runFn, startE, keepO, keepA, sRet, sRetN, sRetA, sRetNone, sSeq, sIf, sNx, sDrop, sSet, sTg, tN, canSet, sSetN, Md.bind, Md.ret, Md.opt, mVar, mC, mT, m2, m1, mIf, mAndV, mOrV, mNotV, mAndT, mOrT, mNotT, mChain, mCons, mNil, mCall, mCallN, mImm, mOwn, mTup, mLst, mLstN, mItems, mFrz, rs, im, rss, ims, ownD, argOf, argsOf, slotOf, isSlot, cellsBack, backA, mCallA, List.filterMap_cons, List.filterMap_nil, List.findIdx?_cons, List.findIdx?_nil, gLt_str])
  have c : c_is_rising_1 [some (.imm (.list (xs.map .str))), none, none] = .ok (.lst ((pairs2 xs).map fun p => .bool (decide (lets p.1 < lets p.2)))) [some (.imm (.list (xs.map .str))), none, none] := by
    refine (mLc_eq (it_rising xs) rfl e).trans ?_
    rw [List.map_map]
    rfl
  have a := gAll_map (fun p : Str × Str => decide (lets p.1 < lets p.2)) (pairs2 xs)
  simp [m_is_rising, runFn, startE, keepO, keepA, sRet, sRetN, sRetA, sRetNone, sSeq, sIf, sNx, sDrop, sSet, sTg, tN, canSet, sSetN, Md.bind, Md.ret, Md.opt, mVar, mC, mT, m2, m1, mIf, mAndV, mOrV, mNotV, mAndT, mOrT, mNotT, mChain, mCons, mNil, mCall, mCallN, mImm, mOwn, mTup, mLst, mLstN, mItems, mFrz, rs, im, rss, ims, ownD, argOf, argsOf, slotOf, isSlot, cellsBack, backA, mCallA, List.filterMap_cons, List.filterMap_nil, List.findIdx?_cons, List.findIdx?_nil, c, a, risingB]
/-! the kinds, from one to the next above -/
def rowAt (cs : List Rw) (s : Str) : Option Rw := cs.find? fun r => decide (r.nm = s)
def up1 (cs : List Rw) (s : Str) : Str := if s = "" then "" else match rowAt cs s with
  | some r => r.up
  | none => ""
def inN (cs : List Rw) (s : Str) : Bool := (rowAt cs s).isSome
/-- t steps up, as long as one comes to a kind that is there -/
def climb (cs : List Rw) : Nat → Str → Option Str
  | 0, s => some s
  | t + 1, s => if up1 cs s ≠ "" ∧ inN cs (up1 cs s) = false then none else climb cs t (up1 cs s)
def forestB (cs : List Rw) : Bool := cs.all fun r => match climb cs cs.length r.nm with
  | some s => decide (s = "")
  | none => false
def aboveD (cs : List Rw) : List (Key × D) := cs.map fun r => (.inr r.nm, .str r.up)
def aboveDD (cs : List Rw) : List (D × D) := cs.map fun r => (.str r.nm, .str r.up)
theorem look_above (cs : List Rw) (s : Str) : lookD (aboveDD cs) (.inr s) = (rowAt cs s).map fun r => .str r.up := by
  unfold lookD aboveDD rowAt
  rw [List.find?_map, Option.map_map]
  congr 1
  congr 1
  funext r
  show decide ((Sum.inr s : Key) = .inr r.nm) = decide (r.nm = s)
  by_cases h : r.nm = s
  · subst h; simp
  · rw [decide_eq_false h, decide_eq_false]
    exact fun e => h (Sum.inr.inj e).symm
def okTexts (cs : List Rw) : Prop := ∀ r ∈ cs, PyData.strOk r.nm = true ∧ PyData.strOk r.up = true
theorem up1_ok {cs : List Rw} (h : okTexts cs) (s : Str) : PyData.strOk (up1 cs s) = true := by
  unfold up1
  split
  · exact strOk_nil
  · split
    · rename_i r e
      exact (h r (List.mem_of_find?_eq_some e)).2
    · exact strOk_nil
theorem climb_in {cs : List Rw} (h : okTexts cs) {a0 a1 a3 a4 a5 : Option A} : ∀ (ds : List D) (s : Str) (a7 : Option D), PyData.strOk s = true →
    match climb cs ds.length s with
    | some u => ∃ x : Option D, forL (tN 7) b_are_coins_1 ds [a0, a1, some (.imm (.dict (aboveDD cs))), a3, a4, a5, some (.imm (.str s)), a7.map .imm] = .ok .nx [a0, a1, some (.imm (.dict (aboveDD cs))), a3, a4, a5, some (.imm (.str u)), x.map .imm]
    | none => ∃ r : Env, r.length = 7 ∧ forL (tN 7) b_are_coins_1 ds [a0, a1, some (.imm (.dict (aboveDD cs))), a3, a4, a5, some (.imm (.str s)), a7.map .imm] = .ok (.rt (.imm (.bool false))) (a0 :: r)
  | [], s, a7, _ => ⟨a7, rfl⟩
  | d :: ds, s, a7, hs => by
    have hu := up1_ok h s
    have ih := climb_in h (a0 := a0) (a1 := a1) (a3 := a3) (a4 := a4) (a5 := a5) ds (up1 cs s) (some d) hu
    have t1 : tN 7 d [a0, a1, some (.imm (.dict (aboveDD cs))), a3, a4, a5, some (.imm (.str s)), a7.map .imm] = some [a0, a1, some (.imm (.dict (aboveDD cs))), a3, a4, a5, some (.imm (.str s)), some (.imm d)] := by
      cases a7 <;> simp [tN, canSet]
    have n1 : gNe (.str s) (.str "") = some (.bool (!decide (s = ""))) := gNe_str hs strOk_nil
    have n2 : gNe (.str (up1 cs s)) (.str "") = some (.bool (!decide (up1 cs s = ""))) := gNe_str hu strOk_nil
    have n3 : gNotIn (.str (up1 cs s)) (.dict (aboveDD cs)) = some (.bool (!inN cs (up1 cs s))) := by
      simp [gNotIn, inB, keyOf, look_above, inN]
    have g1 : ∀ q : s ≠ "", gGet (.dict (aboveDD cs)) (.str s) (.str "") = some (.str (up1 cs s)) := fun q => by
      simp only [gGet, keyOf, look_above, up1, if_neg q]
      cases rowAt cs s <;> rfl
    have bd : b_are_coins_1 [a0, a1, some (.imm (.dict (aboveDD cs))), a3, a4, a5, some (.imm (.str s)), some (.imm d)] =
        if up1 cs s ≠ "" ∧ inN cs (up1 cs s) = false then .ok (.rt (.imm (.bool false))) [a0, a1, some (.imm (.dict (aboveDD cs))), a3, a4, a5, some (.imm (.str (up1 cs s))), some (.imm d)]
        else .ok .nx [a0, a1, some (.imm (.dict (aboveDD cs))), a3, a4, a5, some (.imm (.str (up1 cs s))), some (.imm d)] := by
      by_cases q : s = ""
      · have e0 : up1 cs s = "" := by unfold up1; rw [if_pos q]
        rw [e0] at n2 n3 ⊢
        subst q
        simp [b_are_coins_1, runFn, startE, keepO, keepA, sRet, sRetN, sRetA, sRetNone, sSeq, sIf, sNx, sDrop, sSet, sTg, tN, canSet, sSetN, Md.bind, Md.ret, Md.opt, mVar, mC, mT, m2, m1, mIf, mAndV, mOrV, mNotV, mAndT, mOrT, mNotT, mChain, mCons, mNil, mCall, mCallN, mImm, mOwn, mTup, mLst, mLstN, mItems, mFrz, rs, im, rss, ims, ownD, argOf, argsOf, slotOf, isSlot, cellsBack, backA, mCallA, List.filterMap_cons, List.filterMap_nil, List.findIdx?_cons, List.findIdx?_nil, n1]
      · by_cases q2 : up1 cs s = ""
        · have g1' := g1 q
          rw [q2] at n2 g1' ⊢
          simp [b_are_coins_1, runFn, startE, keepO, keepA, sRet, sRetN, sRetA, sRetNone, sSeq, sIf, sNx, sDrop, sSet, sTg, tN, canSet, sSetN, Md.bind, Md.ret, Md.opt, mVar, mC, mT, m2, m1, mIf, mAndV, mOrV, mNotV, mAndT, mOrT, mNotT, mChain, mCons, mNil, mCall, mCallN, mImm, mOwn, mTup, mLst, mLstN, mItems, mFrz, rs, im, rss, ims, ownD, argOf, argsOf, slotOf, isSlot, cellsBack, backA, mCallA, List.filterMap_cons, List.filterMap_nil, List.findIdx?_cons, List.findIdx?_nil, n1, n2, q, mGet, g1']
        · cases q3 : inN cs (up1 cs s) with
          | true =>
            rw [q3] at n3
            simp [b_are_coins_1, runFn, startE, keepO, keepA, sRet, sRetN, sRetA, sRetNone, sSeq, sIf, sNx, sDrop, sSet, sTg, tN, canSet, sSetN, Md.bind, Md.ret, Md.opt, mVar, mC, mT, m2, m1, mIf, mAndV, mOrV, mNotV, mAndT, mOrT, mNotT, mChain, mCons, mNil, mCall, mCallN, mImm, mOwn, mTup, mLst, mLstN, mItems, mFrz, rs, im, rss, ims, ownD, argOf, argsOf, slotOf, isSlot, cellsBack, backA, mCallA, List.filterMap_cons, List.filterMap_nil, List.findIdx?_cons, List.findIdx?_nil, n1, n2, n3, q, q2, mGet, g1 q]
          | false =>
            rw [q3] at n3
            simp [b_are_coins_1, runFn, startE, keepO, keepA, sRet, sRetN, sRetA, sRetNone, sSeq, sIf, sNx, sDrop, sSet, sTg, tN, canSet, sSetN, Md.bind, Md.ret, Md.opt, mVar, mC, mT, m2, m1, mIf, mAndV, mOrV, mNotV, mAndT, mOrT, mNotT, mChain, mCons, mNil, mCall, mCallN, mImm, mOwn, mTup, mLst, mLstN, mItems, mFrz, rs, im, rss, ims, ownD, argOf, argsOf, slotOf, isSlot, cellsBack, backA, mCallA, List.filterMap_cons, List.filterMap_nil, List.findIdx?_cons, List.findIdx?_nil, n1, n2, n3, q, q2, mGet, g1 q]
    show match climb cs (ds.length + 1) s with
      | some u => _
      | none => _
    by_cases q : up1 cs s ≠ "" ∧ inN cs (up1 cs s) = false
    · rw [show climb cs (ds.length + 1) s = none by unfold climb; rw [if_pos q]]
      rw [if_pos q] at bd
      refine ⟨[a1, some (.imm (.dict (aboveDD cs))), a3, a4, a5, some (.imm (.str (up1 cs s))), some (.imm d)], rfl, ?_⟩
      simp only [forL, t1, bd]
    · rw [show climb cs (ds.length + 1) s = climb cs ds.length (up1 cs s) by rw [climb, if_neg q]]
      rw [if_neg q] at bd
      cases e : climb cs ds.length (up1 cs s) with
      | some u =>
        rw [e] at ih
        obtain ⟨x, ih⟩ := ih
        exact ⟨x, by simp only [forL, t1, bd]; exact ih⟩
      | none =>
        rw [e] at ih
        obtain ⟨x, hx, ih⟩ := ih
        exact ⟨x, hx, by simp only [forL, t1, bd]; exact ih⟩
/-! names in order -/
theorem lets_inj {a b : Str} (h : lets a = lets b) : a = b := by
  obtain ⟨x⟩ := a
  obtain ⟨y⟩ := b
  have : x = y := Array.toList_inj.mp h
  rw [this]
theorem rising_cons (x y : Str) (r : List Str) : risingB (x :: y :: r) = (decide (lets x < lets y) && risingB (y :: r)) := rfl
theorem rising_pw : ∀ {xs : List Str}, risingB xs = true → xs.Pairwise fun a b => lets a < lets b
  | [], _ => .nil
  | [x], _ => List.pairwise_singleton _ _
  | x :: y :: r, h => by
    rw [rising_cons, Bool.and_eq_true, decide_eq_true_eq] at h
    have ih := rising_pw h.2
    refine List.pairwise_cons.mpr ⟨fun z m => ?_, ih⟩
    rcases List.mem_cons.mp m with rfl | m
    · exact h.1
    · exact List.lt_trans h.1 ((List.pairwise_cons.mp ih).1 z m)
theorem pw_rising : ∀ {xs : List Str}, (xs.Pairwise fun a b => lets a < lets b) → risingB xs = true
  | [], _ => rfl
  | [x], _ => rfl
  | x :: y :: r, h => by
    obtain ⟨h1, h2⟩ := List.pairwise_cons.mp h
    rw [rising_cons, Bool.and_eq_true, decide_eq_true_eq]
    exact ⟨h1 y (.head _), pw_rising h2⟩
theorem pw_nodup {xs : List Str} (h : xs.Pairwise fun a b => lets a < lets b) : xs.Nodup :=
  h.imp fun {a b} hlt e => by
    subst e
    exact List.lt_irrefl _ hlt
/-! the dict of what is above -/
theorem putG_new {acc : List (Key × D)} {k : Key} {d : D} (h : ∀ p ∈ acc, p.1 ≠ k) : putG acc k d = acc ++ [(k, d)] := by
  unfold putG
  rw [if_neg]
  intro q
  obtain ⟨p, m, e⟩ := List.any_eq_true.mp q
  exact h p m (of_decide_eq_true e)
theorem dc_above {a0 a1 a2 a6 a7 : Option A} : ∀ (cs : List Rw) (acc : List (Key × D)), acc.length + cs.length ≤ 1000 → (cs.map (·.nm)).Nodup → (∀ p ∈ acc, ∀ r ∈ cs, p.1 ≠ .inr r.nm) →
    dcL [3, 4, 5] (tTupT 3 (tsCons (tN 3) (tsCons (tN 4) (tsCons (tN 5) tsNil)))) (Md.ret true) (mVar 3) (mVar 5) (cs.map rwD) acc [a0, a1, a2, none, none, none, a6, a7] = .ok (acc ++ aboveD cs) [a0, a1, a2, none, none, none, a6, a7]
  | [], acc, _, _, _ => by
    show Rs.ok acc _ = _
    rw [show aboveD [] = [] from rfl, List.append_nil]
  | r :: cs, acc, hl, nd, hn => by
    rw [List.map_cons, List.nodup_cons] at nd
    have t : tTupT 3 (tsCons (tN 3) (tsCons (tN 4) (tsCons (tN 5) tsNil))) (rwD r) [a0, a1, a2, none, none, none, a6, a7] = some [a0, a1, a2, some (.imm (.str r.nm)), some (.imm (.int r.mn)), some (.imm (.str r.up)), a6, a7] := by
      simp [tTupT, rwD, tsCons, tsNil, tN, canSet]
    have hl2 : acc.length < lim := by
      rw [List.length_cons] at hl
      have : (1000 : Nat) < lim := by decide
      omega
    have p : putG acc (.inr r.nm) (.str r.up) = acc ++ [(.inr r.nm, .str r.up)] := putG_new fun p m => hn p m r (.head _)
    have ih := dc_above (a0 := a0) (a1 := a1) (a2 := a2) (a6 := a6) (a7 := a7) cs (acc ++ [(.inr r.nm, .str r.up)]) (by rw [List.length_append, List.length_singleton]; rw [List.length_cons] at hl; omega) nd.2 (fun p m r' m' => by
      rcases List.mem_append.mp m with m | m
      · exact hn p m r' (.tail _ m')
      · rw [List.mem_singleton.mp m]
        intro e
        exact nd.1 (by rw [Sum.inr.inj e]; exact List.mem_map.mpr ⟨r', m', rfl⟩))
    rw [List.map_cons]
    unfold dcL
    rw [t]
    simp [Md.ret, mVar, im, keyOf, noOwn, wipeE, hl2, p]
    rw [ih, List.append_assoc]
    rfl
theorem dk_above (cs : List Rw) : (aboveD cs).map (fun p => (keyD p.1, p.2)) = aboveDD cs := by
  unfold aboveD aboveDD
  rw [List.map_map]
  rfl
theorem keys_above (cs : List Rw) : keysD (aboveD cs) = cs.map fun r => .str r.nm := by
  unfold keysD aboveD
  rw [List.map_map]
  rfl
theorem climb_ok {cs : List Rw} (h : okTexts cs) : ∀ (t : Nat) (s u : Str), PyData.strOk s = true → climb cs t s = some u → PyData.strOk u = true := fun t => by
  induction t with
  | zero => intro s u a b; cases b; exact a
  | succ t ih =>
    intro s u a b
    unfold climb at b
    split at b
    · cases b
    · exact ih _ _ (up1_ok h s) b
def orFalse : Option Str → Bool
  | some s => decide (s = "")
  | none => false
end DV

set_option Elab.async false
set_option linter.all false
set_option maxRecDepth 100000
set_option maxHeartbeats 4000000
set_option autoImplicit false
namespace DV
open PySem L2
theorem loop2 {cs : List Rw} (h : okTexts cs) (hc : cs.length ≤ 1000) {a0 a1 a4 a5 : Option A} (ks : List Str) : ∀ (a3 a6 a7 : Option D), (∀ k ∈ ks, PyData.strOk k = true) →
    (∃ r : Env, r.length = 7 ∧ forL (tN 3) b_are_coins_2 (ks.map .str) [a0, a1, some (.imm (.dict (aboveDD cs))), a3.map .imm, a4, a5, a6.map .imm, a7.map .imm] =
      .ok (if (ks.all fun k => orFalse (climb cs cs.length k)) = true then .nx else .rt (.imm (.bool false))) (a0 :: r))
 := by
  induction ks with
  | nil => exact fun a3 a6 a7 _ => ⟨[a1, some (.imm (.dict (aboveDD cs))), a3.map .imm, a4, a5, a6.map .imm, a7.map .imm], rfl, rfl⟩
  | cons k ks ihk =>
    intro a3 a6 a7 hk
    have t1 : tN 3 (.str k) [a0, a1, some (.imm (.dict (aboveDD cs))), a3.map .imm, a4, a5, a6.map .imm, a7.map .imm] = some [a0, a1, some (.imm (.dict (aboveDD cs))), some (.imm (.str k)), a4, a5, a6.map .imm, a7.map .imm] := by
      cases a3 <;> simp [tN, canSet]
    have hr : (rangeD 0 cs.length).length = cs.length := by simp [rangeD]
    have ci := climb_in h (a0 := a0) (a1 := a1) (a3 := some (.imm (.str k))) (a4 := a4) (a5 := a5) (rangeD 0 cs.length) k a7 (hk k (.head _))
    rw [hr] at ci
    have hl : (aboveDD cs).length = cs.length := by simp [aboveDD]
    have s62 := small62_nat hc
    have lf : ∀ a6, l_are_coins_1 [a0, a1, some (.imm (.dict (aboveDD cs))), some (.imm (.str k)), a4, a5, some (.imm (.str k)), a6] = forL (tN 7) b_are_coins_1 (rangeD 0 cs.length) [a0, a1, some (.imm (.dict (aboveDD cs))), some (.imm (.str k)), a4, a5, some (.imm (.str k)), a6] := fun a6 => by
      refine sFor_eq (range1_eq (os := [.dat (.int cs.length)]) ?_ rfl s62)
      simp [runFn, startE, keepO, keepA, sRet, sRetN, sRetA, sRetNone, sSeq, sIf, sNx, sDrop, sSet, sTg, tN, canSet, sSetN, Md.bind, Md.ret, Md.opt, mVar, mC, mT, m2, m1, mIf, mAndV, mOrV, mNotV, mAndT, mOrT, mNotT, mChain, mCons, mNil, mCall, mCallN, mImm, mOwn, mTup, mLst, mLstN, mItems, mFrz, rs, im, rss, ims, ownD, argOf, argsOf, slotOf, isSlot, cellsBack, backA, mCallA, List.filterMap_cons, List.filterMap_nil, List.findIdx?_cons, List.findIdx?_nil, gLen_dict, hl]
    have st : sSet 6 (mVar 3) [a0, a1, some (.imm (.dict (aboveDD cs))), some (.imm (.str k)), a4, a5, a6.map .imm, a7.map .imm] = .ok .nx [a0, a1, some (.imm (.dict (aboveDD cs))), some (.imm (.str k)), a4, a5, some (.imm (.str k)), a7.map .imm] := by
      cases a6 <;> simp [runFn, startE, keepO, keepA, sRet, sRetN, sRetA, sRetNone, sSeq, sIf, sNx, sDrop, sSet, sTg, tN, canSet, sSetN, Md.bind, Md.ret, Md.opt, mVar, mC, mT, m2, m1, mIf, mAndV, mOrV, mNotV, mAndT, mOrT, mNotT, mChain, mCons, mNil, mCall, mCallN, mImm, mOwn, mTup, mLst, mLstN, mItems, mFrz, rs, im, rss, ims, ownD, argOf, argsOf, slotOf, isSlot, cellsBack, backA, mCallA, List.filterMap_cons, List.filterMap_nil, List.findIdx?_cons, List.findIdx?_nil]
    cases e : climb cs cs.length k with
    | none =>
      rw [e] at ci
      obtain ⟨ρ', hx, ci⟩ := ci
      have bd : b_are_coins_2 [a0, a1, some (.imm (.dict (aboveDD cs))), some (.imm (.str k)), a4, a5, a6.map .imm, a7.map .imm] = .ok (.rt (.imm (.bool false))) (a0 :: ρ') := by
        unfold b_are_coins_2
        rw [sSeq_nx st]
        exact sSeq_rt ((lf _).trans ci)
      refine ⟨ρ', hx, ?_⟩
      rw [List.map_cons, if_neg (by rw [List.all_cons, e]; simp [orFalse])]
      simp only [forL, t1, bd]
    | some u =>
      rw [e] at ci
      obtain ⟨x, ci⟩ := ci
      have hu : PyData.strOk u = true := climb_ok h _ _ _ (hk k (.head _)) e
      have n1 : gNe (.str u) (.str "") = some (.bool (!decide (u = ""))) := gNe_str hu strOk_nil
      by_cases q : u = ""
      · have bd : b_are_coins_2 [a0, a1, some (.imm (.dict (aboveDD cs))), some (.imm (.str k)), a4, a5, a6.map .imm, a7.map .imm] = .ok .nx [a0, a1, some (.imm (.dict (aboveDD cs))), some (.imm (.str k)), a4, a5, some (.imm (.str u)), x.map .imm] := by
          unfold b_are_coins_2
          rw [sSeq_nx st, sSeq_nx ((lf _).trans ci)]
          subst q
          simp [runFn, startE, keepO, keepA, sRet, sRetN, sRetA, sRetNone, sSeq, sIf, sNx, sDrop, sSet, sTg, tN, canSet, sSetN, Md.bind, Md.ret, Md.opt, mVar, mC, mT, m2, m1, mIf, mAndV, mOrV, mNotV, mAndT, mOrT, mNotT, mChain, mCons, mNil, mCall, mCallN, mImm, mOwn, mTup, mLst, mLstN, mItems, mFrz, rs, im, rss, ims, ownD, argOf, argsOf, slotOf, isSlot, cellsBack, backA, mCallA, List.filterMap_cons, List.filterMap_nil, List.findIdx?_cons, List.findIdx?_nil, n1]
        obtain ⟨ρ', hx, ih⟩ := ihk (some (.str k)) (some (.str u)) x fun k m => hk k (.tail _ m)
        refine ⟨ρ', hx, ?_⟩
        rw [List.map_cons, List.all_cons, e, show orFalse (some u) = true by simp [orFalse, q], Bool.true_and]
        simp only [forL, t1, bd]
        exact ih
      · have bd : b_are_coins_2 [a0, a1, some (.imm (.dict (aboveDD cs))), some (.imm (.str k)), a4, a5, a6.map .imm, a7.map .imm] = .ok (.rt (.imm (.bool false))) [a0, a1, some (.imm (.dict (aboveDD cs))), some (.imm (.str k)), a4, a5, some (.imm (.str u)), x.map .imm] := by
          unfold b_are_coins_2
          rw [sSeq_nx st, sSeq_nx ((lf _).trans ci)]
          simp [runFn, startE, keepO, keepA, sRet, sRetN, sRetA, sRetNone, sSeq, sIf, sNx, sDrop, sSet, sTg, tN, canSet, sSetN, Md.bind, Md.ret, Md.opt, mVar, mC, mT, m2, m1, mIf, mAndV, mOrV, mNotV, mAndT, mOrT, mNotT, mChain, mCons, mNil, mCall, mCallN, mImm, mOwn, mTup, mLst, mLstN, mItems, mFrz, rs, im, rss, ims, ownD, argOf, argsOf, slotOf, isSlot, cellsBack, backA, mCallA, List.filterMap_cons, List.filterMap_nil, List.findIdx?_cons, List.findIdx?_nil, n1, q]
        refine ⟨[a1, some (.imm (.dict (aboveDD cs))), some (.imm (.str k)), a4, a5, some (.imm (.str u)), x.map .imm], rfl, ?_⟩
        rw [List.map_cons, List.all_cons, e, show orFalse (some u) = false by simp [orFalse, q], Bool.false_and, if_neg Bool.false_ne_true]
        simp only [forL, t1, bd]
theorem good_rows {cs : List Rw} (h : goodD (csD cs) = true) : okTexts cs ∧ ∀ r ∈ cs, goodD (rwD r) = true := by
  have g := (good_tup h).1
  have g2 : ∀ r ∈ cs, goodD (rwD r) = true := fun r m => g _ (List.mem_map.mpr ⟨r, m, rfl⟩)
  refine ⟨fun r m => ?_, g2⟩
  have := (good_tup (g2 r m)).1
  exact ⟨(good_str (this (.str r.nm) (by simp))).1, (good_str (this (.str r.up) (by simp))).1⟩
/-- is_coin of each -/
theorem c_coins1 {ds : List D} (h : ∀ d ∈ ds, goodD d = true) (hl : ds.length ≤ 1000) {a : List (Option A)} (ha : a.length = 6) :
    c_are_coins_1 (some (.imm (.tuple ds)) :: none :: a) = .ok (.lst (ds.map fun d => .bool (isCoinB d))) (some (.imm (.tuple ds)) :: none :: a) := by
  have e := lcL_map (vs := [1]) (tg := tN 1) (elt := x_are_coins_1) (fun d => .bool (isCoinB d)) (some (.imm (.tuple ds)) :: none :: a) ds (Nat.le_trans hl (by decide)) (fun d m => by
    refine ⟨some (.imm (.tuple ds)) :: some (.imm d) :: a, by simp [tN, canSet], .dat (.bool (isCoinB d)), some (.imm (.tuple ds)) :: some (.imm d) :: a, ?_, rfl, rfl, rfl⟩
    have ec := e_is_coin (h d m)
    match a, ha with
    | [b1, b2, b3, b4, b5, b6], _ =>
      simp [x_are_coins_1, runFn, startE, keepO, keepA, sRet, sRetN, sRetA, sRetNone, sSeq, sIf, sNx, sDrop, sSet, sTg, tN, canSet, sSetN, Md.bind, Md.ret, Md.opt, mVar, mC, mT, m2, m1, mIf, mAndV, mOrV, mNotV, mAndT, mOrT, mNotT, mChain, mCons, mNil, mCall, mCallN, mImm, mOwn, mTup, mLst, mLstN, mItems, mFrz, rs, im, rss, ims, ownD, argOf, argsOf, slotOf, isSlot, cellsBack, backA, mCallA, List.filterMap_cons, List.filterMap_nil, List.findIdx?_cons, List.findIdx?_nil, ec])
  refine (mLc_eq (ds := ds) (ρ1 := some (.imm (.tuple ds)) :: none :: a) (by simp [mSeq, runFn, startE, keepO, keepA, sRet, sRetN, sRetA, sRetNone, sSeq, sIf, sNx, sDrop, sSet, sTg, tN, canSet, sSetN, Md.bind, Md.ret, Md.opt, mVar, mC, mT, m2, m1, mIf, mAndV, mOrV, mNotV, mAndT, mOrT, mNotT, mChain, mCons, mNil, mCall, mCallN, mImm, mOwn, mTup, mLst, mLstN, mItems, mFrz, rs, im, rss, ims, ownD, argOf, argsOf, slotOf, isSlot, cellsBack, backA, mCallA, List.filterMap_cons, List.filterMap_nil, List.findIdx?_cons, List.findIdx?_nil, items]) rfl e).trans ?_
  simp [backE]
theorem it_tup {ds : List D} {a : List (Option A)} : mSeq (mVar 0) (some (.imm (.tuple ds)) :: a) = .ok ds (some (.imm (.tuple ds)) :: a) := by simp [mSeq, runFn, startE, keepO, keepA, sRet, sRetN, sRetA, sRetNone, sSeq, sIf, sNx, sDrop, sSet, sTg, tN, canSet, sSetN, Md.bind, Md.ret, Md.opt, mVar, mC, mT, m2, m1, mIf, mAndV, mOrV, mNotV, mAndT, mOrT, mNotT, mChain, mCons, mNil, mCall, mCallN, mImm, mOwn, mTup, mLst, mLstN, mItems, mFrz, rs, im, rss, ims, ownD, argOf, argsOf, slotOf, isSlot, cellsBack, backA, mCallA, List.filterMap_cons, List.filterMap_nil, List.findIdx?_cons, List.findIdx?_nil, items]
/-- one[0] of each -/
theorem c_coins2 {cs : List Rw} (hl : cs.length ≤ 1000) {a : List (Option A)} (ha : a.length = 6) :
    c_are_coins_2 (some (.imm (csD cs)) :: none :: a) = .ok (.lst ((cs.map (·.nm)).map .str)) (some (.imm (csD cs)) :: none :: a) := by
  have e := lcL_map (vs := [1]) (tg := tN 1) (elt := x_are_coins_2) (fun d => match d with
    | .tuple (x :: _) => x
    | _ => .none) (some (.imm (csD cs)) :: none :: a) (cs.map rwD) (by rw [List.length_map]; exact Nat.le_trans hl (by decide)) (fun d m => by
    obtain ⟨r, _, rfl⟩ := List.mem_map.mp m
    refine ⟨some (.imm (csD cs)) :: some (.imm (rwD r)) :: a, by simp [tN, canSet], .dat (.str r.nm), some (.imm (csD cs)) :: some (.imm (rwD r)) :: a, ?_, rfl, rfl, rfl⟩
    match a, ha with
    | [b1, b2, b3, b4, b5, b6], _ =>
      simp [x_are_coins_2, runFn, startE, keepO, keepA, sRet, sRetN, sRetA, sRetNone, sSeq, sIf, sNx, sDrop, sSet, sTg, tN, canSet, sSetN, Md.bind, Md.ret, Md.opt, mVar, mC, mT, m2, m1, mIf, mAndV, mOrV, mNotV, mAndT, mOrT, mNotT, mChain, mCons, mNil, mCall, mCallN, mImm, mOwn, mTup, mLst, mLstN, mItems, mFrz, rs, im, rss, ims, ownD, argOf, argsOf, slotOf, isSlot, cellsBack, backA, mCallA, List.filterMap_cons, List.filterMap_nil, List.findIdx?_cons, List.findIdx?_nil, rwD, gIx_tup, atI, ixN])
  refine (mLc_eq (ds := cs.map rwD) it_tup rfl e).trans ?_
  rw [List.map_map, List.map_map]
  rfl
theorem c_coins3 {cs : List Rw} (hl : cs.length ≤ 1000) (nd : (cs.map (·.nm)).Nodup) :
    c_are_coins_3 [some (.imm (csD cs)), none, none, none, none, none, none, none] = .ok (.dK (aboveD cs)) [some (.imm (csD cs)), none, none, none, none, none, none, none] := by
  have e := dc_above (a0 := some (.imm (csD cs))) (a1 := none) (a2 := none) (a6 := none) (a7 := none) cs [] (by simpa using hl) nd (fun p m => by cases m)
  exact (mDc_eq (ds := cs.map rwD) it_tup rfl e).trans rfl
def coinsB (cs : List Rw) : Bool := decide (1 ≤ cs.length) && decide (cs.length ≤ 8) && cs.all rowB && risingB (cs.map (·.nm)) && forestB cs
theorem gAll_coins (ds : List D) : gAll [.list (ds.map fun d => .bool (isCoinB d))] = some (.bool (ds.all isCoinB)) := gAll_map isCoinB ds
theorem forestB_eq (cs : List Rw) : ((cs.map (·.nm)).all fun k => orFalse (climb cs cs.length k)) = forestB cs := by
  unfold forestB
  rw [List.all_map]
  rfl
theorem gLen_cs (cs : List Rw) : gLen [csD cs] = some (.int cs.length) := by
  unfold csD; rw [gLen_tup, List.length_map]
theorem isA_cs (cs : List Rw) : isA "tuple" (csD cs) = true := rfl
/-- the coins that have rows -/
theorem e_are_coins {cs : List Rw} (hg : goodD (csD cs) = true) : m_are_coins [.imm (csD cs)] = .ok (.imm (.bool (coinsB cs))) [none, none, none, none, none, none, none, none] := by
  obtain ⟨ht, hr⟩ := good_rows hg
  have hlen := (good_tup hg).2
  rw [List.length_map] at hlen
  have hall : (cs.map rwD).all isCoinB = cs.all rowB := by
    rw [List.all_map]
    congr 1
    funext r
    exact isCoin_row r
  have c1 : c_are_coins_1 [some (.imm (csD cs)), none, none, none, none, none, none, none] = .ok (.lst ((cs.map rwD).map fun d => .bool (isCoinB d))) [some (.imm (csD cs)), none, none, none, none, none, none, none] :=
    c_coins1 (ds := cs.map rwD) (good_tup hg).1 (by rw [List.length_map]; exact hlen) (a := [none, none, none, none, none, none]) rfl
  have c2 := c_coins2 (cs := cs) hlen (a := [none, none, none, none, none, none]) rfl
  have al := gAll_coins (cs.map rwD)
  rw [hall] at al
  generalize (cs.map rwD).map (fun d => PyData.bool (isCoinB d)) = bs at c1 al
  have er := e_is_rising (xs := cs.map (·.nm)) (by rw [List.length_map]; exact hlen)
  generalize (cs.map (·.nm)).map PyData.str = ns at c2 er
  show runFn 8 _ [.imm (csD cs)] = _
  unfold coinsB
  by_cases q1 : 1 ≤ cs.length
  case neg =>
    have q1' : ¬ (1 : Int) ≤ (cs.length : Nat) := by omega
    refine (runFn_rt (sSeq_rt (a := .imm (.bool false)) (ρ1 := [some (.imm (csD cs)), none, none, none, none, none, none, none]) ?_)).trans ?_
    · simp [runFn, startE, keepO, keepA, sRet, sRetN, sRetA, sRetNone, sSeq, sIf, sNx, sDrop, sSet, sTg, tN, canSet, sSetN, Md.bind, Md.ret, Md.opt, mVar, mC, mT, m2, m1, mIf, mAndV, mOrV, mNotV, mAndT, mOrT, mNotT, mChain, mCons, mNil, mCall, mCallN, mImm, mOwn, mTup, mLst, mLstN, mItems, mFrz, rs, im, rss, ims, ownD, argOf, argsOf, slotOf, isSlot, cellsBack, backA, mCallA, List.filterMap_cons, List.filterMap_nil, List.findIdx?_cons, List.findIdx?_nil, gEq_int, gNe_int, gLe_int, gLt_int, gGt_int, gGe_int, gAdd_int, gAddI_int, gSub_int, gNeg_int, gIx_tup, gIx_lst, gLen_tup, gLen_lst, gLen_dict, gIsN_eq, gNotN_eq, gLen_cs, isA_cs, mIsi, q1']
    · rw [decide_eq_false q1]; rfl
  have q1' : (1 : Int) ≤ (cs.length : Nat) := by omega
  by_cases q2 : cs.length ≤ 8
  case neg =>
    have q2' : ¬ ((cs.length : Nat) : Int) ≤ 8 := by omega
    refine (runFn_rt (sSeq_rt (a := .imm (.bool false)) (ρ1 := [some (.imm (csD cs)), none, none, none, none, none, none, none]) ?_)).trans ?_
    · simp [runFn, startE, keepO, keepA, sRet, sRetN, sRetA, sRetNone, sSeq, sIf, sNx, sDrop, sSet, sTg, tN, canSet, sSetN, Md.bind, Md.ret, Md.opt, mVar, mC, mT, m2, m1, mIf, mAndV, mOrV, mNotV, mAndT, mOrT, mNotT, mChain, mCons, mNil, mCall, mCallN, mImm, mOwn, mTup, mLst, mLstN, mItems, mFrz, rs, im, rss, ims, ownD, argOf, argsOf, slotOf, isSlot, cellsBack, backA, mCallA, List.filterMap_cons, List.filterMap_nil, List.findIdx?_cons, List.findIdx?_nil, gEq_int, gNe_int, gLe_int, gLt_int, gGt_int, gGe_int, gAdd_int, gAddI_int, gSub_int, gNeg_int, gIx_tup, gIx_lst, gLen_tup, gLen_lst, gLen_dict, gIsN_eq, gNotN_eq, gLen_cs, isA_cs, mIsi, q1', q2']
    · rw [decide_eq_false q2, Bool.and_false]; rfl
  have q2' : ((cs.length : Nat) : Int) ≤ 8 := by omega
  rw [decide_eq_true q1, decide_eq_true q2, Bool.true_and]
  cases q3 : cs.all rowB with
  | false =>
    rw [q3] at al
    refine (runFn_rt (sSeq_rt (a := .imm (.bool false)) (ρ1 := [some (.imm (csD cs)), none, none, none, none, none, none, none]) ?_)).trans ?_
    · simp [runFn, startE, keepO, keepA, sRet, sRetN, sRetA, sRetNone, sSeq, sIf, sNx, sDrop, sSet, sTg, tN, canSet, sSetN, Md.bind, Md.ret, Md.opt, mVar, mC, mT, m2, m1, mIf, mAndV, mOrV, mNotV, mAndT, mOrT, mNotT, mChain, mCons, mNil, mCall, mCallN, mImm, mOwn, mTup, mLst, mLstN, mItems, mFrz, rs, im, rss, ims, ownD, argOf, argsOf, slotOf, isSlot, cellsBack, backA, mCallA, List.filterMap_cons, List.filterMap_nil, List.findIdx?_cons, List.findIdx?_nil, gEq_int, gNe_int, gLe_int, gLt_int, gGt_int, gGe_int, gAdd_int, gAddI_int, gSub_int, gNeg_int, gIx_tup, gIx_lst, gLen_tup, gLen_lst, gLen_dict, gIsN_eq, gNotN_eq, gLen_cs, isA_cs, mIsi, q1', q2', c1, al]
    · rfl
  | true =>
    rw [q3] at al
    have st1 : ∀ f : Md Fw, sIf (mOrT (mNotT (mT (mIsi ["tuple"] (mVar 0)))) (mOrT (mNotT (mT (mChain gLe gLe (mC (.int 1)) (mCall gLen (mCons (mVar 0) mNil)) (mC (.int 8))))) (mNotT (mT (mCall gAll (mCons (mFrz c_are_coins_1) mNil)))))) f sNx
        [some (.imm (csD cs)), none, none, none, none, none, none, none] = .ok .nx [some (.imm (csD cs)), none, none, none, none, none, none, none] := fun f => by
      simp [runFn, startE, keepO, keepA, sRet, sRetN, sRetA, sRetNone, sSeq, sIf, sNx, sDrop, sSet, sTg, tN, canSet, sSetN, Md.bind, Md.ret, Md.opt, mVar, mC, mT, m2, m1, mIf, mAndV, mOrV, mNotV, mAndT, mOrT, mNotT, mChain, mCons, mNil, mCall, mCallN, mImm, mOwn, mTup, mLst, mLstN, mItems, mFrz, rs, im, rss, ims, ownD, argOf, argsOf, slotOf, isSlot, cellsBack, backA, mCallA, List.filterMap_cons, List.filterMap_nil, List.findIdx?_cons, List.findIdx?_nil, gEq_int, gNe_int, gLe_int, gLt_int, gGt_int, gGe_int, gAdd_int, gAddI_int, gSub_int, gNeg_int, gIx_tup, gIx_lst, gLen_tup, gLen_lst, gLen_dict, gIsN_eq, gNotN_eq, gLen_cs, isA_cs, mIsi, q1', q2', c1, al]
    cases q4 : risingB (cs.map (·.nm)) with
    | false =>
      rw [q4] at er
      refine run_rt (.imm (.bool false)) [some (.imm (csD cs)), none, none, none, none, none, none, none] (seq_nx _ (st1 _) (sSeq_rt ?_)) rfl
      simp [runFn, startE, keepO, keepA, sRet, sRetN, sRetA, sRetNone, sSeq, sIf, sNx, sDrop, sSet, sTg, tN, canSet, sSetN, Md.bind, Md.ret, Md.opt, mVar, mC, mT, m2, m1, mIf, mAndV, mOrV, mNotV, mAndT, mOrT, mNotT, mChain, mCons, mNil, mCall, mCallN, mImm, mOwn, mTup, mLst, mLstN, mItems, mFrz, rs, im, rss, ims, ownD, argOf, argsOf, slotOf, isSlot, cellsBack, backA, mCallA, List.filterMap_cons, List.filterMap_nil, List.findIdx?_cons, List.findIdx?_nil, c2, er]
    | true =>
      rw [q4] at er
      have c3 := c_coins3 (cs := cs) hlen (pw_nodup (rising_pw q4))
      obtain ⟨r, hr7, l2⟩ := loop2 ht hlen (a0 := some (.imm (csD cs))) (a1 := none) (a4 := none) (a5 := none) (cs.map (·.nm)) none none none (fun k m => by
        obtain ⟨r', m', rfl⟩ := List.mem_map.mp m
        exact (ht r' m').1)
      rw [forestB_eq] at l2
      have l2' : l_are_coins_2 [some (.imm (csD cs)), none, some (.own false (.dK (aboveD cs))), none, none, none, none, none] = .ok (if forestB cs = true then .nx else .rt (.imm (.bool false))) (some (.imm (csD cs)) :: r) := by
        refine Eq.trans ?_ l2
        rw [List.map_map, ← dk_above]
        show forL (tN 3) b_are_coins_2 (keysD (aboveD cs)) _ = _
        rw [keys_above]
        rfl
      have st2 : sIf (mNotT (mT (mImm (mCallA 1 m_is_rising (mCons (mFrz c_are_coins_2) mNil))))) (sRet (mC (.bool false))) sNx [some (.imm (csD cs)), none, none, none, none, none, none, none] = .ok .nx [some (.imm (csD cs)), none, none, none, none, none, none, none] := by
        simp [runFn, startE, keepO, keepA, sRet, sRetN, sRetA, sRetNone, sSeq, sIf, sNx, sDrop, sSet, sTg, tN, canSet, sSetN, Md.bind, Md.ret, Md.opt, mVar, mC, mT, m2, m1, mIf, mAndV, mOrV, mNotV, mAndT, mOrT, mNotT, mChain, mCons, mNil, mCall, mCallN, mImm, mOwn, mTup, mLst, mLstN, mItems, mFrz, rs, im, rss, ims, ownD, argOf, argsOf, slotOf, isSlot, cellsBack, backA, mCallA, List.filterMap_cons, List.filterMap_nil, List.findIdx?_cons, List.findIdx?_nil, c2, er]
      have st3 : sSetN 2 c_are_coins_3 [some (.imm (csD cs)), none, none, none, none, none, none, none] = .ok .nx [some (.imm (csD cs)), none, some (.own false (.dK (aboveD cs))), none, none, none, none, none] := by
        simp [runFn, startE, keepO, keepA, sRet, sRetN, sRetA, sRetNone, sSeq, sIf, sNx, sDrop, sSet, sTg, tN, canSet, sSetN, Md.bind, Md.ret, Md.opt, mVar, mC, mT, m2, m1, mIf, mAndV, mOrV, mNotV, mAndT, mOrT, mNotT, mChain, mCons, mNil, mCall, mCallN, mImm, mOwn, mTup, mLst, mLstN, mItems, mFrz, rs, im, rss, ims, ownD, argOf, argsOf, slotOf, isSlot, cellsBack, backA, mCallA, List.filterMap_cons, List.filterMap_nil, List.findIdx?_cons, List.findIdx?_nil, c3]
      have ke : keepO 1 (some (.imm (csD cs)) :: r) = [none, none, none, none, none, none, none, none] := by
        rw [keepO_1, hr7]; rfl
      rw [Bool.true_and, Bool.true_and]
      cases q5 : forestB cs with
      | false =>
        rw [q5, if_neg Bool.false_ne_true] at l2'
        refine run_rt (.imm (.bool false)) _ (seq_nx _ (st1 _) (seq_nx _ st2 (seq_nx _ st3 (sSeq_rt l2')))) ?_
        show Rs.ok _ (keepO 1 (some (.imm (csD cs)) :: r)) = _
        rw [ke]
        rfl
      | true =>
        rw [q5, if_pos rfl] at l2'
        refine run_rt (.imm (.bool true)) _ (seq_nx _ (st1 _) (seq_nx _ st2 (seq_nx _ st3 (seq_nx _ l2' (by simp [runFn, startE, keepO, keepA, sRet, sRetN, sRetA, sRetNone, sSeq, sIf, sNx, sDrop, sSet, sTg, tN, canSet, sSetN, Md.bind, Md.ret, Md.opt, mVar, mC, mT, m2, m1, mIf, mAndV, mOrV, mNotV, mAndT, mOrT, mNotT, mChain, mCons, mNil, mCall, mCallN, mImm, mOwn, mTup, mLst, mLstN, mItems, mFrz, rs, im, rss, ims, ownD, argOf, argsOf, slotOf, isSlot, cellsBack, backA, mCallA, List.filterMap_cons, List.filterMap_nil, List.findIdx?_cons, List.findIdx?_nil]; rfl))))) ?_
        show Rs.ok _ (keepO 1 (some (.imm (csD cs)) :: r)) = _
        rw [ke]
        rfl
end DV

set_option Elab.async false
set_option linter.all false
set_option maxRecDepth 100000
set_option maxHeartbeats 4000000
set_option autoImplicit false
/-! MxD: drawn coins. -/
namespace DV
open PySem L2
/-- coins as the program wants them -/
structure Coins (cs : List Rw) : Prop where
  good : goodD (csD cs) = true
  ok : coinsB cs = true
def rowLe (a b : Rw) : Bool := !decide (lets b.nm < lets a.nm)
theorem rowLe_trans (a b c : Rw) (h1 : rowLe a b = true) (h2 : rowLe b c = true) : rowLe a c = true := by
  unfold rowLe at *
  simp only [Bool.not_eq_true', decide_eq_false_iff_not] at *
  exact List.le_trans (l₁ := lets a.nm) (l₂ := lets b.nm) (l₃ := lets c.nm) h1 h2
theorem rowLe_total (a b : Rw) : (rowLe a b || rowLe b a) = true := by
  unfold rowLe
  simp only [Bool.or_eq_true, Bool.not_eq_true', decide_eq_false_iff_not]
  exact List.le_total (lets a.nm) (lets b.nm)
def sortRows (rs : List Rw) : List Rw := rs.mergeSort rowLe
theorem nodup_same {rs : List Rw} (nd : (rs.map (·.nm)).Nodup) {a b : Rw} (ha : a ∈ rs) (hb : b ∈ rs) (e : a.nm = b.nm) : a = b := by
  induction rs with
  | nil => cases ha
  | cons r rs ih =>
    rw [List.map_cons, List.nodup_cons] at nd
    rcases List.mem_cons.mp ha with ea | ha'
    · rcases List.mem_cons.mp hb with eb | hb'
      · rw [ea, eb]
      · subst ea
        exact absurd (List.mem_map.mpr ⟨b, hb', e.symm⟩) nd.1
    · rcases List.mem_cons.mp hb with eb | hb'
      · subst eb
        exact absurd (List.mem_map.mpr ⟨a, ha', e⟩) nd.1
      · exact ih nd.2 ha' hb'
theorem alike_rows (a b : Rw) : PySem.W.alike (rwD a) (rwD b) = true := by
  simp [rwD, PySem.W.alike, PySem.W.alikeAll]
theorem dataLe_rw (a b : Rw) (h : a.nm = b.nm → a = b) : PySem.W.dataLe false id (rwD a) (rwD b) = rowLe a b := by
  rw [PySem.W.dataLe_eq]
  show (!PySem.W.dataLt (rwD b) (rwD a)) = _
  by_cases e : b.nm = a.nm
  · have := h e.symm
    subst this
    have i1 : PySem.W.dataLt (rwD a) (rwD a) = false := by
      unfold PySem.W.dataLt
      exact PyProof.Rows.lex_irrefl _
    rw [i1]
    unfold rowLe
    rw [decide_eq_false (List.lt_irrefl _)]
  · have e2 : PyData.eqv (.str b.nm) (.str a.nm) = false := by rw [eqv_str, decide_eq_false e]
    unfold rwD
    rw [PySem.W.dataLt_tuple, PySem.W.dataLt_cons (by simp [PySem.W.alike]), e2, if_neg Bool.false_ne_true, PySem.W.dataLt_str]
    rfl
theorem sort_rows {rs : List Rw} (nd : (rs.map (·.nm)).Nodup) : (rs.map rwD).mergeSort (PySem.W.dataLe false id) = (sortRows rs).map rwD := by
  refine (List.map_mergeSort (fun a ha b hb => ?_)).symm
  exact (dataLe_rw a b fun e => nodup_same nd ha hb e).symm
theorem sortRows_perm (rs : List Rw) : (sortRows rs).Perm rs := List.mergeSort_perm _ _
theorem sortRows_rising {rs : List Rw} (nd : (rs.map (·.nm)).Nodup) : risingB ((sortRows rs).map (·.nm)) = true := by
  have p := List.pairwise_mergeSort (le := rowLe) rowLe_trans rowLe_total rs
  have nd2 : ((sortRows rs).map (·.nm)).Nodup := ((sortRows_perm rs).map _).nodup_iff.mpr nd
  refine pw_rising ?_
  rw [List.pairwise_map]
  have nd3 := List.pairwise_map.mp nd2
  refine (p.and nd3).imp fun {a b} ⟨h1, h2⟩ => ?_
  unfold rowLe at h1
  simp only [Bool.not_eq_true', decide_eq_false_iff_not] at h1
  by_cases q : lets a.nm < lets b.nm
  · exact q
  · exact absurd (lets_inj (List.le_antisymm (as := lets a.nm) (bs := lets b.nm) h1 q)) h2

theorem gPopAt_of {es : List D} {r : Int} {d : D} (h0 : 0 ≤ r) (h1 : r ≤ 1000) (h : es[r.toNat]? = some d) : gPopAt es [.int r] = some (d, es.eraseIdx r.toNat) := by
  have hl := (List.getElem?_eq_some_iff.mp h).1
  have hx : ixN es.length r = some r.toNat := by
    unfold ixN
    have : r < es.length := by omega
    simp [h0, this]
  show (if small62 r = true then match ixN es.length r with
    | some j => (es[j]?).map fun d => (d, es.eraseIdx j)
    | none => none
    else none) = _
  rw [if_pos (small62_int h0 (by omega)), hx]
  simp [h]
theorem gAppend_of {es : List D} {d : D} (h : es.length ≤ 100000) : gAppend es [d] = some (.none, es ++ [d]) := by
  show (if es.length < lim then some (PyData.none, es ++ [d]) else none) = _
  rw [if_pos (Nat.lt_of_le_of_lt h (by decide))]
theorem meth_eq {i : Nat} {g : List D → List D → Option (D × List D)} {fa : Md (List Opd)} {ρ ρ' : Env} {os : List Opd} {b b' : Bool} {es es' : List D} {ds : List D} {d : D} {es2 : List D}
    (h0 : ρ[i]? = some (some (.own b (.lst es)))) (ha : fa ρ = .ok os ρ') (hi : ρ'[i]? = some (some (.own b' (.lst es')))) (hs : ims ρ' os = some ds) (hg : g es' ds = some (d, es2)) :
    mMeth i g fa ρ = .ok (.dat d) (ρ'.set i (some (.own b' (.lst es2)))) := by
  unfold mMeth isLst Md.bind
  rw [h0]
  simp only [if_true]
  rw [ha]
  simp only [hi, hs, hg]
theorem strs_get {ns : List Str} {i : Nat} {x : Str} (h : ns[i]? = some x) : (ns.map PyData.str)[i]? = some (.str x) := by
  rw [List.getElem?_map, h]; rfl
theorem coins_turn1 {n : Int} {o : Own} {ns ls : List Str} {a1 a4 a5 a6 a7 : Option A} (hd : Dk n o) (hn : n ≤ 100000000000) (hne : ns ≠ []) (hl : ns.length ≤ 1000) (hl2 : ls.length ≤ 1000) :
    ∃ (j : Nat) (x : Str) (o' : Own), ns[j]? = some x ∧ Dk (n + 1) o' ∧
      b__law_coins_1 [some (.own true o), a1, some (.own false (.lst (ns.map .str))), some (.own false (.lst (ls.map .str))), a4, a5, a6, a7] =
        .ok .nx [some (.own true o'), a1, some (.own false (.lst ((ns.eraseIdx j).map .str))), some (.own false (.lst ((ls ++ [x]).map .str))), a4, a5, a6, a7] := by
  have hp : 0 < ns.length := List.length_pos_iff.mpr hne
  obtain ⟨r, o', h0, h1, dk, e⟩ := e_pick hd hn (s := (ns.length : Nat)) (by omega) (by omega)
  have hr : r.toNat < ns.length := by omega
  have hx : ns[r.toNat]? = some ns[r.toNat] := List.getElem?_eq_getElem hr
  refine ⟨r.toNat, ns[r.toNat], o', hx, dk, ?_⟩
  have pp := gPopAt_of h0 (by omega) (strs_get hx)
  have ga := gAppend_of (es := ls.map PyData.str) (d := .str ns[r.toNat]) (by rw [List.length_map]; omega)
  have m1 : mMeth 2 gPopAt (mCons (mImm (mCallA 2 m__law_pick (mCons (mVar 0) (mCons (mCall gLen (mCons (mVar 2) mNil)) mNil)))) mNil) [some (.own true o), a1, some (.own false (.lst (ns.map .str))), some (.own false (.lst (ls.map .str))), a4, a5, a6, a7] =
      .ok (.dat (.str ns[r.toNat])) [some (.own true o'), a1, some (.own false (.lst ((ns.map PyData.str).eraseIdx r.toNat))), some (.own false (.lst (ls.map .str))), a4, a5, a6, a7] := by
    refine meth_eq (ρ' := [some (.own true o'), a1, some (.own false (.lst (ns.map .str))), some (.own false (.lst (ls.map .str))), a4, a5, a6, a7]) (os := [.dat (.int r)]) rfl ?_ rfl rfl pp
    simp [runFn, startE, keepO, keepA, sRet, sRetN, sRetA, sRetNone, sSeq, sIf, sNx, sDrop, sSet, sTg, tN, canSet, sSetN, Md.bind, Md.ret, Md.opt, mVar, mC, mT, m2, m1, mIf, mAndV, mOrV, mNotV, mAndT, mOrT, mNotT, mChain, mCons, mNil, mCall, mCallN, mImm, mOwn, mTup, mLst, mLstN, mItems, mFrz, rs, im, rss, ims, ownD, argOf, argsOf, slotOf, isSlot, cellsBack, backA, mCallA, List.filterMap_cons, List.filterMap_nil, List.findIdx?_cons, List.findIdx?_nil, gEq_int, gNe_int, gLe_int, gLt_int, gGt_int, gGe_int, gAdd_int, gAddI_int, gSub_int, gNeg_int, gIx_tup, gIx_lst, gLen_tup, gLen_lst, gLen_dict, gIsN_eq, gNotN_eq, e]
  have m2 : mMeth 3 gAppend (mCons (mMeth 2 gPopAt (mCons (mImm (mCallA 2 m__law_pick (mCons (mVar 0) (mCons (mCall gLen (mCons (mVar 2) mNil)) mNil)))) mNil)) mNil) [some (.own true o), a1, some (.own false (.lst (ns.map .str))), some (.own false (.lst (ls.map .str))), a4, a5, a6, a7] =
      .ok (.dat .none) [some (.own true o'), a1, some (.own false (.lst ((ns.map PyData.str).eraseIdx r.toNat))), some (.own false (.lst (ls.map .str ++ [.str ns[r.toNat]]))), a4, a5, a6, a7] := by
    refine meth_eq (ρ' := [some (.own true o'), a1, some (.own false (.lst ((ns.map PyData.str).eraseIdx r.toNat))), some (.own false (.lst (ls.map .str))), a4, a5, a6, a7]) (os := [.dat (.str ns[r.toNat])]) rfl (cons_eq m1 nil_eq) rfl rfl ga
  refine (drop_eq m2).trans ?_
  rw [List.map_append, map_erase]
  rfl
def N8 : List Str := ["ant", "bee", "cent", "dime", "elk", "fox", "gnu", "hen"]
theorem range_get {lo : Int} {k : Nat} {i : Nat} {d : D} (h : (rangeD lo (lo + k))[i]? = some d) : i < k ∧ d = .int (lo + (i : Nat)) := by
  unfold rangeD at h
  rw [List.getElem?_map, show (lo + (k : Int) - lo).toNat = k by omega] at h
  cases e : (List.range k)[i]? with
  | none => rw [e] at h; cases h
  | some j =>
    rw [e] at h
    obtain ⟨hl, hj⟩ := List.getElem?_eq_some_iff.mp e
    rw [List.getElem_range] at hj
    subst hj
    rw [List.length_range] at hl
    exact ⟨hl, (Option.some.inj h).symm⟩
theorem range_len (lo : Int) (k : Nat) : (rangeD lo (lo + k)).length = k := by
  unfold rangeD
  rw [List.length_map, List.length_range]
  omega
theorem range0 (k : Nat) : rangeD 0 k = rangeD 0 (0 + k) := by rw [Int.zero_add]
/-- the kinds are drawn -/
theorem coins_loop1 {n : Int} {o : Own} {a1 a5 a6 a7 : Option A} (hd : Dk n o) (hn : n ≤ 10000000000) (k : Nat) (hk : k ≤ 8) :
    ∃ (ns ls : List Str) (o' : Own) (x : Option D), (ls ++ ns).Perm N8 ∧ ls.length = k ∧ Dk (n + k) o' ∧
      forL (tN 4) b__law_coins_1 (rangeD 0 k) [some (.own true o), a1, some (.own false (.lst (N8.map .str))), some (.own false (.lst [])), none, a5, a6, a7] =
        .ok .nx [some (.own true o'), a1, some (.own false (.lst (ns.map .str))), some (.own false (.lst (ls.map .str))), x.map .imm, a5, a6, a7] := by
  obtain ⟨ρ', e, ns, ls, o', x, h1, h2, h3, h4⟩ := forL_run (tg := tN 4) (body := b__law_coins_1) (fun i ρ => ∃ (ns ls : List Str) (o' : Own) (x : Option D), (ls ++ ns).Perm N8 ∧ ls.length = i ∧ Dk (n + i) o' ∧
      ρ = [some (.own true o'), a1, some (.own false (.lst (ns.map .str))), some (.own false (.lst (ls.map .str))), x.map .imm, a5, a6, a7])
    (rangeD 0 k) [some (.own true o), a1, some (.own false (.lst (N8.map .str))), some (.own false (.lst [])), none, a5, a6, a7] ⟨N8, [], o, none, .refl _, rfl, by simpa using hd, rfl⟩
    (fun i d ρ hd ⟨ns, ls, o1, x, p, hl, dk, e⟩ => by
      subst e
      rw [range0] at hd
      obtain ⟨hi, rfl⟩ := range_get hd
      have lp := p.length_eq
      rw [List.length_append] at lp
      have l8 : N8.length = 8 := rfl
      have hne : ns ≠ [] := fun e => by
        subst e
        rw [List.length_nil] at lp
        omega
      obtain ⟨j, y, o2, hj, dk2, eb⟩ := coins_turn1 (a1 := a1) (a4 := some (.imm (.int (0 + (i : Nat))))) (a5 := a5) (a6 := a6) (a7 := a7) dk (by omega) hne (by omega) (ls := ls) (by omega)
      refine ⟨_, _, ?_, .inl eb, ns.eraseIdx j, ls ++ [y], o2, some (.int (0 + (i : Nat))), ?_, ?_, ?_, rfl⟩
      · cases x <;> simp [tN, canSet]
      · have q := perm_erase hj
        rw [List.append_assoc]
        exact (List.Perm.append_left ls q).trans p
      · rw [List.length_append, List.length_singleton, hl]
      · refine dk2.mono ?_
        push_cast
        omega)
  rw [range0, range_len] at h2 h3
  exact ⟨ns, ls, o', x, h1, h2, h3, by rw [e, h4]⟩
/-! the rows -/
/-- a drawn row: its own kind's place is i -/
structure RowAt (ls : List Str) (i : Nat) (r : Rw) : Prop where
  nm : ls[i]? = some r.nm
  way : (r.up = "" ∧ r.mn = 0) ∨ (∃ j, j < i ∧ ls[j]? = some r.up) ∧ 2 ≤ r.mn ∧ r.mn ≤ 9
theorem coins_turn2 {n : Int} {o : Own} {ls : List Str} {qs : List Rw} {a1 a2 a4 : Option A} {i : Nat} {x : Str} (hd : Dk n o) (hn : n ≤ 10000000000) (hx : ls[i]? = some x) (hi : i ≤ 1000) (hl : qs.length ≤ 1000) :
    ∃ (r : Rw) (o' : Own), RowAt ls i r ∧ Dk (n + 4) o' ∧
      b__law_coins_2 [some (.own true o), a1, a2, some (.imm (.list (ls.map .str))), a4, some (.own false (.lst (qs.map rwD))), some (.imm (.int (i : Nat))), some (.imm (.str x))] =
        .ok .nx [some (.own true o'), a1, a2, some (.imm (.list (ls.map .str))), a4, some (.own false (.lst ((qs ++ [r]).map rwD))), some (.imm (.int (i : Nat))), some (.imm (.str x))] := by
  have flat : ∀ (o' : Own), (sDrop (mMeth 5 gAppend (mCons (mTup (mCons (mVar 7) (mCons (mC (.int 0)) (mCons (mC (.str ("" : Str))) mNil)))) mNil)))
      [some (.own true o'), a1, a2, some (.imm (.list (ls.map .str))), a4, some (.own false (.lst (qs.map rwD))), some (.imm (.int (i : Nat))), some (.imm (.str x))] =
      .ok .nx [some (.own true o'), a1, a2, some (.imm (.list (ls.map .str))), a4, some (.own false (.lst ((qs ++ [(⟨x, 0, ""⟩ : Rw)]).map rwD))), some (.imm (.int (i : Nat))), some (.imm (.str x))] := fun o' => by
    have ga := gAppend_of (es := qs.map rwD) (d := rwD ⟨x, 0, ""⟩) (by rw [List.length_map]; omega)
    refine (drop_eq (meth_eq (ρ' := [some (.own true o'), a1, a2, some (.imm (.list (ls.map .str))), a4, some (.own false (.lst (qs.map rwD))), some (.imm (.int (i : Nat))), some (.imm (.str x))]) (os := [.dat (rwD ⟨x, 0, ""⟩)]) rfl (cons_eq (ρ1 := [some (.own true o'), a1, a2, some (.imm (.list (ls.map .str))), a4, some (.own false (.lst (qs.map rwD))), some (.imm (.int (i : Nat))), some (.imm (.str x))]) ?_ nil_eq) rfl rfl ga)).trans ?_
    · simp [runFn, startE, keepO, keepA, sRet, sRetN, sRetA, sRetNone, sSeq, sIf, sNx, sDrop, sSet, sTg, tN, canSet, sSetN, Md.bind, Md.ret, Md.opt, mVar, mC, mT, m2, m1, mIf, mAndV, mOrV, mNotV, mAndT, mOrT, mNotT, mChain, mCons, mNil, mCall, mCallN, mImm, mOwn, mTup, mLst, mLstN, mItems, mFrz, rs, im, rss, ims, ownD, argOf, argsOf, slotOf, isSlot, cellsBack, backA, mCallA, List.filterMap_cons, List.filterMap_nil, List.findIdx?_cons, List.findIdx?_nil, lim, rwD]
    · rw [List.map_append]
      rfl
  by_cases h0 : i = 0
  · refine ⟨⟨x, 0, ""⟩, o, ⟨hx, .inl ⟨rfl, rfl⟩⟩, hd.mono (by omega), ?_⟩
    refine (sIf_t (ρ1 := [some (.own true o), a1, a2, some (.imm (.list (ls.map .str))), a4, some (.own false (.lst (qs.map rwD))), some (.imm (.int (i : Nat))), some (.imm (.str x))]) ?_).trans (flat o)
    subst h0
    simp [runFn, startE, keepO, keepA, sRet, sRetN, sRetA, sRetNone, sSeq, sIf, sNx, sDrop, sSet, sTg, tN, canSet, sSetN, Md.bind, Md.ret, Md.opt, mVar, mC, mT, m2, m1, mIf, mAndV, mOrV, mNotV, mAndT, mOrT, mNotT, mChain, mCons, mNil, mCall, mCallN, mImm, mOwn, mTup, mLst, mLstN, mItems, mFrz, rs, im, rss, ims, ownD, argOf, argsOf, slotOf, isSlot, cellsBack, backA, mCallA, List.filterMap_cons, List.filterMap_nil, List.findIdx?_cons, List.findIdx?_nil, gEq_int, gNe_int, gLe_int, gLt_int, gGt_int, gGe_int, gAdd_int, gAddI_int, gSub_int, gNeg_int, gIx_tup, gIx_lst, gLen_tup, gLen_lst, gLen_dict, gIsN_eq, gNotN_eq]
  have h0' : ¬ ((i : Nat) : Int) = 0 := by omega
  obtain ⟨r1, o1, r10, r11, d1, e1⟩ := e_pick hd (by omega) (s := 7) (by decide) (by decide)
  by_cases hz : r1 = 0
  · refine ⟨⟨x, 0, ""⟩, o1, ⟨hx, .inl ⟨rfl, rfl⟩⟩, d1.mono (by omega), ?_⟩
    refine (sIf_t (ρ1 := [some (.own true o1), a1, a2, some (.imm (.list (ls.map .str))), a4, some (.own false (.lst (qs.map rwD))), some (.imm (.int (i : Nat))), some (.imm (.str x))]) ?_).trans (flat o1)
    subst hz
    simp [runFn, startE, keepO, keepA, sRet, sRetN, sRetA, sRetNone, sSeq, sIf, sNx, sDrop, sSet, sTg, tN, canSet, sSetN, Md.bind, Md.ret, Md.opt, mVar, mC, mT, m2, m1, mIf, mAndV, mOrV, mNotV, mAndT, mOrT, mNotT, mChain, mCons, mNil, mCall, mCallN, mImm, mOwn, mTup, mLst, mLstN, mItems, mFrz, rs, im, rss, ims, ownD, argOf, argsOf, slotOf, isSlot, cellsBack, backA, mCallA, List.filterMap_cons, List.filterMap_nil, List.findIdx?_cons, List.findIdx?_nil, gEq_int, gNe_int, gLe_int, gLt_int, gGt_int, gGe_int, gAdd_int, gAddI_int, gSub_int, gNeg_int, gIx_tup, gIx_lst, gLen_tup, gLen_lst, gLen_dict, gIsN_eq, gNotN_eq, e1, h0, h0']
  obtain ⟨r2, o2, r20, r21, d2, e2⟩ := e_pick d1 (by omega) (s := 8) (by decide) (by decide)
  obtain ⟨k, m, o3, hk, d3, e3⟩ := e_one (ds := [.int 2, .int 2, .int 3, .int 5, .int (2 + r2)]) d2 (by omega) (by simp) (by simp)
  have hm : ∃ v : Int, m = .int v ∧ 2 ≤ v ∧ v ≤ 9 := by
    match k, hk with
    | 0, hk => cases hk; exact ⟨2, rfl, by omega, by omega⟩
    | 1, hk => cases hk; exact ⟨2, rfl, by omega, by omega⟩
    | 2, hk => cases hk; exact ⟨3, rfl, by omega, by omega⟩
    | 3, hk => cases hk; exact ⟨5, rfl, by omega, by omega⟩
    | 4, hk => cases hk; exact ⟨2 + r2, rfl, by omega, by omega⟩
    | k + 5, hk => simp at hk
  obtain ⟨v, rfl, v0, v1⟩ := hm
  obtain ⟨r4, o4, r40, r41, d4, e4⟩ := e_pick d3 (by omega) (s := (i : Nat)) (by omega) (by omega)
  have hil := (List.getElem?_eq_some_iff.mp hx).1
  have hj : r4.toNat < ls.length := by omega
  have hy : ls[r4.toNat]? = some ls[r4.toNat] := List.getElem?_eq_getElem hj
  have ha : atI (ls.map PyData.str) r4 = some (.str ls[r4.toNat]) := by
    rw [atI_nat' r40 (by rw [List.length_map]; omega)]
    exact strs_get hy
  have ga := gAppend_of (es := qs.map rwD) (d := rwD ⟨x, v, ls[r4.toNat]⟩) (by rw [List.length_map]; omega)
  refine ⟨⟨x, v, ls[r4.toNat]⟩, o4, ⟨hx, .inr ⟨⟨r4.toNat, by omega, hy⟩, v0, v1⟩⟩, d4.mono (by omega), ?_⟩
  refine (sIf_f (ρ1 := [some (.own true o1), a1, a2, some (.imm (.list (ls.map .str))), a4, some (.own false (.lst (qs.map rwD))), some (.imm (.int (i : Nat))), some (.imm (.str x))]) ?_).trans ?_
  · simp [runFn, startE, keepO, keepA, sRet, sRetN, sRetA, sRetNone, sSeq, sIf, sNx, sDrop, sSet, sTg, tN, canSet, sSetN, Md.bind, Md.ret, Md.opt, mVar, mC, mT, m2, m1, mIf, mAndV, mOrV, mNotV, mAndT, mOrT, mNotT, mChain, mCons, mNil, mCall, mCallN, mImm, mOwn, mTup, mLst, mLstN, mItems, mFrz, rs, im, rss, ims, ownD, argOf, argsOf, slotOf, isSlot, cellsBack, backA, mCallA, List.filterMap_cons, List.filterMap_nil, List.findIdx?_cons, List.findIdx?_nil, gEq_int, gNe_int, gLe_int, gLt_int, gGt_int, gGe_int, gAdd_int, gAddI_int, gSub_int, gNeg_int, gIx_tup, gIx_lst, gLen_tup, gLen_lst, gLen_dict, gIsN_eq, gNotN_eq, e1, h0, h0', hz]
  refine (drop_eq (meth_eq (ρ' := [some (.own true o4), a1, a2, some (.imm (.list (ls.map .str))), a4, some (.own false (.lst (qs.map rwD))), some (.imm (.int (i : Nat))), some (.imm (.str x))]) (os := [.dat (rwD ⟨x, v, ls[r4.toNat]⟩)]) rfl (cons_eq (ρ1 := [some (.own true o4), a1, a2, some (.imm (.list (ls.map .str))), a4, some (.own false (.lst (qs.map rwD))), some (.imm (.int (i : Nat))), some (.imm (.str x))]) ?_ nil_eq) rfl rfl ga)).trans ?_
  · simp [runFn, startE, keepO, keepA, sRet, sRetN, sRetA, sRetNone, sSeq, sIf, sNx, sDrop, sSet, sTg, tN, canSet, sSetN, Md.bind, Md.ret, Md.opt, mVar, mC, mT, m2, m1, mIf, mAndV, mOrV, mNotV, mAndT, mOrT, mNotT, mChain, mCons, mNil, mCall, mCallN, mImm, mOwn, mTup, mLst, mLstN, mItems, mFrz, rs, im, rss, ims, ownD, argOf, argsOf, slotOf, isSlot, cellsBack, backA, mCallA, List.filterMap_cons, List.filterMap_nil, List.findIdx?_cons, List.findIdx?_nil, gEq_int, gNe_int, gLe_int, gLt_int, gGt_int, gGe_int, gAdd_int, gAddI_int, gSub_int, gNeg_int, gIx_tup, gIx_lst, gLen_tup, gLen_lst, gLen_dict, gIsN_eq, gNotN_eq, lim, rwD, e2, e3, e4, ha]
  · rw [List.map_append]
    rfl
theorem enum_get : ∀ {ds : List D} {k i : Nat} {d : D}, (enumD k ds)[i]? = some d → ∃ x, ds[i]? = some x ∧ d = .tuple [.int ((k + i : Nat) : Int), x]
  | [], _, _, _, h => by simp [enumD] at h
  | x :: r, k, 0, d, h => by
    have : PyData.tuple [.int (k : Nat), x] = d := Option.some.inj h
    exact ⟨x, rfl, this.symm⟩
  | x :: r, k, i + 1, d, h => by
    have h' : (enumD (k + 1) r)[i]? = some d := h
    obtain ⟨y, e, q⟩ := enum_get h'
    refine ⟨y, e, ?_⟩
    rw [q]
    congr 3
    omega
theorem enum_len : ∀ (ds : List D) (k : Nat), (enumD k ds).length = ds.length
  | [], _ => rfl
  | _ :: r, k => by
    show (enumD (k + 1) r).length + 1 = r.length + 1
    rw [enum_len r]
theorem coins_loop2 {n : Int} {o : Own} {ls : List Str} {a1 a2 a4 : Option A} (hd : Dk n o) (hn : n ≤ 1000000000) (hl : ls.length ≤ 8) :
    ∃ (qs : List Rw) (o' : Own) (x y : Option D), qs.length = ls.length ∧ (∀ i r, qs[i]? = some r → RowAt ls i r) ∧ Dk (n + 32) o' ∧
      forL (tTupT 2 (tsCons (tN 6) (tsCons (tN 7) tsNil))) b__law_coins_2 (enumD 0 (ls.map .str)) [some (.own true o), a1, a2, some (.imm (.list (ls.map .str))), a4, some (.own false (.lst [])), none, none] =
        .ok .nx [some (.own true o'), a1, a2, some (.imm (.list (ls.map .str))), a4, some (.own false (.lst (qs.map rwD))), x.map .imm, y.map .imm] := by
  obtain ⟨ρ', e, qs, o', x, y, h1, h2, h3, h4⟩ := forL_run (tg := tTupT 2 (tsCons (tN 6) (tsCons (tN 7) tsNil))) (body := b__law_coins_2) (fun i ρ => ∃ (qs : List Rw) (o' : Own) (x y : Option D), qs.length = i ∧ (∀ i r, qs[i]? = some r → RowAt ls i r) ∧ Dk (n + 4 * i) o' ∧
      ρ = [some (.own true o'), a1, a2, some (.imm (.list (ls.map .str))), a4, some (.own false (.lst (qs.map rwD))), x.map .imm, y.map .imm])
    (enumD 0 (ls.map .str)) [some (.own true o), a1, a2, some (.imm (.list (ls.map .str))), a4, some (.own false (.lst [])), none, none] ⟨[], o, none, none, rfl, fun i r h => by simp at h, by simpa using hd, rfl⟩
    (fun i d ρ hd ⟨qs, o1, x, y, hl2, hr, dk, e⟩ => by
      subst e
      obtain ⟨z, hz, rfl⟩ := enum_get hd
      rw [List.getElem?_map] at hz
      cases ez : ls[i]? with
      | none => rw [ez] at hz; cases hz
      | some w =>
        rw [ez] at hz
        have hz : PyData.str w = z := Option.some.inj hz
        subst hz
        have hil := (List.getElem?_eq_some_iff.mp ez).1
        obtain ⟨r, o2, ra, dk2, eb⟩ := coins_turn2 (a1 := a1) (a2 := a2) (a4 := a4) (qs := qs) dk (by omega) ez (by omega) (by omega)
        refine ⟨_, _, ?_, .inl eb, qs ++ [r], o2, some (.int (i : Nat)), some (.str w), ?_, ?_, ?_, rfl⟩
        · rw [Nat.zero_add]
          cases x <;> cases y <;> simp [tTupT, tsCons, tsNil, tN, canSet]
        · rw [List.length_append, List.length_singleton, hl2]
        · intro j q hq
          by_cases hj : j < qs.length
          · rw [List.getElem?_append_left hj] at hq
            exact hr j q hq
          · rw [List.getElem?_append_right (by omega)] at hq
            have : j - qs.length = 0 := by
              cases e0 : j - qs.length with
              | zero => rfl
              | succ m => rw [e0] at hq; simp at hq
            rw [this] at hq
            have : r = q := Option.some.inj hq
            subst this
            have : j = i := by omega
            subst this
            exact ra
        · refine dk2.mono ?_
          push_cast
          omega)
  rw [enum_len, List.length_map] at h1 h3
  exact ⟨qs, o', x, y, h1, h2, h3.mono (by omega), by rw [e, h4]⟩
end DV

set_option Elab.async false
set_option linter.all false
set_option maxRecDepth 100000
set_option maxHeartbeats 4000000
set_option autoImplicit false
/-! MxD2: drawn coins are coins. -/
namespace DV
open PySem L2
theorem row_found {cs : List Rw} (nd : (cs.map (·.nm)).Nodup) {r : Rw} (h : r ∈ cs) : rowAt cs r.nm = some r := by
  unfold rowAt
  cases e : cs.find? fun q => decide (q.nm = r.nm) with
  | none =>
    rw [List.find?_eq_none] at e
    exact absurd (decide_eq_true rfl) (e r h)
  | some q =>
    have m := List.mem_of_find?_eq_some e
    have p : q.nm = r.nm := by simpa using List.find?_some e
    rw [nodup_same nd m h p]
theorem rows_names {ls : List Str} {qs : List Rw} (hl : qs.length = ls.length) (h : ∀ i r, qs[i]? = some r → RowAt ls i r) : qs.map (·.nm) = ls := by
  refine List.ext_getElem? fun i => ?_
  rw [List.getElem?_map]
  cases e : qs[i]? with
  | none =>
    rw [List.getElem?_eq_none_iff] at e
    exact (List.getElem?_eq_none (by omega)).symm
  | some r => exact (h i r e).nm.symm
theorem n8_ok : ∀ s ∈ N8, nameB s = true ∧ s ≠ "" ∧ PyData.strOk s = true ∧ s.length ≤ 1000 := by decide +kernel
theorem n8_nodup : N8.Nodup := by decide +kernel
theorem climb_rows {ls : List Str} {cs : List Rw} (nd : (cs.map (·.nm)).Nodup) (hne : ∀ s ∈ ls, s ≠ "") (h : ∀ p s, ls[p]? = some s → ∃ r, r ∈ cs ∧ RowAt ls p r ∧ r.nm = s) :
    ∀ (t : Nat) (s : Str), (s = "" ∨ ∃ p, p < t ∧ ls[p]? = some s) → climb cs t s = some "" := fun t => by
  induction t with
  | zero =>
    intro s q
    rcases q with q | ⟨p, q, _⟩
    · rw [q]; rfl
    · omega
  | succ t ih =>
    intro s q
    rcases q with q | ⟨p, q, e⟩
    · have u : up1 cs s = "" := by unfold up1; rw [if_pos q]
      unfold climb
      rw [u, if_neg (fun z => z.1 rfl)]
      exact ih _ (.inl rfl)
    · obtain ⟨r, m, ra, rn⟩ := h p s e
      have hs : s ≠ "" := hne s (List.mem_of_getElem? e)
      have u : up1 cs s = r.up := by
        unfold up1
        rw [if_neg hs, ← rn, row_found nd m]
      unfold climb
      rw [u]
      rcases ra.way with ⟨w, _⟩ | ⟨⟨j, hj, ej⟩, _, _⟩
      · rw [if_neg (fun z => z.1 w)]
        exact ih _ (.inl w)
      · obtain ⟨r2, m2, ra2, rn2⟩ := h j _ ej
        have i2 : inN cs r.up = true := by
          unfold inN
          rw [← rn2, row_found nd m2]
          rfl
        rw [if_neg (fun z => by rw [i2] at z; exact Bool.noConfusion z.2)]
        exact ih _ (.inr ⟨j, by omega, ej⟩)
theorem coins_drawn {ls : List Str} {qs : List Rw} (hl : qs.length = ls.length) (h1 : 1 ≤ ls.length) (h8 : ls.length ≤ 8) (hn : ∀ s ∈ ls, s ∈ N8) (nd : ls.Nodup) (h : ∀ i r, qs[i]? = some r → RowAt ls i r) : Coins (sortRows qs) := by
  have hnm := rows_names hl h
  have nq : (qs.map (·.nm)).Nodup := by rw [hnm]; exact nd
  have pq := sortRows_perm qs
  have nd2 : ((sortRows qs).map (·.nm)).Nodup := (pq.map _).nodup_iff.mpr nq
  have at_ : ∀ r ∈ sortRows qs, ∃ i, RowAt ls i r := fun r m => by
    obtain ⟨i, e⟩ := List.mem_iff_getElem?.mp (pq.mem_iff.mp m)
    exact ⟨i, h i r e⟩
  have up_in : ∀ r ∈ sortRows qs, r.up = "" ∨ r.up ∈ N8 := fun r m => by
    obtain ⟨i, ra⟩ := at_ r m
    rcases ra.way with ⟨w, _⟩ | ⟨⟨j, _, ej⟩, _⟩
    · exact .inl w
    · exact .inr (hn _ (List.mem_of_getElem? ej))
  have nm_in : ∀ r ∈ sortRows qs, r.nm ∈ N8 := fun r m => by
    obtain ⟨i, ra⟩ := at_ r m
    exact hn _ (List.mem_of_getElem? ra.nm)
  refine ⟨?_, ?_⟩
  · unfold csD goodD
    rw [Bool.and_eq_true, goodDs_iff, decide_eq_true_eq, List.length_map, pq.length_eq, hl]
    refine ⟨fun d m => ?_, by omega⟩
    obtain ⟨r, mr, rfl⟩ := List.mem_map.mp m
    have g1 := n8_ok _ (nm_in r mr)
    have g2 : PyData.strOk r.up = true ∧ r.up.length ≤ 1000 := by
      rcases up_in r mr with e | e
      · rw [e]; exact ⟨strOk_nil, by decide⟩
      · exact (n8_ok _ e).2.2
    simp [rwD, goodD, goodDs, g1.2.2.1, g1.2.2.2, g2.1, g2.2]
  · unfold coinsB
    rw [pq.length_eq, hl, decide_eq_true h1, decide_eq_true h8, sortRows_rising nq]
    have a1 : (sortRows qs).all rowB = true := List.all_eq_true.mpr fun r m => by
      obtain ⟨i, ra⟩ := at_ r m
      unfold rowB
      rw [(n8_ok _ (nm_in r m)).1, Bool.true_and]
      rcases ra.way with ⟨w, z⟩ | ⟨⟨j, _, ej⟩, v0, v1⟩
      · rw [if_pos w, decide_eq_true z]
      · rw [if_neg (n8_ok _ (hn _ (List.mem_of_getElem? ej))).2.1, decide_eq_true v0, decide_eq_true v1]
        rfl
    have a2 : forestB (sortRows qs) = true := List.all_eq_true.mpr fun r m => by
      obtain ⟨i, ra⟩ := at_ r m
      have hi := (List.getElem?_eq_some_iff.mp ra.nm).1
      have := climb_rows (ls := ls) nd2 (fun s m => (n8_ok s (hn s m)).2.1) (fun p s e => by
        have hp := (List.getElem?_eq_some_iff.mp e).1
        have hq : qs[p]? = some qs[p] := List.getElem?_eq_getElem (by omega)
        have rp := h p _ hq
        refine ⟨qs[p], pq.mem_iff.mpr (List.mem_of_getElem? hq), rp, ?_⟩
        have := rp.nm
        rw [e] at this
        exact (Option.some.inj this).symm) (sortRows qs).length r.nm (.inr ⟨i, by rw [pq.length_eq, hl]; exact hi, ra.nm⟩)
      rw [this]
      rfl
    rw [a1, a2]
    rfl
theorem gSorted_rows {qs : List Rw} (hl : ∀ r ∈ qs, PyData.strOk r.nm = true ∧ PyData.strOk r.up = true) (nd : (qs.map (·.nm)).Nodup) : gSorted [.list (qs.map rwD)] = some (.lst ((sortRows qs).map rwD)) := by
  have lay : PyData.canLayAll0 (qs.map rwD) = true := by
    have : ∀ rs : List Rw, (∀ r ∈ rs, PyData.strOk r.nm = true ∧ PyData.strOk r.up = true) → PyData.canLayAll0 (rs.map rwD) = true := fun rs => by
      induction rs with
      | nil => intro _; rfl
      | cons r rs ih =>
        intro h
        have := h r (.head _)
        rw [List.map_cons]
        show (PyData.canLay0 (rwD r) && PyData.canLayAll0 (rs.map rwD)) = true
        rw [ih fun q m => h q (.tail _ m), Bool.and_true]
        show (PyData.strOk r.nm && (true && (PyData.strOk r.up && true))) = true
        rw [this.1, this.2]
        rfl
    exact this qs hl
  have ok : okSort (qs.map rwD) = true := by
    unfold okSort
    rw [lay, Bool.and_true]
    have e1 : ((qs.map rwD).all fun d => (qs.map rwD).all fun d' => PySem.W.alike d d') = true := List.all_eq_true.mpr fun d m => List.all_eq_true.mpr fun d' m' => by
      obtain ⟨a, _, rfl⟩ := List.mem_map.mp m
      obtain ⟨b, _, rfl⟩ := List.mem_map.mp m'
      exact alike_rows a b
    have e2 : (qs.map rwD).all tupOne = true := List.all_eq_true.mpr fun d m => by
      obtain ⟨a, _, rfl⟩ := List.mem_map.mp m
      rfl
    have e3 : ((qs.map rwD).all fun d => decide (d.depth ≤ 8)) = true := List.all_eq_true.mpr fun d m => by
      obtain ⟨a, _, rfl⟩ := List.mem_map.mp m
      exact decide_eq_true (by show 1 ≤ 8; omega)
    rw [e1, e2, e3]
    rfl
  show (if okSort (qs.map rwD) = true then some (Own.lst ((qs.map rwD).mergeSort (PySem.W.dataLe false id))) else none) = _
  rw [if_pos ok, sort_rows nd]
theorem e_coins {n : Int} {o : Own} {m : Int} (hd : Dk n o) (hn : n ≤ 100000000) (h1 : 1 ≤ m) (h8 : m ≤ 8) :
    ∃ (cs : List Rw) (o' : Own), Coins cs ∧ (cs.length : Int) ≤ m ∧ Dk (n + 50) o' ∧ m__law_coins [.own true o, .imm (.int m)] = .ok (.imm (csD cs)) [some (.own true o'), none, none, none, none, none, none, none] := by
  obtain ⟨r, o1, r0, r1, d1, e1⟩ := e_pick hd (by omega) (s := m) (by omega) (by omega)
  obtain ⟨k, hk⟩ : ∃ k : Nat, 1 + r = (k : Int) := ⟨(1 + r).toNat, by omega⟩
  obtain ⟨ns, ls, o2, x, p, hl, d2, e2⟩ := coins_loop1 (a1 := some (.imm (.int m))) (a5 := none) (a6 := none) (a7 := none) d1 (by omega) k (by omega)
  obtain ⟨qs, o3, y, z, hq, hr, d3, e3⟩ := coins_loop2 (ls := ls) (a1 := some (.imm (.int m))) (a2 := some (.own false (.lst (ns.map .str)))) (a4 := x.map .imm) d2 (by omega) (by omega)
  have hin : ∀ s ∈ ls, s ∈ N8 := fun s m => p.mem_iff.mp (List.mem_append_left _ m)
  have nd : ls.Nodup := (List.nodup_append.mp (p.nodup_iff.mpr n8_nodup)).1
  have co := coins_drawn hq (by omega) (by omega) hin nd hr
  have hlen : (sortRows qs).length = ls.length := by rw [(sortRows_perm qs).length_eq, hq]
  refine ⟨sortRows qs, o3, co, by rw [hlen]; omega, d3.mono (by omega), ?_⟩
  have st : (N8.map PyData.str) = [.str ("ant" : Str), .str ("bee" : Str), .str ("cent" : Str), .str ("dime" : Str), .str ("elk" : Str), .str ("fox" : Str), .str ("gnu" : Str), .str ("hen" : Str)] := rfl
  have s62 : small62 (1 + r) = true := small62_int (by omega) (by omega)
  have gs := gSorted_rows (qs := qs) (fun r m => by
    have := good_rows co.good
    exact this.1 r ((sortRows_perm qs).mem_iff.mpr m)) (by rw [rows_names hq hr]; exact nd)
  refine run_rt (.imm (csD (sortRows qs))) [some (.own true o3), some (.imm (.int m)), some (.own false (.lst (ns.map .str))), some (.imm (.list (ls.map .str))), x.map .imm, some (.own false (.lst (qs.map rwD))), y.map .imm, z.map .imm] ?_ ?_
  · refine seq_nx [some (.own true o), some (.imm (.int m)), some (.own false (.lst (N8.map .str))), none, none, none, none, none] ?_ ?_
    · rw [st]; simp [runFn, startE, keepO, keepA, sRet, sRetN, sRetA, sRetNone, sSeq, sIf, sNx, sDrop, sSet, sTg, tN, canSet, sSetN, Md.bind, Md.ret, Md.opt, mVar, mC, mT, m2, m1, mIf, mAndV, mOrV, mNotV, mAndT, mOrT, mNotT, mChain, mCons, mNil, mCall, mCallN, mImm, mOwn, mTup, mLst, mLstN, mItems, mFrz, rs, im, rss, ims, ownD, argOf, argsOf, slotOf, isSlot, cellsBack, backA, mCallA, List.filterMap_cons, List.filterMap_nil, List.findIdx?_cons, List.findIdx?_nil, lim]
    refine seq_nx [some (.own true o), some (.imm (.int m)), some (.own false (.lst (N8.map .str))), some (.own false (.lst [])), none, none, none, none] ?_ ?_
    · simp [runFn, startE, keepO, keepA, sRet, sRetN, sRetA, sRetNone, sSeq, sIf, sNx, sDrop, sSet, sTg, tN, canSet, sSetN, Md.bind, Md.ret, Md.opt, mVar, mC, mT, m2, m1, mIf, mAndV, mOrV, mNotV, mAndT, mOrT, mNotT, mChain, mCons, mNil, mCall, mCallN, mImm, mOwn, mTup, mLst, mLstN, mItems, mFrz, rs, im, rss, ims, ownD, argOf, argsOf, slotOf, isSlot, cellsBack, backA, mCallA, List.filterMap_cons, List.filterMap_nil, List.findIdx?_cons, List.findIdx?_nil, lim]
    refine seq_nx [some (.own true o2), some (.imm (.int m)), some (.own false (.lst (ns.map .str))), some (.own false (.lst (ls.map .str))), x.map .imm, none, none, none] ?_ ?_
    · refine (sFor_eq (range1_eq (ρ' := [some (.own true o1), some (.imm (.int m)), some (.own false (.lst (N8.map .str))), some (.own false (.lst [])), none, none, none, none]) (os := [.dat (.int (1 + r))]) ?_ rfl s62)).trans ?_
      · simp [runFn, startE, keepO, keepA, sRet, sRetN, sRetA, sRetNone, sSeq, sIf, sNx, sDrop, sSet, sTg, tN, canSet, sSetN, Md.bind, Md.ret, Md.opt, mVar, mC, mT, m2, m1, mIf, mAndV, mOrV, mNotV, mAndT, mOrT, mNotT, mChain, mCons, mNil, mCall, mCallN, mImm, mOwn, mTup, mLst, mLstN, mItems, mFrz, rs, im, rss, ims, ownD, argOf, argsOf, slotOf, isSlot, cellsBack, backA, mCallA, List.filterMap_cons, List.filterMap_nil, List.findIdx?_cons, List.findIdx?_nil, gEq_int, gNe_int, gLe_int, gLt_int, gGt_int, gGe_int, gAdd_int, gAddI_int, gSub_int, gNeg_int, gIx_tup, gIx_lst, gLen_tup, gLen_lst, gLen_dict, gIsN_eq, gNotN_eq, e1]
      · rw [hk]; exact e2
    refine seq_nx [some (.own true o2), some (.imm (.int m)), some (.own false (.lst (ns.map .str))), some (.own false (.lst (ls.map .str))), x.map .imm, some (.own false (.lst [])), none, none] ?_ ?_
    · simp [runFn, startE, keepO, keepA, sRet, sRetN, sRetA, sRetNone, sSeq, sIf, sNx, sDrop, sSet, sTg, tN, canSet, sSetN, Md.bind, Md.ret, Md.opt, mVar, mC, mT, m2, m1, mIf, mAndV, mOrV, mNotV, mAndT, mOrT, mNotT, mChain, mCons, mNil, mCall, mCallN, mImm, mOwn, mTup, mLst, mLstN, mItems, mFrz, rs, im, rss, ims, ownD, argOf, argsOf, slotOf, isSlot, cellsBack, backA, mCallA, List.filterMap_cons, List.filterMap_nil, List.findIdx?_cons, List.findIdx?_nil, lim]
    refine seq_nx [some (.own true o3), some (.imm (.int m)), some (.own false (.lst (ns.map .str))), some (.imm (.list (ls.map .str))), x.map .imm, some (.own false (.lst (qs.map rwD))), y.map .imm, z.map .imm] ?_ ?_
    · refine (sFor_eq (ds := enumD 0 (ls.map .str)) (ρ1 := [some (.own true o2), some (.imm (.int m)), some (.own false (.lst (ns.map .str))), some (.imm (.list (ls.map .str))), x.map .imm, some (.own false (.lst [])), none, none]) ?_).trans e3
      simp [mEnum, mFrzV, runFn, startE, keepO, keepA, sRet, sRetN, sRetA, sRetNone, sSeq, sIf, sNx, sDrop, sSet, sTg, tN, canSet, sSetN, Md.bind, Md.ret, Md.opt, mVar, mC, mT, m2, m1, mIf, mAndV, mOrV, mNotV, mAndT, mOrT, mNotT, mChain, mCons, mNil, mCall, mCallN, mImm, mOwn, mTup, mLst, mLstN, mItems, mFrz, rs, im, rss, ims, ownD, argOf, argsOf, slotOf, isSlot, cellsBack, backA, mCallA, List.filterMap_cons, List.filterMap_nil, List.findIdx?_cons, List.findIdx?_nil, items]
    simp [runFn, startE, keepO, keepA, sRet, sRetN, sRetA, sRetNone, sSeq, sIf, sNx, sDrop, sSet, sTg, tN, canSet, sSetN, Md.bind, Md.ret, Md.opt, mVar, mC, mT, m2, m1, mIf, mAndV, mOrV, mNotV, mAndT, mOrT, mNotT, mChain, mCons, mNil, mCall, mCallN, mImm, mOwn, mTup, mLst, mLstN, mItems, mFrz, rs, im, rss, ims, ownD, argOf, argsOf, slotOf, isSlot, cellsBack, backA, mCallA, List.filterMap_cons, List.filterMap_nil, List.findIdx?_cons, List.findIdx?_nil, gs, gTuple, csD]
  · cases x <;> cases y <;> cases z <;> simp [keepO, keepA]
end DV

set_option Elab.async false
set_option linter.all false
set_option maxRecDepth 100000
set_option maxHeartbeats 4000000
set_option autoImplicit false
/-! MxE: purses, fees. -/
namespace DV
open PySem L2
def psD (p : List Int) : D := .tuple (p.map .int)
theorem good_ints (p : List Int) : goodDs (p.map .int) = true := by
  rw [goodDs_iff]
  intro d m
  obtain ⟨i, _, rfl⟩ := List.mem_map.mp m
  rfl
theorem good_ps {p : List Int} (h : p.length ≤ 1000) : goodD (psD p) = true := by
  unfold psD goodD
  rw [good_ints, List.length_map, decide_eq_true h]
  rfl
theorem e_need_coins {cs : List Rw} (h : Coins cs) : m_need_coins [.imm (csD cs)] = .ok (.imm .none) [none] := by
  have e := e_are_coins h.good
  rw [h.ok] at e
  simp [m_need_coins, runFn, startE, keepO, keepA, sRet, sRetN, sRetA, sRetNone, sSeq, sIf, sNx, sDrop, sSet, sTg, tN, canSet, sSetN, Md.bind, Md.ret, Md.opt, mVar, mC, mT, m2, m1, mIf, mAndV, mOrV, mNotV, mAndT, mOrT, mNotT, mChain, mCons, mNil, mCall, mCallN, mImm, mOwn, mTup, mLst, mLstN, mItems, mFrz, rs, im, rss, ims, ownD, argOf, argsOf, slotOf, isSlot, cellsBack, backA, mCallA, List.filterMap_cons, List.filterMap_nil, List.findIdx?_cons, List.findIdx?_nil, e]
/-- n whole numbers from 0 to hi -/
def numsB (n : Nat) (hi : Int) (d : D) : Bool := match d with
  | .tuple ds => decide (ds.length = n) && ds.all fun x => isFrom x 0 hi
  | _ => false
theorem numsB_tup (n : Nat) (hi : Int) (ds : List D) : numsB n hi (.tuple ds) = (decide (ds.length = n) && ds.all fun x => isFrom x 0 hi) := rfl
theorem numsB_ps {n : Nat} {hi : Int} {p : List Int} : numsB n hi (psD p) = (decide (p.length = n) && p.all fun x => decide (0 ≤ x) && decide (x ≤ hi)) := by
  unfold psD
  rw [numsB_tup, List.length_map, List.all_map]
  rfl
theorem c_stock {cs : List Rw} {ds : List D} (hl : ds.length ≤ 1000) : c_is_stock_1 [some (.imm (csD cs)), some (.imm (.tuple ds)), none] = .ok (.lst (ds.map fun d => .bool (isFrom d 0 (10 ^ 30)))) [some (.imm (csD cs)), some (.imm (.tuple ds)), none] := by
  have e := lcL_map (vs := [2]) (tg := tN 2) (elt := x_is_stock_1) (fun d => .bool (isFrom d 0 (10 ^ 30))) [some (.imm (csD cs)), some (.imm (.tuple ds)), none] ds (Nat.le_trans hl (by decide)) (fun d m => by
    refine ⟨[some (.imm (csD cs)), some (.imm (.tuple ds)), some (.imm d)], by simp [tN, canSet], .dat (.bool (isFrom d 0 (10 ^ 30))), [some (.imm (csD cs)), some (.imm (.tuple ds)), some (.imm d)], ?_, rfl, rfl, rfl⟩
    simp [x_is_stock_1, runFn, startE, keepO, keepA, sRet, sRetN, sRetA, sRetNone, sSeq, sIf, sNx, sDrop, sSet, sTg, tN, canSet, sSetN, Md.bind, Md.ret, Md.opt, mVar, mC, mT, m2, m1, mIf, mAndV, mOrV, mNotV, mAndT, mOrT, mNotT, mChain, mCons, mNil, mCall, mCallN, mImm, mOwn, mTup, mLst, mLstN, mItems, mFrz, rs, im, rss, ims, ownD, argOf, argsOf, slotOf, isSlot, cellsBack, backA, mCallA, List.filterMap_cons, List.filterMap_nil, List.findIdx?_cons, List.findIdx?_nil, e_is_from])
  exact (mLc_eq (ds := ds) (ρ1 := [some (.imm (csD cs)), some (.imm (.tuple ds)), none]) (by simp [mSeq, runFn, startE, keepO, keepA, sRet, sRetN, sRetA, sRetNone, sSeq, sIf, sNx, sDrop, sSet, sTg, tN, canSet, sSetN, Md.bind, Md.ret, Md.opt, mVar, mC, mT, m2, m1, mIf, mAndV, mOrV, mNotV, mAndT, mOrT, mNotT, mChain, mCons, mNil, mCall, mCallN, mImm, mOwn, mTup, mLst, mLstN, mItems, mFrz, rs, im, rss, ims, ownD, argOf, argsOf, slotOf, isSlot, cellsBack, backA, mCallA, List.filterMap_cons, List.filterMap_nil, List.findIdx?_cons, List.findIdx?_nil, items]) rfl e).trans rfl
theorem e_is_stock {cs : List Rw} {d : D} (h : goodD d = true) : m_is_stock [.imm (csD cs), .imm d] = .ok (.imm (.bool (numsB cs.length (10 ^ 30) d))) [none, none, none] := by
  cases d with
  | tuple ds =>
    have hl := (good_tup h).2
    have c := c_stock (cs := cs) hl
    have a := gAll_map (fun d => isFrom d 0 (10 ^ 30)) ds
    generalize ds.map (fun d => PyData.bool (isFrom d 0 (10 ^ 30))) = bs at c a
    rw [numsB_tup]
    generalize (ds.all fun d => isFrom d 0 (10 ^ 30)) = q at a
    by_cases hn : ds.length = cs.length
    · have hn' : ((ds.length : Nat) : Int) = (cs.length : Nat) := by rw [hn]
      rw [decide_eq_true hn, Bool.true_and]
      simp [m_is_stock, runFn, startE, keepO, keepA, sRet, sRetN, sRetA, sRetNone, sSeq, sIf, sNx, sDrop, sSet, sTg, tN, canSet, sSetN, Md.bind, Md.ret, Md.opt, mVar, mC, mT, m2, m1, mIf, mAndV, mOrV, mNotV, mAndT, mOrT, mNotT, mChain, mCons, mNil, mCall, mCallN, mImm, mOwn, mTup, mLst, mLstN, mItems, mFrz, rs, im, rss, ims, ownD, argOf, argsOf, slotOf, isSlot, cellsBack, backA, mCallA, List.filterMap_cons, List.filterMap_nil, List.findIdx?_cons, List.findIdx?_nil, gEq_int, gNe_int, gLe_int, gLt_int, gGt_int, gGe_int, gAdd_int, gAddI_int, gSub_int, gNeg_int, gIx_tup, gIx_lst, gLen_tup, gLen_lst, gLen_dict, gIsN_eq, gNotN_eq, mIsi, isA, gLen_cs, hn, hn', c, a]
    · have hn' : ¬ ((ds.length : Nat) : Int) = (cs.length : Nat) := by omega
      rw [decide_eq_false hn, Bool.false_and]
      simp [m_is_stock, runFn, startE, keepO, keepA, sRet, sRetN, sRetA, sRetNone, sSeq, sIf, sNx, sDrop, sSet, sTg, tN, canSet, sSetN, Md.bind, Md.ret, Md.opt, mVar, mC, mT, m2, m1, mIf, mAndV, mOrV, mNotV, mAndT, mOrT, mNotT, mChain, mCons, mNil, mCall, mCallN, mImm, mOwn, mTup, mLst, mLstN, mItems, mFrz, rs, im, rss, ims, ownD, argOf, argsOf, slotOf, isSlot, cellsBack, backA, mCallA, List.filterMap_cons, List.filterMap_nil, List.findIdx?_cons, List.findIdx?_nil, gEq_int, gNe_int, gLe_int, gLt_int, gGt_int, gGe_int, gAdd_int, gAddI_int, gSub_int, gNeg_int, gIx_tup, gIx_lst, gLen_tup, gLen_lst, gLen_dict, gIsN_eq, gNotN_eq, mIsi, isA, gLen_cs, hn, hn']
  | _ => simp [m_is_stock, runFn, startE, keepO, keepA, sRet, sRetN, sRetA, sRetNone, sSeq, sIf, sNx, sDrop, sSet, sTg, tN, canSet, sSetN, Md.bind, Md.ret, Md.opt, mVar, mC, mT, m2, m1, mIf, mAndV, mOrV, mNotV, mAndT, mOrT, mNotT, mChain, mCons, mNil, mCall, mCallN, mImm, mOwn, mTup, mLst, mLstN, mItems, mFrz, rs, im, rss, ims, ownD, argOf, argsOf, slotOf, isSlot, cellsBack, backA, mCallA, List.filterMap_cons, List.filterMap_nil, List.findIdx?_cons, List.findIdx?_nil, mIsi, isA, numsB]
theorem coins_len {cs : List Rw} (h : Coins cs) : 1 ≤ cs.length ∧ cs.length ≤ 8 := by
  have := h.ok
  unfold coinsB at this
  simp only [Bool.and_eq_true, decide_eq_true_eq] at this
  exact this.1.1.1
/-- a purse: as many numbers as kinds, none below 0, none above hi -/
structure Purse (cs : List Rw) (hi : Int) (p : List Int) : Prop where
  len : p.length = cs.length
  low : ∀ x ∈ p, 0 ≤ x
  high : ∀ x ∈ p, x ≤ hi
theorem Purse.nums {cs : List Rw} {hi : Int} {p : List Int} (h : Purse cs hi p) : numsB cs.length hi (psD p) = true := by
  rw [numsB_ps, decide_eq_true h.len, Bool.true_and, List.all_eq_true]
  intro x m
  rw [decide_eq_true (h.low x m), decide_eq_true (h.high x m)]
  rfl
theorem Purse.good {cs : List Rw} {hi : Int} {p : List Int} (c : Coins cs) (h : Purse cs hi p) : goodD (psD p) = true := good_ps (by rw [h.len]; have := (coins_len c).2; omega)
theorem e_need_purse {cs : List Rw} {p : List Int} (c : Coins cs) (h : Purse cs (10 ^ 30) p) : m_need_purse [.imm (csD cs), .imm (psD p)] = .ok (.imm .none) [none, none] := by
  have e1 := e_need_coins c
  have e2 := e_is_stock (cs := cs) (h.good c)
  rw [h.nums] at e2
  simp [m_need_purse, runFn, startE, keepO, keepA, sRet, sRetN, sRetA, sRetNone, sSeq, sIf, sNx, sDrop, sSet, sTg, tN, canSet, sSetN, Md.bind, Md.ret, Md.opt, mVar, mC, mT, m2, m1, mIf, mAndV, mOrV, mNotV, mAndT, mOrT, mNotT, mChain, mCons, mNil, mCall, mCallN, mImm, mOwn, mTup, mLst, mLstN, mItems, mFrz, rs, im, rss, ims, ownD, argOf, argsOf, slotOf, isSlot, cellsBack, backA, mCallA, List.filterMap_cons, List.filterMap_nil, List.findIdx?_cons, List.findIdx?_nil, e1, e2]
/-! a drawn purse -/
theorem purse_turn {n : Int} {o : Own} {a1 a4 : Option A} {h : Int} {p : List Int} (hd : Dk n o) (hn : n ≤ 10000000000) (h0 : 0 ≤ h) (h1 : h < 2 ^ 150) (hl : p.length ≤ 1000) :
    ∃ (x : Int) (o' : Own), 0 ≤ x ∧ x ≤ max 1 h ∧ Dk (n + 3) o' ∧
      b__law_purse_1 [some (.own true o), a1, some (.imm (.int h)), some (.own false (.lst (p.map .int))), a4] = .ok .nx [some (.own true o'), a1, some (.imm (.int h)), some (.own false (.lst ((p ++ [x]).map .int))), a4] := by
  obtain ⟨r1, o1, r10, r11, d1, e1⟩ := e_pick hd (by omega) (s := h + 1) (by omega) (by omega)
  obtain ⟨r2, o2, r20, r21, d2, e2⟩ := e_pick d1 (by omega) (s := h + 1) (by omega) (by omega)
  obtain ⟨k, m, o3, hk, d3, e3⟩ := e_one (ds := [.int 0, .int 1, .int r1, .int r2]) d2 (by omega) (by simp) (by simp)
  have hm : ∃ v : Int, m = .int v ∧ 0 ≤ v ∧ v ≤ max 1 h := by
    match k, hk with
    | 0, hk => cases hk; exact ⟨0, rfl, by omega, by omega⟩
    | 1, hk => cases hk; exact ⟨1, rfl, by omega, by omega⟩
    | 2, hk => cases hk; exact ⟨r1, rfl, by omega, by omega⟩
    | 3, hk => cases hk; exact ⟨r2, rfl, by omega, by omega⟩
    | k + 4, hk => simp at hk
  obtain ⟨v, rfl, v0, v1⟩ := hm
  refine ⟨v, o3, v0, v1, d3.mono (by omega), ?_⟩
  have ga := gAppend_of (es := p.map PyData.int) (d := .int v) (by rw [List.length_map]; omega)
  refine (drop_eq (meth_eq (ρ' := [some (.own true o3), a1, some (.imm (.int h)), some (.own false (.lst (p.map .int))), a4]) (os := [.dat (.int v)]) rfl (cons_eq (ρ1 := [some (.own true o3), a1, some (.imm (.int h)), some (.own false (.lst (p.map .int))), a4]) ?_ nil_eq) rfl rfl ga)).trans ?_
  · simp [runFn, startE, keepO, keepA, sRet, sRetN, sRetA, sRetNone, sSeq, sIf, sNx, sDrop, sSet, sTg, tN, canSet, sSetN, Md.bind, Md.ret, Md.opt, mVar, mC, mT, m2, m1, mIf, mAndV, mOrV, mNotV, mAndT, mOrT, mNotT, mChain, mCons, mNil, mCall, mCallN, mImm, mOwn, mTup, mLst, mLstN, mItems, mFrz, rs, im, rss, ims, ownD, argOf, argsOf, slotOf, isSlot, cellsBack, backA, mCallA, List.filterMap_cons, List.filterMap_nil, List.findIdx?_cons, List.findIdx?_nil, gEq_int, gNe_int, gLe_int, gLt_int, gGt_int, gGe_int, gAdd_int, gAddI_int, gSub_int, gNeg_int, gIx_tup, gIx_lst, gLen_tup, gLen_lst, gLen_dict, gIsN_eq, gNotN_eq, lim, e1, e2, e3]
  · rw [List.map_append]
    rfl
theorem e_purse {n : Int} {o : Own} {cs : List Rw} {h : Int} (c : Coins cs) (hd : Dk n o) (hn : n ≤ 1000000000) (h0 : 0 ≤ h) (h1 : h < 2 ^ 150) :
    ∃ (p : List Int) (o' : Own), Purse cs (max 1 h) p ∧ Dk (n + 24) o' ∧ m__law_purse [.own true o, .imm (csD cs), .imm (.int h)] = .ok (.imm (psD p)) [some (.own true o'), none, none, none, none] := by
  have h8 := (coins_len c).2
  obtain ⟨ρ', e, p, o', x, q1, q2, q3, q4⟩ := forL_run (tg := tN 4) (body := b__law_purse_1) (fun i ρ => ∃ (p : List Int) (o' : Own) (x : Option D), p.length = i ∧ (∀ v ∈ p, 0 ≤ v ∧ v ≤ max 1 h) ∧ Dk (n + 3 * i) o' ∧
      ρ = [some (.own true o'), some (.imm (csD cs)), some (.imm (.int h)), some (.own false (.lst (p.map .int))), x.map .imm])
    (cs.map rwD) [some (.own true o), some (.imm (csD cs)), some (.imm (.int h)), some (.own false (.lst [])), none] ⟨[], o, none, rfl, fun v m => absurd m List.not_mem_nil, by simpa using hd, rfl⟩
    (fun i d ρ hd ⟨p, o1, x, hl, hp, dk, e⟩ => by
      subst e
      have hi := (List.getElem?_eq_some_iff.mp hd).1
      rw [List.length_map] at hi
      obtain ⟨v, o2, v0, v1, dk2, eb⟩ := purse_turn (a1 := some (.imm (csD cs))) (a4 := some (.imm d)) dk (by omega) h0 h1 (p := p) (by omega)
      refine ⟨_, _, ?_, .inl eb, p ++ [v], o2, some d, by rw [List.length_append, List.length_singleton, hl], fun w m => ?_, dk2.mono (by push_cast; omega), rfl⟩
      · cases x <;> simp [tN, canSet]
      · rcases List.mem_append.mp m with m | m
        · exact hp w m
        · rw [List.mem_singleton.mp m]; exact ⟨v0, v1⟩)
  rw [List.length_map] at q1 q3
  refine ⟨p, o', ⟨q1, fun v m => (q2 v m).1, fun v m => (q2 v m).2⟩, q3.mono (by omega), ?_⟩
  refine run_rt (.imm (psD p)) ρ' ?_ ?_
  · refine seq_nx [some (.own true o), some (.imm (csD cs)), some (.imm (.int h)), some (.own false (.lst [])), none] (by simp [runFn, startE, keepO, keepA, sRet, sRetN, sRetA, sRetNone, sSeq, sIf, sNx, sDrop, sSet, sTg, tN, canSet, sSetN, Md.bind, Md.ret, Md.opt, mVar, mC, mT, m2, m1, mIf, mAndV, mOrV, mNotV, mAndT, mOrT, mNotT, mChain, mCons, mNil, mCall, mCallN, mImm, mOwn, mTup, mLst, mLstN, mItems, mFrz, rs, im, rss, ims, ownD, argOf, argsOf, slotOf, isSlot, cellsBack, backA, mCallA, List.filterMap_cons, List.filterMap_nil, List.findIdx?_cons, List.findIdx?_nil, lim]) ?_
    refine seq_nx ρ' ((sFor_eq (ds := cs.map rwD) (ρ1 := [some (.own true o), some (.imm (csD cs)), some (.imm (.int h)), some (.own false (.lst [])), none]) ?_).trans e) ?_
    · simp [mSeq, runFn, startE, keepO, keepA, sRet, sRetN, sRetA, sRetNone, sSeq, sIf, sNx, sDrop, sSet, sTg, tN, canSet, sSetN, Md.bind, Md.ret, Md.opt, mVar, mC, mT, m2, m1, mIf, mAndV, mOrV, mNotV, mAndT, mOrT, mNotT, mChain, mCons, mNil, mCall, mCallN, mImm, mOwn, mTup, mLst, mLstN, mItems, mFrz, rs, im, rss, ims, ownD, argOf, argsOf, slotOf, isSlot, cellsBack, backA, mCallA, List.filterMap_cons, List.filterMap_nil, List.findIdx?_cons, List.findIdx?_nil, csD, items]
    · rw [q4]
      simp [runFn, startE, keepO, keepA, sRet, sRetN, sRetA, sRetNone, sSeq, sIf, sNx, sDrop, sSet, sTg, tN, canSet, sSetN, Md.bind, Md.ret, Md.opt, mVar, mC, mT, m2, m1, mIf, mAndV, mOrV, mNotV, mAndT, mOrT, mNotT, mChain, mCons, mNil, mCall, mCallN, mImm, mOwn, mTup, mLst, mLstN, mItems, mFrz, rs, im, rss, ims, ownD, argOf, argsOf, slotOf, isSlot, cellsBack, backA, mCallA, List.filterMap_cons, List.filterMap_nil, List.findIdx?_cons, List.findIdx?_nil, gTuple, psD]
  · rw [q4]
    cases x <;> simp [keepO, keepA]
end DV

set_option Elab.async false
set_option linter.all false
set_option maxRecDepth 100000
set_option maxHeartbeats 4000000
set_option autoImplicit false
/-! MxF0: data of a bearable size have a shape. -/
namespace DV
open PySem L2
mutual
theorem good_lay : ∀ (d : D), goodD d = true → PyData.canLay0 d = true
  | .none, _ => rfl
  | .bool _, _ => rfl
  | .int _, _ => rfl
  | .str z, h => (good_str h).1
  | .list ds, h => by
    show PyData.canLayAll0 ds = true
    exact goods_lay ds (by unfold goodD at h; rw [Bool.and_eq_true] at h; exact h.1)
  | .tuple ds, h => by
    show PyData.canLayAll0 ds = true
    exact goods_lay ds (by unfold goodD at h; rw [Bool.and_eq_true] at h; exact h.1)
  | .dict _, h => by simp [goodD] at h
theorem goods_lay : ∀ (ds : List D), goodDs ds = true → PyData.canLayAll0 ds = true
  | [], _ => rfl
  | d :: ds, h => by
    unfold goodDs at h
    rw [Bool.and_eq_true] at h
    show (PyData.canLay0 d && PyData.canLayAll0 ds) = true
    rw [good_lay d h.1, goods_lay ds h.2]
    rfl
end
theorem depth_mem : ∀ {ds : List D} {d : D}, d ∈ ds → d.depth ≤ PyData.depthAll ds
  | e :: ds, d, m => by
    show d.depth ≤ max e.depth (PyData.depthAll ds)
    rcases List.mem_cons.mp m with rfl | m
    · exact Nat.le_max_left _ _
    · exact Nat.le_trans (depth_mem m) (Nat.le_max_right _ _)
theorem good_shaped {d : D} (h : goodD d = true) (hd : d.depth ≤ 64) : SeqAt.shaped d = true := by
  unfold SeqAt.shaped
  rw [good_lay d h, decide_eq_true hd]
  rfl
theorem gEq_self {d : D} (h : goodD d = true) (hd : d.depth ≤ 64) : gEq d d = some (.bool true) := by
  unfold gEq
  rw [good_shaped h hd, SeqAt.eqv_refl d (good_lay d h)]
  rfl
end DV

set_option Elab.async false
set_option linter.all false
set_option maxRecDepth 100000
set_option maxHeartbeats 4000000
set_option autoImplicit false
/-! MxG: places, single changes (the law's side). -/
namespace DV
open PySem L2
theorem coins_parts {cs : List Rw} (h : Coins cs) : cs.all rowB = true ∧ risingB (cs.map (·.nm)) = true ∧ forestB cs = true := by
  have := h.ok
  unfold coinsB at this
  simp only [Bool.and_eq_true] at this
  exact ⟨this.1.1.2, this.1.2, this.2⟩
theorem coins_nodup {cs : List Rw} (h : Coins cs) : (cs.map (·.nm)).Nodup := pw_nodup (rising_pw (coins_parts h).2.1)
theorem name_ne {z : Str} (h : nameB z = true) : z ≠ "" := fun e => by
  subst e
  revert h
  decide +kernel
theorem coins_nm_ne {cs : List Rw} (h : Coins cs) {r : Rw} (m : r ∈ cs) : r.nm ≠ "" := by
  have := List.all_eq_true.mp (coins_parts h).1 r m
  unfold rowB at this
  rw [Bool.and_eq_true] at this
  exact name_ne this.1
theorem coins_mn {cs : List Rw} (h : Coins cs) {r : Rw} (m : r ∈ cs) : 0 ≤ r.mn ∧ r.mn ≤ 9 ∧ (r.up ≠ "" → 2 ≤ r.mn) ∧ (r.up = "" → r.mn = 0) := by
  have := List.all_eq_true.mp (coins_parts h).1 r m
  unfold rowB at this
  rw [Bool.and_eq_true] at this
  by_cases q : r.up = ""
  · rw [if_pos q] at this
    have := of_decide_eq_true this.2
    exact ⟨by omega, by omega, fun z => absurd q z, fun _ => this⟩
  · rw [if_neg q, Bool.and_eq_true, decide_eq_true_eq, decide_eq_true_eq] at this
    exact ⟨by omega, this.2.2, fun _ => this.2.1, fun z => absurd z q⟩
/-- the kind above is there -/
theorem coins_up {cs : List Rw} (h : Coins cs) {r : Rw} (m : r ∈ cs) (hu : r.up ≠ "") : ∃ (a : Nat) (r2 : Rw), cs[a]? = some r2 ∧ r2.nm = r.up ∧ r2.nm ≠ r.nm := by
  have f := List.all_eq_true.mp (coins_parts h).2.2 r m
  obtain ⟨k, hk⟩ : ∃ k, cs.length = k + 1 := ⟨cs.length - 1, by have := (coins_len h).1; omega⟩
  have u : up1 cs r.nm = r.up := by
    unfold up1
    rw [if_neg (coins_nm_ne h m), row_found (coins_nodup h) m]
  have loopB : r.up = r.nm → ∀ t, climb cs t r.nm = some r.nm ∨ climb cs t r.nm = none := fun e t => by
    induction t with
    | zero => exact .inl rfl
    | succ t ih =>
      unfold climb
      rw [u, e]
      split
      · exact .inr rfl
      · exact ih
  by_cases q : inN cs r.up = true
  · unfold inN at q
    cases e : rowAt cs r.up with
    | none => rw [e] at q; cases q
    | some r2 =>
      unfold rowAt at e
      have m2 := List.mem_of_find?_eq_some e
      have p : r2.nm = r.up := by simpa using List.find?_some e
      obtain ⟨a, ha⟩ := List.mem_iff_getElem?.mp m2
      refine ⟨a, r2, ha, p, fun z => ?_⟩
      rcases loopB (p.symm.trans z) cs.length with z2 | z2
      · rw [z2] at f
        exact coins_nm_ne h m (of_decide_eq_true f)
      · rw [z2] at f
        cases f
  · have : climb cs cs.length r.nm = none := by
      rw [hk]
      unfold climb
      rw [u, if_pos ⟨hu, by cases z : inN cs r.up with | true => exact absurd z q | false => rfl⟩]
    rw [this] at f
    cases f
theorem coins_texts {cs : List Rw} (h : Coins cs) {r : Rw} (m : r ∈ cs) : PyData.strOk r.nm = true ∧ PyData.strOk r.up = true := (good_rows h.good).1 r m
theorem ix_cs {cs : List Rw} {i : Nat} {r : Rw} (h : cs[i]? = some r) : gIx (csD cs) (.int (i : Nat)) = some (rwD r) := atI_at (by rw [List.getElem?_map, h]; rfl)
theorem ix_rw0 (r : Rw) : gIx (rwD r) (.int 0) = some (.str r.nm) := rfl
theorem ix_rw1 (r : Rw) : gIx (rwD r) (.int 1) = some (.int r.mn) := rfl
theorem ix_rw2 (r : Rw) : gIx (rwD r) (.int 2) = some (.str r.up) := rfl
theorem at_uniq {cs : List Rw} (nd : (cs.map (·.nm)).Nodup) {i j : Nat} {r q : Rw} (hi : cs[i]? = some r) (hj : cs[j]? = some q) (e : r.nm = q.nm) : i = j := by
  have h1 : (cs.map (·.nm))[i]? = some r.nm := by rw [List.getElem?_map, hi]; rfl
  have h2 : (cs.map (·.nm))[j]? = some r.nm := by rw [List.getElem?_map, hj, e]; rfl
  obtain ⟨l1, e1⟩ := List.getElem?_eq_some_iff.mp h1
  obtain ⟨l2, e2⟩ := List.getElem?_eq_some_iff.mp h2
  have pw := List.pairwise_iff_getElem.mp nd
  rcases Nat.lt_trichotomy i j with h | h | h
  · exact absurd (e1.trans e2.symm) (pw i j l1 l2 h)
  · exact h
  · exact absurd (e2.trans e1.symm) (pw j i l2 l1 h)
/-- the place of a kind, the law's way -/
theorem e_at {cs : List Rw} (h : Coins cs) {i : Nat} {r : Rw} (hi : cs[i]? = some r) : m__law_at [.imm (csD cs), .imm (.str r.nm)] = .ok (.imm (.int (i : Nat))) [none, none, none] := by
  have h8 := (coins_len h).2
  have e := lcL_map (vs := [2]) (tg := tN 2) (elt := x__law_at_1) (fun d => match d with
    | .tuple (x :: _) => x
    | _ => .none) [some (.imm (csD cs)), some (.imm (.str r.nm)), none] (cs.map rwD) (by rw [List.length_map]; exact Nat.le_trans h8 (by decide)) (fun d m => by
    obtain ⟨q, _, rfl⟩ := List.mem_map.mp m
    refine ⟨[some (.imm (csD cs)), some (.imm (.str r.nm)), some (.imm (rwD q))], by simp [tN, canSet], .dat (.str q.nm), [some (.imm (csD cs)), some (.imm (.str r.nm)), some (.imm (rwD q))], ?_, rfl, rfl, rfl⟩
    simp [x__law_at_1, runFn, startE, keepO, keepA, sRet, sRetN, sRetA, sRetNone, sSeq, sIf, sNx, sDrop, sSet, sTg, tN, canSet, sSetN, Md.bind, Md.ret, Md.opt, mVar, mC, mT, m2, m1, mIf, mAndV, mOrV, mNotV, mAndT, mOrT, mNotT, mChain, mCons, mNil, mCall, mCallN, mImm, mOwn, mTup, mLst, mLstN, mItems, mFrz, rs, im, rss, ims, ownD, argOf, argsOf, slotOf, isSlot, cellsBack, backA, mCallA, List.filterMap_cons, List.filterMap_nil, List.findIdx?_cons, List.findIdx?_nil, ix_rw0])
  have c : c__law_at_1 [some (.imm (csD cs)), some (.imm (.str r.nm)), none] = .ok (.lst ((cs.map (·.nm)).map .str)) [some (.imm (csD cs)), some (.imm (.str r.nm)), none] := by
    refine (mLc_eq (ds := cs.map rwD) it_tup rfl e).trans ?_
    rw [List.map_map, List.map_map]
    rfl
  have gi : gIndex (.list ((cs.map (·.nm)).map .str)) [.str r.nm] = some (.int (i : Nat)) := by
    have hm : r ∈ cs := List.mem_of_getElem? hi
    have sh : SeqAt.shaped (.list ((cs.map (·.nm)).map .str)) = true := by
      refine good_shaped ?_ ?_
      · unfold goodD
        rw [Bool.and_eq_true, goodDs_iff, decide_eq_true_eq]
        refine ⟨fun d m => ?_, by rw [List.length_map, List.length_map]; omega⟩
        obtain ⟨x, m2, rfl⟩ := List.mem_map.mp m
        obtain ⟨q, mq, rfl⟩ := List.mem_map.mp m2
        have := (good_tup ((good_rows h.good).2 q mq)).1 (.str q.nm) (by simp)
        exact this
      · have : ∀ xs : List Str, PyData.depthAll (xs.map .str) = 0 := fun xs => by
          induction xs with
          | nil => rfl
          | cons x xs ih => show max 0 (PyData.depthAll (xs.map .str)) = 0; rw [ih]; rfl
        show PyData.depthAll _ + 1 ≤ 64
        rw [this]
        omega
    have sh2 : SeqAt.shaped (.str r.nm) = true := shaped_str (coins_texts h hm).1
    show (if SeqAt.shaped (.list ((cs.map (·.nm)).map .str)) && SeqAt.shaped (.str r.nm) then (((cs.map (·.nm)).map PyData.str).findIdx? fun z => PyData.eqv z (.str r.nm)).map fun j => PyData.int (j : Nat) else none) = _
    rw [sh, sh2]
    have hn : (cs.map (·.nm))[i]? = some r.nm := by rw [List.getElem?_map, hi]; rfl
    have hl : i < cs.length := (List.getElem?_eq_some_iff.mp hi).1
    have : (((cs.map (·.nm)).map PyData.str).findIdx? fun z => PyData.eqv z (.str r.nm)) = some i := by
      rw [List.findIdx?_eq_some_iff_getElem]
      refine ⟨by rw [List.length_map, List.length_map]; exact hl, ?_, fun j hj => ?_⟩
      · rw [List.getElem_map, List.getElem_map, eqv_str]
        have := (List.getElem?_eq_some_iff.mp hi).2
        rw [this]
        exact decide_eq_true rfl
      · rw [List.getElem_map, List.getElem_map, eqv_str]
        intro z
        have z := of_decide_eq_true z
        have hj2 : cs[j]? = some cs[j] := List.getElem?_eq_getElem (by omega)
        have := at_uniq (coins_nodup h) hj2 hi z
        omega
    rw [this]
    rfl
  generalize (cs.map (·.nm)).map PyData.str = ns at c gi
  simp [m__law_at, mLook, runFn, startE, keepO, keepA, sRet, sRetN, sRetA, sRetNone, sSeq, sIf, sNx, sDrop, sSet, sTg, tN, canSet, sSetN, Md.bind, Md.ret, Md.opt, mVar, mC, mT, m2, m1, mIf, mAndV, mOrV, mNotV, mAndT, mOrT, mNotT, mChain, mCons, mNil, mCall, mCallN, mImm, mOwn, mTup, mLst, mLstN, mItems, mFrz, rs, im, rss, ims, ownD, argOf, argsOf, slotOf, isSlot, cellsBack, backA, mCallA, List.filterMap_cons, List.filterMap_nil, List.findIdx?_cons, List.findIdx?_nil, c, gi]
/-! changes -/
/-- a change of a kind that is there, into another: the place, how many -/
structure Chg (cs : List Rw) (c : Nat × Int) (r : Rw) (a : Nat) : Prop where
  at_ : cs[c.1]? = some r
  up : r.up ≠ ""
  above : ∃ r2, cs[a]? = some r2 ∧ r2.nm = r.up
  ne : a ≠ c.1
theorem chg_of {cs : List Rw} (h : Coins cs) {c : Nat × Int} {r : Rw} (hr : cs[c.1]? = some r) (hu : r.up ≠ "") : ∃ a, Chg cs c r a := by
  obtain ⟨a, r2, ha, e, ne⟩ := coins_up h (List.mem_of_getElem? hr) hu
  refine ⟨a, hr, hu, ⟨r2, ha, e⟩, fun z => ?_⟩
  subst z
  rw [hr] at ha
  have : r = r2 := Option.some.inj ha
  exact ne (by rw [this])
def gp (p : List Int) (i : Nat) : Int := p.getD i 0
def stepP (m : Int) (i a : Nat) (p : List Int) (t : Int) : List Int := (p.set i (gp p i - m * t)).set a (gp (p.set i (gp p i - m * t)) a + t)
def posB (p : List Int) : Bool := p.all fun x => decide (0 ≤ x)
def chgP (m : Int) (i a : Nat) (p : List Int) (t : Int) : Option (List Int) := if posB (stepP m i a p t) = true then some (stepP m i a p t) else none
def oD : Option (List Int) → D
  | none => .none
  | some p => psD p
theorem minL_pos : ∀ {p : List Int} {x : Int}, minL p = some x → (0 ≤ x ↔ posB p = true) := by
  have fold : ∀ (r : List Int) (x : Int), (0 ≤ r.foldl min x ↔ (0 ≤ x ∧ posB r = true)) := fun r => by
    induction r with
    | nil => intro x; simp [posB]
    | cons y r ih =>
      intro x
      rw [List.foldl_cons, ih]
      have : posB (y :: r) = (decide (0 ≤ y) && posB r) := rfl
      rw [this, Bool.and_eq_true, decide_eq_true_eq]
      constructor
      · rintro ⟨h1, h2⟩; exact ⟨by omega, by omega, h2⟩
      · rintro ⟨h1, h2, h3⟩; exact ⟨by omega, h3⟩
  intro p x h
  cases p with
  | nil => cases h
  | cons y r =>
    have h : r.foldl min y = x := Option.some.inj h
    have : posB (y :: r) = (decide (0 ≤ y) && posB r) := rfl
    rw [← h, fold, this, Bool.and_eq_true, decide_eq_true_eq]
theorem cMul_ok {i j : Int} (h1 : i.natAbs < 2 ^ 200) (h2 : j.natAbs < 2 ^ 200) : cMul i j = true := by
  have : (2 : Nat) ^ 200 ≤ 2 ^ 400000 := Nat.pow_le_pow_right (by decide) (by decide)
  exact cMul_small (Nat.lt_of_lt_of_le h1 this) (Nat.lt_of_lt_of_le h2 this)
theorem getO_at {es : List D} {i : Nat} {d : D} (h : es[i]? = some d) : getO (.lst es) (.int (i : Nat)) = some d := atI_at h
theorem putO_at {es : List D} {i : Nat} (d : D) (h : i < es.length) : putO (.lst es) (.int (i : Nat)) d = some (.lst (es.set i d)) := by
  show (ixN es.length ((i : Nat) : Int)).map (fun j => Own.lst (es.set j d)) = _
  rw [show ixN es.length ((i : Nat) : Int) = some i from ?_]
  · rfl
  · unfold ixN
    simp [h]
theorem ints_get {p : List Int} {i : Nat} (h : i < p.length) : (p.map PyData.int)[i]? = some (.int (gp p i)) := by
  unfold gp
  rw [List.getElem?_map, List.getElem?_eq_getElem h, List.getD_eq_getElem?_getD, List.getElem?_eq_getElem h]
  rfl
theorem ints_set (p : List Int) (i : Nat) (x : Int) : (p.map PyData.int).set i (.int x) = (p.set i x).map .int := List.map_set.symm
theorem stepP_len (m : Int) (i a : Nat) (p : List Int) (t : Int) : (stepP m i a p t).length = p.length := by
  unfold stepP
  rw [List.length_set, List.length_set]
theorem e_lchanged {cs : List Rw} (h : Coins cs) {p : List Int} (hl : p.length = cs.length) {i : Nat} {t : Int} {r : Rw} {a : Nat} (hc : Chg cs (i, t) r a) (ht : t.natAbs < 2 ^ 200) :
    m__law_changed [.imm (csD cs), .imm (psD p), .imm (.str r.nm), .imm (.int t)] = .ok (.imm (oD (chgP r.mn i a p t))) [none, none, none, none, none, none, none, none] := by
  obtain ⟨r2, ha, hr2⟩ := hc.above
  have hi : cs[i]? = some r := hc.at_
  have hm : r ∈ cs := List.mem_of_getElem? hi
  have e1 := e_at h hi
  have e2 := e_at h ha
  rw [hr2] at e2
  have x1 := ix_cs hi
  have hil : i < p.length := by rw [hl]; exact (List.getElem?_eq_some_iff.mp hi).1
  have hal : a < p.length := by rw [hl]; exact (List.getElem?_eq_some_iff.mp ha).1
  have mm := coins_mn h hm
  have cm : gMul (.int r.mn) (.int t) = some (.int (r.mn * t)) := gMul_int (cMul_ok (by omega) ht)
  have g1 : atI (p.map PyData.int) (i : Nat) = some (.int (gp p i)) := atI_at (ints_get hil)
  have p1 : putO (.lst (p.map .int)) (.int (i : Nat)) (.int (gp p i - r.mn * t)) = some (.lst ((p.set i (gp p i - r.mn * t)).map .int)) := by
    rw [putO_at _ (by rw [List.length_map]; exact hil), ints_set]
  generalize hq : p.set i (gp p i - r.mn * t) = q at p1
  have hql : q.length = p.length := by rw [← hq, List.length_set]
  have g2 : atI (q.map PyData.int) (a : Nat) = some (.int (gp q a)) := atI_at (ints_get (by omega))
  have p2 : putO (.lst (q.map .int)) (.int (a : Nat)) (.int (gp q a + t)) = some (.lst ((q.set a (gp q a + t)).map .int)) := by
    rw [putO_at _ (by rw [List.length_map]; omega), ints_set]
  have hstep : q.set a (gp q a + t) = stepP r.mn i a p t := by rw [← hq]; rfl
  rw [hstep] at p2
  have hsl := stepP_len r.mn i a p t
  have mn : ∃ x, minL (stepP r.mn i a p t) = some x := by
    cases e : stepP r.mn i a p t with
    | nil => rw [e] at hsl; have : 0 = p.length := hsl; omega
    | cons y ys => exact ⟨_, rfl⟩
  obtain ⟨x, hx⟩ := mn
  have px := minL_pos hx
  have gm : gMin [.list ((stepP r.mn i a p t).map .int)] = some (.int x) := by
    simp [gMin, intsD_map, hx]
  have key : (if (0 : Int) ≤ x then psD (stepP r.mn i a p t) else .none) = oD (chgP r.mn i a p t) := by
    unfold chgP
    by_cases q0 : 0 ≤ x
    · rw [if_pos q0, if_pos (px.mp q0)]; rfl
    · rw [if_neg q0, if_neg (fun z => q0 (px.mpr z))]; rfl
  rw [← key]
  generalize hS : stepP r.mn i a p t = S at *
  refine run_rt (.imm (if (0 : Int) ≤ x then psD S else .none)) [some (.imm (csD cs)), some (.imm (psD p)), some (.imm (.str r.nm)), some (.imm (.int t)), some (.imm (.int (i : Nat))), some (.imm (.int r.mn)), some (.imm (.int (a : Nat))), some (.own false (.lst (S.map .int)))] ?_ ?_
  · refine seq_nx [some (.imm (csD cs)), some (.imm (psD p)), some (.imm (.str r.nm)), some (.imm (.int t)), some (.imm (.int (i : Nat))), none, none, none] (by simp [runFn, startE, keepO, keepA, sRet, sRetN, sRetA, sRetNone, sSeq, sIf, sNx, sDrop, sSet, sTg, tN, canSet, sSetN, Md.bind, Md.ret, Md.opt, mVar, mC, mT, m2, m1, mIf, mAndV, mOrV, mNotV, mAndT, mOrT, mNotT, mChain, mCons, mNil, mCall, mCallN, mImm, mOwn, mTup, mLst, mLstN, mItems, mFrz, rs, im, rss, ims, ownD, argOf, argsOf, slotOf, isSlot, cellsBack, backA, mCallA, List.filterMap_cons, List.filterMap_nil, List.findIdx?_cons, List.findIdx?_nil, e1]) ?_
    refine seq_nx [some (.imm (csD cs)), some (.imm (psD p)), some (.imm (.str r.nm)), some (.imm (.int t)), some (.imm (.int (i : Nat))), some (.imm (.int r.mn)), some (.imm (.int (a : Nat))), none] (by simp [sPar, runFn, startE, keepO, keepA, sRet, sRetN, sRetA, sRetNone, sSeq, sIf, sNx, sDrop, sSet, sTg, tN, canSet, sSetN, Md.bind, Md.ret, Md.opt, mVar, mC, mT, m2, m1, mIf, mAndV, mOrV, mNotV, mAndT, mOrT, mNotT, mChain, mCons, mNil, mCall, mCallN, mImm, mOwn, mTup, mLst, mLstN, mItems, mFrz, rs, im, rss, ims, ownD, argOf, argsOf, slotOf, isSlot, cellsBack, backA, mCallA, List.filterMap_cons, List.filterMap_nil, List.findIdx?_cons, List.findIdx?_nil, x1, ix_rw1, ix_rw2, e2]) ?_
    refine seq_nx [some (.imm (csD cs)), some (.imm (psD p)), some (.imm (.str r.nm)), some (.imm (.int t)), some (.imm (.int (i : Nat))), some (.imm (.int r.mn)), some (.imm (.int (a : Nat))), some (.own false (.lst (p.map .int)))] (by simp [runFn, startE, keepO, keepA, sRet, sRetN, sRetA, sRetNone, sSeq, sIf, sNx, sDrop, sSet, sTg, tN, canSet, sSetN, Md.bind, Md.ret, Md.opt, mVar, mC, mT, m2, m1, mIf, mAndV, mOrV, mNotV, mAndT, mOrT, mNotT, mChain, mCons, mNil, mCall, mCallN, mImm, mOwn, mTup, mLst, mLstN, mItems, mFrz, rs, im, rss, ims, ownD, argOf, argsOf, slotOf, isSlot, cellsBack, backA, mCallA, List.filterMap_cons, List.filterMap_nil, List.findIdx?_cons, List.findIdx?_nil, gList, psD]) ?_
    refine seq_nx [some (.imm (csD cs)), some (.imm (psD p)), some (.imm (.str r.nm)), some (.imm (.int t)), some (.imm (.int (i : Nat))), some (.imm (.int r.mn)), some (.imm (.int (a : Nat))), some (.own false (.lst (q.map .int)))] ?_ ?_
    · simp [sPut, runFn, startE, keepO, keepA, sRet, sRetN, sRetA, sRetNone, sSeq, sIf, sNx, sDrop, sSet, sTg, tN, canSet, sSetN, Md.bind, Md.ret, Md.opt, mVar, mC, mT, m2, m1, mIf, mAndV, mOrV, mNotV, mAndT, mOrT, mNotT, mChain, mCons, mNil, mCall, mCallN, mImm, mOwn, mTup, mLst, mLstN, mItems, mFrz, rs, im, rss, ims, ownD, argOf, argsOf, slotOf, isSlot, cellsBack, backA, mCallA, List.filterMap_cons, List.filterMap_nil, List.findIdx?_cons, List.findIdx?_nil, gIx_lst, g1, gSub_int, cm, p1]
    refine seq_nx [some (.imm (csD cs)), some (.imm (psD p)), some (.imm (.str r.nm)), some (.imm (.int t)), some (.imm (.int (i : Nat))), some (.imm (.int r.mn)), some (.imm (.int (a : Nat))), some (.own false (.lst (S.map .int)))] ?_ ?_
    · simp [sPut, runFn, startE, keepO, keepA, sRet, sRetN, sRetA, sRetNone, sSeq, sIf, sNx, sDrop, sSet, sTg, tN, canSet, sSetN, Md.bind, Md.ret, Md.opt, mVar, mC, mT, m2, m1, mIf, mAndV, mOrV, mNotV, mAndT, mOrT, mNotT, mChain, mCons, mNil, mCall, mCallN, mImm, mOwn, mTup, mLst, mLstN, mItems, mFrz, rs, im, rss, ims, ownD, argOf, argsOf, slotOf, isSlot, cellsBack, backA, mCallA, List.filterMap_cons, List.filterMap_nil, List.findIdx?_cons, List.findIdx?_nil, gIx_lst, g2, gAdd_int, p2]
    by_cases q0 : 0 ≤ x
    · simp [runFn, startE, keepO, keepA, sRet, sRetN, sRetA, sRetNone, sSeq, sIf, sNx, sDrop, sSet, sTg, tN, canSet, sSetN, Md.bind, Md.ret, Md.opt, mVar, mC, mT, m2, m1, mIf, mAndV, mOrV, mNotV, mAndT, mOrT, mNotT, mChain, mCons, mNil, mCall, mCallN, mImm, mOwn, mTup, mLst, mLstN, mItems, mFrz, rs, im, rss, ims, ownD, argOf, argsOf, slotOf, isSlot, cellsBack, backA, mCallA, List.filterMap_cons, List.filterMap_nil, List.findIdx?_cons, List.findIdx?_nil, gm, gGe_int, q0, gTuple, psD]
    · simp [runFn, startE, keepO, keepA, sRet, sRetN, sRetA, sRetNone, sSeq, sIf, sNx, sDrop, sSet, sTg, tN, canSet, sSetN, Md.bind, Md.ret, Md.opt, mVar, mC, mT, m2, m1, mIf, mAndV, mOrV, mNotV, mAndT, mOrT, mNotT, mChain, mCons, mNil, mCall, mCallN, mImm, mOwn, mTup, mLst, mLstN, mItems, mFrz, rs, im, rss, ims, ownD, argOf, argsOf, slotOf, isSlot, cellsBack, backA, mCallA, List.filterMap_cons, List.filterMap_nil, List.findIdx?_cons, List.findIdx?_nil, gm, gGe_int, q0]
  · simp [keepO, keepA]
end DV

set_option Elab.async false
set_option linter.all false
set_option maxRecDepth 100000
set_option maxHeartbeats 4000000
set_option autoImplicit false
/-! MxH: changes, the program's side. -/
namespace DV
open PySem L2
theorem posB_iff {p : List Int} : posB p = true ↔ ∀ x ∈ p, 0 ≤ x := by
  unfold posB
  rw [List.all_eq_true]
  exact ⟨fun h x m => of_decide_eq_true (h x m), fun h x m => decide_eq_true (h x m)⟩
theorem gp_mem {p : List Int} {i : Nat} (h : i < p.length) : gp p i ∈ p := by
  unfold gp
  rw [List.getD_eq_getElem?_getD, List.getElem?_eq_getElem h]
  exact List.getElem_mem h
theorem gp_set_same {p : List Int} {i : Nat} {x : Int} (h : i < p.length) : gp (p.set i x) i = x := by
  unfold gp
  rw [List.getD_eq_getElem?_getD, List.getElem?_set_self h]
  rfl
theorem gp_set_ne {p : List Int} {i j : Nat} {x : Int} (h : i ≠ j) : gp (p.set i x) j = gp p j := by
  unfold gp
  rw [List.getD_eq_getElem?_getD, List.getElem?_set_ne h, List.getD_eq_getElem?_getD]
theorem pos_step {m : Int} {i a : Nat} {p : List Int} {t : Int} (hp : ∀ x ∈ p, 0 ≤ x) (hi : i < p.length) (ha : a < p.length) (ne : a ≠ i) :
    posB (stepP m i a p t) = (decide (0 ≤ gp (stepP m i a p t) i) && decide (0 ≤ gp (stepP m i a p t) a)) := by
  have hl := stepP_len m i a p t
  by_cases q : 0 ≤ gp (stepP m i a p t) i ∧ 0 ≤ gp (stepP m i a p t) a
  · rw [decide_eq_true q.1, decide_eq_true q.2]
    refine posB_iff.mpr fun x mx => ?_
    obtain ⟨j, hj⟩ := List.mem_iff_getElem?.mp mx
    have hjl := (List.getElem?_eq_some_iff.mp hj).1
    have gx : gp (stepP m i a p t) j = x := by
      unfold gp
      rw [List.getD_eq_getElem?_getD, hj]
      rfl
    by_cases h1 : j = i
    · subst h1; rw [← gx]; exact q.1
    · by_cases h2 : j = a
      · subst h2; rw [← gx]; exact q.2
      · have : gp (stepP m i a p t) j = gp p j := by
          unfold stepP
          rw [gp_set_ne (fun e => h2 e.symm), gp_set_ne (fun e => h1 e.symm)]
        rw [← gx, this]
        exact hp _ (gp_mem (by omega))
  · have nb : posB (stepP m i a p t) = false := by
      cases e : posB (stepP m i a p t) with
      | false => rfl
      | true =>
        have := posB_iff.mp e
        exact absurd ⟨this _ (gp_mem (by omega)), this _ (gp_mem (by omega))⟩ q
    rw [nb]
    by_cases h1 : 0 ≤ gp (stepP m i a p t) i
    · have h2 : ¬ 0 ≤ gp (stepP m i a p t) a := fun z => q ⟨h1, z⟩
      rw [decide_eq_false h2, Bool.and_false]
    · rw [decide_eq_false h1, Bool.false_and]
def chD (cs : List Rw) (c : Nat × Int) : D := match cs[c.1]? with
  | some r => .tuple [.str r.nm, .int c.2]
  | none => .none
theorem chD_at {cs : List Rw} {i : Nat} {t : Int} {r : Rw} (h : cs[i]? = some r) : chD cs (i, t) = .tuple [.str r.nm, .int t] := by
  unfold chD
  rw [h]
end DV

set_option Elab.async false
set_option linter.all false
set_option maxRecDepth 100000
set_option maxHeartbeats 4000000
set_option autoImplicit false
/-! MxI: rows of changes, done one by one. -/
namespace DV
open PySem L2
def chgO (cs : List Rw) (p : List Int) (c : Nat × Int) : Option (List Int) := match cs[c.1]? with
  | some r => match cs.findIdx? fun q => decide (q.nm = r.up) with
    | some a => chgP r.mn c.1 a p c.2
    | none => none
  | none => none
theorem chgO_eq {cs : List Rw} (h : Coins cs) {p : List Int} {c : Nat × Int} {r : Rw} {a : Nat} (hc : Chg cs c r a) : chgO cs p c = chgP r.mn c.1 a p c.2 := by
  obtain ⟨r2, ha, e⟩ := hc.above
  have f : (cs.findIdx? fun q => decide (q.nm = r.up)) = some a := by
    rw [List.findIdx?_eq_some_iff_getElem]
    obtain ⟨hl, he⟩ := List.getElem?_eq_some_iff.mp ha
    refine ⟨hl, by rw [he]; exact decide_eq_true e, fun j hj z => ?_⟩
    have z := of_decide_eq_true z
    have hj2 : cs[j]? = some cs[j] := List.getElem?_eq_getElem (by omega)
    have := at_uniq (coins_nodup h) hj2 ha (z.trans e.symm)
    omega
  unfold chgO
  rw [hc.at_]
  simp only [f]
/-- a row of changes that can be asked for -/
def OkRow (cs : List Rw) (L : List (Nat × Int)) : Prop := ∀ c ∈ L, (∃ r a, Chg cs c r a) ∧ c.2.natAbs < 2 ^ 200
theorem OkRow.tail {cs : List Rw} {c : Nat × Int} {L : List (Nat × Int)} (h : OkRow cs (c :: L)) : OkRow cs L := fun x m => h x (.tail _ m)
def rowsD (cs : List Rw) (L : List (Nat × Int)) : D := .list (L.map (chD cs))
def doneO (cs : List Rw) (o : Option (List Int)) (L : List (Nat × Int)) : Option (List Int) := L.foldl (fun o c => o.bind fun p => chgO cs p c) o
/-- a purse that may be none -/
def OkP (cs : List Rw) (o : Option (List Int)) : Prop := ∀ p, o = some p → p.length = cs.length ∧ ∀ x ∈ p, 0 ≤ x
theorem chgP_ok {cs : List Rw} {m : Int} {i a : Nat} {p : List Int} {t : Int} (hl : p.length = cs.length) : OkP cs (chgP m i a p t) := fun q e => by
  unfold chgP at e
  split at e
  · rename_i z
    cases e
    exact ⟨by rw [stepP_len]; exact hl, posB_iff.mp z⟩
  · cases e
theorem chgO_ok {cs : List Rw} {p : List Int} {c : Nat × Int} (hl : p.length = cs.length) : OkP cs (chgO cs p c) := fun q e => by
  unfold chgO at e
  split at e
  · split at e
    · exact chgP_ok hl q e
    · cases e
  · cases e
theorem OkP.step {cs : List Rw} {o : Option (List Int)} (h : OkP cs o) (c : Nat × Int) : OkP cs (o.bind fun p => chgO cs p c) := fun q e => by
  cases o with
  | none => cases e
  | some p => exact chgO_ok (h p rfl).1 q e
theorem doneO_ok {cs : List Rw} : ∀ (L : List (Nat × Int)) (o : Option (List Int)), OkP cs o → OkP cs (doneO cs o L)
  | [], _, h => h
  | c :: L, o, h => doneO_ok L _ (h.step c)
theorem isNone_oD (o : Option (List Int)) : isNone (oD o) = o.isNone := by cases o <;> rfl
theorem doneO_none (cs : List Rw) : ∀ L : List (Nat × Int), doneO cs none L = none
  | [] => rfl
  | _ :: L => doneO_none cs L
theorem ldone_loop {cs : List Rw} (h : Coins cs) {a2 : Option A} : ∀ (L : List (Nat × Int)) (o : Option (List Int)) (x y : Option D), OkRow cs L → OkP cs o →
    ∃ x' y' : Option D, forL (tTupT 2 (tsCons (tN 3) (tsCons (tN 4) tsNil))) b__law_done_1 (L.map (chD cs)) [some (.imm (csD cs)), some (.imm (oD o)), a2, x.map .imm, y.map .imm] = .ok .nx [some (.imm (csD cs)), some (.imm (oD (doneO cs o L))), a2, x'.map .imm, y'.map .imm]
  | [], o, x, y, _, _ => ⟨x, y, rfl⟩
  | (i, t) :: L, o, x, y, hr, hp => by
    obtain ⟨⟨r, a, hc⟩, ht⟩ := hr (i, t) (.head _)
    have hi : cs[i]? = some r := hc.at_
    have t1 : tTupT 2 (tsCons (tN 3) (tsCons (tN 4) tsNil)) (chD cs (i, t)) [some (.imm (csD cs)), some (.imm (oD o)), a2, x.map .imm, y.map .imm] = some [some (.imm (csD cs)), some (.imm (oD o)), a2, some (.imm (.str r.nm)), some (.imm (.int t))] := by
      rw [chD_at hi]
      cases x <;> cases y <;> simp [tTupT, tsCons, tsNil, tN, canSet]
    have bd : b__law_done_1 [some (.imm (csD cs)), some (.imm (oD o)), a2, some (.imm (.str r.nm)), some (.imm (.int t))] = .ok .nx [some (.imm (csD cs)), some (.imm (oD (o.bind fun p => chgO cs p (i, t)))), a2, some (.imm (.str r.nm)), some (.imm (.int t))] := by
      cases o with
      | none => simp [b__law_done_1, runFn, startE, keepO, keepA, sRet, sRetN, sRetA, sRetNone, sSeq, sIf, sNx, sDrop, sSet, sTg, tN, canSet, sSetN, Md.bind, Md.ret, Md.opt, mVar, mC, mT, m2, m1, mIf, mAndV, mOrV, mNotV, mAndT, mOrT, mNotT, mChain, mCons, mNil, mCall, mCallN, mImm, mOwn, mTup, mLst, mLstN, mItems, mFrz, rs, im, rss, ims, ownD, argOf, argsOf, slotOf, isSlot, cellsBack, backA, mCallA, List.filterMap_cons, List.filterMap_nil, List.findIdx?_cons, List.findIdx?_nil, gNotN_eq, oD, isNone]
      | some p =>
        have e := e_lchanged h (hp p rfl).1 hc ht
        have eo : (some p).bind (fun p => chgO cs p (i, t)) = chgP r.mn i a p t := chgO_eq h hc
        rw [eo]
        generalize chgP r.mn i a p t = w at e
        have e2 : m__law_changed [.imm (csD cs), .imm (oD (some p)), .imm (.str r.nm), .imm (.int t)] = .ok (.imm (oD w)) [none, none, none, none, none, none, none, none] := e
        have n0 : isNone (oD (some p)) = false := rfl
        generalize oD (some p) = P at e2 n0
        simp [b__law_done_1, runFn, startE, keepO, keepA, sRet, sRetN, sRetA, sRetNone, sSeq, sIf, sNx, sDrop, sSet, sTg, tN, canSet, sSetN, Md.bind, Md.ret, Md.opt, mVar, mC, mT, m2, m1, mIf, mAndV, mOrV, mNotV, mAndT, mOrT, mNotT, mChain, mCons, mNil, mCall, mCallN, mImm, mOwn, mTup, mLst, mLstN, mItems, mFrz, rs, im, rss, ims, ownD, argOf, argsOf, slotOf, isSlot, cellsBack, backA, mCallA, List.filterMap_cons, List.filterMap_nil, List.findIdx?_cons, List.findIdx?_nil, gNotN_eq, n0, e2]
    obtain ⟨x', y', ih⟩ := ldone_loop h (a2 := a2) L (o.bind fun p => chgO cs p (i, t)) (some (.str r.nm)) (some (.int t)) hr.tail (hp.step _)
    refine ⟨x', y', ?_⟩
    rw [List.map_cons]
    simp only [forL, t1, bd]
    exact ih
theorem e_ldone {cs : List Rw} (h : Coins cs) {L : List (Nat × Int)} {o : Option (List Int)} (hr : OkRow cs L) (hp : OkP cs o) :
    m__law_done [.imm (csD cs), .imm (oD o), .imm (rowsD cs L)] = .ok (.imm (oD (doneO cs o L))) [none, none, none, none, none] := by
  obtain ⟨x, y, e⟩ := ldone_loop h (a2 := some (.imm (rowsD cs L))) L o none none hr hp
  refine run_rt (.imm (oD (doneO cs o L))) [some (.imm (csD cs)), some (.imm (oD (doneO cs o L))), some (.imm (rowsD cs L)), x.map .imm, y.map .imm] (seq_nx [some (.imm (csD cs)), some (.imm (oD (doneO cs o L))), some (.imm (rowsD cs L)), x.map .imm, y.map .imm] ((sFor_eq (ds := L.map (chD cs)) (ρ1 := [some (.imm (csD cs)), some (.imm (oD o)), some (.imm (rowsD cs L)), none, none]) ?_).trans e) ?_) ?_
  · simp [mSeq, runFn, startE, keepO, keepA, sRet, sRetN, sRetA, sRetNone, sSeq, sIf, sNx, sDrop, sSet, sTg, tN, canSet, sSetN, Md.bind, Md.ret, Md.opt, mVar, mC, mT, m2, m1, mIf, mAndV, mOrV, mNotV, mAndT, mOrT, mNotT, mChain, mCons, mNil, mCall, mCallN, mImm, mOwn, mTup, mLst, mLstN, mItems, mFrz, rs, im, rss, ims, ownD, argOf, argsOf, slotOf, isSlot, cellsBack, backA, mCallA, List.filterMap_cons, List.filterMap_nil, List.findIdx?_cons, List.findIdx?_nil, rowsD, items]
  · simp [runFn, startE, keepO, keepA, sRet, sRetN, sRetA, sRetNone, sSeq, sIf, sNx, sDrop, sSet, sTg, tN, canSet, sSetN, Md.bind, Md.ret, Md.opt, mVar, mC, mT, m2, m1, mIf, mAndV, mOrV, mNotV, mAndT, mOrT, mNotT, mChain, mCons, mNil, mCall, mCallN, mImm, mOwn, mTup, mLst, mLstN, mItems, mFrz, rs, im, rss, ims, ownD, argOf, argsOf, slotOf, isSlot, cellsBack, backA, mCallA, List.filterMap_cons, List.filterMap_nil, List.findIdx?_cons, List.findIdx?_nil]
  · cases x <;> cases y <;> simp [keepO, keepA]
/-! what the program asks of a row -/
def fitT (t : Int) : Prop := -(10 ^ 31) ≤ t ∧ t ≤ 10 ^ 31 ∧ t ≠ 0
def FitRow (cs : List Rw) (L : List (Nat × Int)) : Prop := L.length ≤ 60 ∧ ∀ c ∈ L, (∃ r a, Chg cs c r a) ∧ fitT c.2
theorem FitRow.ok {cs : List Rw} {L : List (Nat × Int)} (h : FitRow cs L) : OkRow cs L := fun c m => by
  obtain ⟨a, b, d, _⟩ := h.2 c m
  exact ⟨a, by omega⟩
end DV

set_option Elab.async false
set_option linter.all false
set_option maxRecDepth 100000
set_option maxHeartbeats 4000000
set_option autoImplicit false
/-! MxJ: drawn rows of changes; what they cost. -/
namespace DV
open PySem L2
/-- a comprehension over what is made of a list -/
theorem lcL_of {α : Type} {vs : List Nat} {tg : D → Env → Option Env} {elt : Md Opd} (g f : α → D) (ρ : Env) (L : List α) (hl : L.length ≤ lim)
    (h : ∀ c ∈ L, ∃ ρ1, tg (g c) ρ = some ρ1 ∧ ∃ o ρ3, elt ρ1 = .ok o ρ3 ∧ im ρ3 o = some (f c) ∧ vs.all (noOwn ρ3) = true ∧ wipeE ρ3 vs = ρ) :
    lcL vs tg (Md.ret true) elt (L.map g) [] ρ = .ok (L.map f) ρ := by
  obtain ⟨acc', ρ', e, h1, h2⟩ := lcL_run (vs := vs) (tg := tg) (test := Md.ret true) (elt := elt) (fun i acc ρ' => ρ' = ρ ∧ acc = (L.take i).map f) (L.map g) 0 [] ρ ⟨rfl, by simp⟩ (fun i d acc ρ' hd ⟨hi, ha⟩ => by
    subst hi
    rw [Nat.zero_add] at ha ⊢
    rw [List.getElem?_map] at hd
    cases e : L[i]? with
    | none => rw [e] at hd; cases hd
    | some c =>
      rw [e] at hd
      have hd : g c = d := Option.some.inj hd
      subst hd
      have hm := List.mem_of_getElem? e
      have hlt := (List.getElem?_eq_some_iff.mp e).1
      obtain ⟨ρ1, a, o, ρ3, x, y, z, w⟩ := h c hm
      refine ⟨ρ1, ρ1, a, .inr ⟨rfl, o, ρ3, f c, x, y, ?_, z, w, ?_⟩⟩
      · rw [ha, List.length_map, List.length_take]
        omega
      · obtain ⟨hl2, e2⟩ := List.getElem?_eq_some_iff.mp e
        rw [List.take_succ_eq_append_getElem hl2, e2, List.map_append, ha]
        rfl)
  rw [e, h1, h2, Nat.zero_add, List.length_map, List.take_length]
def ab (t : Int) : Int := if t < 0 then -t else t
def costL (f : List Int) (L : List (Nat × Int)) : Int := (L.map fun c => gp f c.1 * ab c.2).sum
theorem gAbs_int (t : Int) : gAbs [.int t] = some (.int (ab t)) := rfl
theorem gSum_ints (xs : List Int) : gSum [.list (xs.map .int)] = some (.int xs.sum) := by
  show (intsD (xs.map .int)).map (fun ns => PyData.int ns.sum) = _
  rw [intsD_map]
  rfl
theorem gMul_small {x y : Int} (hx : x.natAbs < 2 ^ 200) (hy : y.natAbs < 2 ^ 200) : gMul (.int x) (.int y) = some (.int (x * y)) := gMul_int (cMul_ok hx hy)
theorem ab_small {t : Int} (h : t.natAbs < 2 ^ 200) : (ab t).natAbs < 2 ^ 200 := by
  unfold ab
  split
  · rw [Int.natAbs_neg]; exact h
  · exact h
theorem fees_gp {cs : List Rw} {f : List Int} (hf : Purse cs 99 f) {i : Nat} (h : i < cs.length) : (gp f i).natAbs < 2 ^ 200 := by
  have m := gp_mem (p := f) (i := i) (by rw [hf.len]; exact h)
  have h1 := hf.low _ m
  have h2 := hf.high _ m
  omega
theorem ix_ps {p : List Int} {i : Nat} (h : i < p.length) : gIx (psD p) (.int (i : Nat)) = some (.int (gp p i)) := atI_at (ints_get h)
/-! single changes that can be done -/
def Single (cs : List Rw) (p : List Int) (c : Nat × Int) : Prop := (∃ r a, Chg cs c r a) ∧ (c.2 = 1 ∨ c.2 = -1) ∧ (chgO cs p c).isSome = true
theorem singles_in {cs : List Rw} (h : Coins cs) {p : List Int} (hl : p.length = cs.length) {i : Nat} {r : Rw} (hi : cs[i]? = some r) {w : Int} (hw : w = 1 ∨ w = -1) {L : List (Nat × Int)} (hL : L.length ≤ 1000) (hs : ∀ c ∈ L, Single cs p c) :
    ∃ L', (L' = L ∨ L' = L ++ [(i, w)]) ∧ (∀ c ∈ L', Single cs p c) ∧
      b__law_singles_1 [some (.imm (csD cs)), some (.imm (psD p)), some (.own false (.lst (L.map (chD cs)))), some (.imm (rwD r)), some (.imm (.int w))] = .ok .nx [some (.imm (csD cs)), some (.imm (psD p)), some (.own false (.lst (L'.map (chD cs)))), some (.imm (rwD r)), some (.imm (.int w))] := by
  have hm := List.mem_of_getElem? hi
  have n1 : gNe (.str r.up) (.str "") = some (.bool (!decide (r.up = ""))) := gNe_str (coins_texts h hm).2 strOk_nil
  by_cases hu : r.up = ""
  · refine ⟨L, .inl rfl, hs, ?_⟩
    rw [decide_eq_true hu] at n1
    simp [b__law_singles_1, runFn, startE, keepO, keepA, sRet, sRetN, sRetA, sRetNone, sSeq, sIf, sNx, sDrop, sSet, sTg, tN, canSet, sSetN, Md.bind, Md.ret, Md.opt, mVar, mC, mT, m2, m1, mIf, mAndV, mOrV, mNotV, mAndT, mOrT, mNotT, mChain, mCons, mNil, mCall, mCallN, mImm, mOwn, mTup, mLst, mLstN, mItems, mFrz, rs, im, rss, ims, ownD, argOf, argsOf, slotOf, isSlot, cellsBack, backA, mCallA, List.filterMap_cons, List.filterMap_nil, List.findIdx?_cons, List.findIdx?_nil, ix_rw2, n1]
  · rw [decide_eq_false hu] at n1
    obtain ⟨a, hc⟩ := chg_of h (c := (i, w)) hi hu
    have e := e_lchanged h hl hc (by rcases hw with rfl | rfl <;> decide)
    have eo := chgO_eq h (p := p) hc
    have eo : chgO cs p (i, w) = chgP r.mn i a p w := eo
    rw [← eo] at e
    cases q : chgO cs p (i, w) with
    | none =>
      refine ⟨L, .inl rfl, hs, ?_⟩
      rw [q] at e
      have e : m__law_changed [.imm (csD cs), .imm (psD p), .imm (.str r.nm), .imm (.int w)] = .ok (.imm .none) [none, none, none, none, none, none, none, none] := e
      simp [b__law_singles_1, runFn, startE, keepO, keepA, sRet, sRetN, sRetA, sRetNone, sSeq, sIf, sNx, sDrop, sSet, sTg, tN, canSet, sSetN, Md.bind, Md.ret, Md.opt, mVar, mC, mT, m2, m1, mIf, mAndV, mOrV, mNotV, mAndT, mOrT, mNotT, mChain, mCons, mNil, mCall, mCallN, mImm, mOwn, mTup, mLst, mLstN, mItems, mFrz, rs, im, rss, ims, ownD, argOf, argsOf, slotOf, isSlot, cellsBack, backA, mCallA, List.filterMap_cons, List.filterMap_nil, List.findIdx?_cons, List.findIdx?_nil, ix_rw2, ix_rw0, n1, e, gNotN_eq, isNone]
    | some z =>
      rw [q] at e
      refine ⟨L ++ [(i, w)], .inr rfl, fun c m => ?_, ?_⟩
      · rcases List.mem_append.mp m with m | m
        · exact hs c m
        · rw [List.mem_singleton.mp m]
          exact ⟨⟨r, a, hc⟩, hw, by rw [q]; rfl⟩
      · have e : m__law_changed [.imm (csD cs), .imm (psD p), .imm (.str r.nm), .imm (.int w)] = .ok (.imm (psD z)) [none, none, none, none, none, none, none, none] := e
        have nz : isNone (psD z) = false := rfl
        have ga := gAppend_of (es := L.map (chD cs)) (d := .tuple [.str r.nm, .int w]) (by rw [List.length_map]; omega)
        generalize psD z = Z at e nz
        refine (sIf_t (ρ1 := [some (.imm (csD cs)), some (.imm (psD p)), some (.own false (.lst (L.map (chD cs)))), some (.imm (rwD r)), some (.imm (.int w))]) ?_).trans ?_
        · simp [runFn, startE, keepO, keepA, sRet, sRetN, sRetA, sRetNone, sSeq, sIf, sNx, sDrop, sSet, sTg, tN, canSet, sSetN, Md.bind, Md.ret, Md.opt, mVar, mC, mT, m2, m1, mIf, mAndV, mOrV, mNotV, mAndT, mOrT, mNotT, mChain, mCons, mNil, mCall, mCallN, mImm, mOwn, mTup, mLst, mLstN, mItems, mFrz, rs, im, rss, ims, ownD, argOf, argsOf, slotOf, isSlot, cellsBack, backA, mCallA, List.filterMap_cons, List.filterMap_nil, List.findIdx?_cons, List.findIdx?_nil, ix_rw2, ix_rw0, n1, e, gNotN_eq, nz]
        · refine (drop_eq (meth_eq (ρ' := [some (.imm (csD cs)), some (.imm (psD p)), some (.own false (.lst (L.map (chD cs)))), some (.imm (rwD r)), some (.imm (.int w))]) (os := [.dat (.tuple [.str r.nm, .int w])]) rfl (cons_eq (ρ1 := [some (.imm (csD cs)), some (.imm (psD p)), some (.own false (.lst (L.map (chD cs)))), some (.imm (rwD r)), some (.imm (.int w))]) ?_ nil_eq) rfl rfl ga)).trans ?_
          · simp [runFn, startE, keepO, keepA, sRet, sRetN, sRetA, sRetNone, sSeq, sIf, sNx, sDrop, sSet, sTg, tN, canSet, sSetN, Md.bind, Md.ret, Md.opt, mVar, mC, mT, m2, m1, mIf, mAndV, mOrV, mNotV, mAndT, mOrT, mNotT, mChain, mCons, mNil, mCall, mCallN, mImm, mOwn, mTup, mLst, mLstN, mItems, mFrz, rs, im, rss, ims, ownD, argOf, argsOf, slotOf, isSlot, cellsBack, backA, mCallA, List.filterMap_cons, List.filterMap_nil, List.findIdx?_cons, List.findIdx?_nil, lim, ix_rw0]
          · rw [List.map_append, List.map_singleton, chD_at hi]
            rfl
theorem e_singles {cs : List Rw} (h : Coins cs) {p : List Int} (hl : p.length = cs.length) : ∃ L : List (Nat × Int), L.length ≤ 16 ∧ (∀ c ∈ L, Single cs p c) ∧ m__law_singles [.imm (csD cs), .imm (psD p)] = .ok (.own false (.lst (L.map (chD cs)))) [none, none, none, none, none] := by
  have h8 := (coins_len h).2
  obtain ⟨ρ', e, L, x, y, q1, q2, q3⟩ := forL_run (tg := tN 3) (body := b__law_singles_2) (fun i ρ => ∃ (L : List (Nat × Int)) (x y : Option D), L.length ≤ 2 * i ∧ (∀ c ∈ L, Single cs p c) ∧ ρ = [some (.imm (csD cs)), some (.imm (psD p)), some (.own false (.lst (L.map (chD cs)))), x.map .imm, y.map .imm])
    (cs.map rwD) [some (.imm (csD cs)), some (.imm (psD p)), some (.own false (.lst [])), none, none] ⟨[], none, none, Nat.le_refl _, fun c m => absurd m List.not_mem_nil, rfl⟩
    (fun i d ρ hd ⟨L, x, y, hL, hs, e⟩ => by
      subst e
      rw [List.getElem?_map] at hd
      cases hi : cs[i]? with
      | none => rw [hi] at hd; cases hd
      | some r =>
        rw [hi] at hd
        have hd : rwD r = d := Option.some.inj hd
        subst hd
        have hil := (List.getElem?_eq_some_iff.mp hi).1
        obtain ⟨L1, l1, s1, b1⟩ := singles_in h hl hi (w := -1) (.inr rfl) (L := L) (by omega) hs
        have hL1 : L1.length ≤ L.length + 1 := by rcases l1 with rfl | rfl <;> simp
        obtain ⟨L2, l2, s2, b2⟩ := singles_in h hl hi (w := 1) (.inl rfl) (L := L1) (by omega) s1
        have hL2 : L2.length ≤ L1.length + 1 := by rcases l2 with rfl | rfl <;> simp
        refine ⟨[some (.imm (csD cs)), some (.imm (psD p)), some (.own false (.lst (L.map (chD cs)))), some (.imm (rwD r)), y.map .imm], [some (.imm (csD cs)), some (.imm (psD p)), some (.own false (.lst (L2.map (chD cs)))), some (.imm (rwD r)), some (.imm (.int 1))], by cases x <;> simp [tN, canSet], .inl ?_, L2, some (rwD r), some (.int 1), by omega, s2, rfl⟩
        unfold b__law_singles_2 l__law_singles_1
        refine (sFor_eq (ds := [.int (-1), .int 1]) (ρ1 := [some (.imm (csD cs)), some (.imm (psD p)), some (.own false (.lst (L.map (chD cs)))), some (.imm (rwD r)), y.map .imm]) ?_).trans ?_
        · simp [mSeq, runFn, startE, keepO, keepA, sRet, sRetN, sRetA, sRetNone, sSeq, sIf, sNx, sDrop, sSet, sTg, tN, canSet, sSetN, Md.bind, Md.ret, Md.opt, mVar, mC, mT, m2, m1, mIf, mAndV, mOrV, mNotV, mAndT, mOrT, mNotT, mChain, mCons, mNil, mCall, mCallN, mImm, mOwn, mTup, mLst, mLstN, mItems, mFrz, rs, im, rss, ims, ownD, argOf, argsOf, slotOf, isSlot, cellsBack, backA, mCallA, List.filterMap_cons, List.filterMap_nil, List.findIdx?_cons, List.findIdx?_nil, gNeg_int, lim, items]
        · have t1 : tN 4 (.int (-1)) [some (.imm (csD cs)), some (.imm (psD p)), some (.own false (.lst (L.map (chD cs)))), some (.imm (rwD r)), y.map .imm] = some [some (.imm (csD cs)), some (.imm (psD p)), some (.own false (.lst (L.map (chD cs)))), some (.imm (rwD r)), some (.imm (.int (-1)))] := by
            cases y <;> simp [tN, canSet]
          have t2 : tN 4 (.int 1) [some (.imm (csD cs)), some (.imm (psD p)), some (.own false (.lst (L1.map (chD cs)))), some (.imm (rwD r)), some (.imm (.int (-1)))] = some [some (.imm (csD cs)), some (.imm (psD p)), some (.own false (.lst (L1.map (chD cs)))), some (.imm (rwD r)), some (.imm (.int 1))] := by
            simp [tN, canSet]
          simp only [forL, t1, b1, t2, b2])
  rw [List.length_map] at q1
  refine ⟨L, by omega, q2, ?_⟩
  refine run_rt (.own false (.lst (L.map (chD cs)))) ρ' ?_ ?_
  · refine seq_nx [some (.imm (csD cs)), some (.imm (psD p)), some (.own false (.lst [])), none, none] (by simp [runFn, startE, keepO, keepA, sRet, sRetN, sRetA, sRetNone, sSeq, sIf, sNx, sDrop, sSet, sTg, tN, canSet, sSetN, Md.bind, Md.ret, Md.opt, mVar, mC, mT, m2, m1, mIf, mAndV, mOrV, mNotV, mAndT, mOrT, mNotT, mChain, mCons, mNil, mCall, mCallN, mImm, mOwn, mTup, mLst, mLstN, mItems, mFrz, rs, im, rss, ims, ownD, argOf, argsOf, slotOf, isSlot, cellsBack, backA, mCallA, List.filterMap_cons, List.filterMap_nil, List.findIdx?_cons, List.findIdx?_nil, lim]) ?_
    refine seq_nx ρ' ((sFor_eq (ds := cs.map rwD) (ρ1 := [some (.imm (csD cs)), some (.imm (psD p)), some (.own false (.lst [])), none, none]) ?_).trans e) ?_
    · simp [mSeq, runFn, startE, keepO, keepA, sRet, sRetN, sRetA, sRetNone, sSeq, sIf, sNx, sDrop, sSet, sTg, tN, canSet, sSetN, Md.bind, Md.ret, Md.opt, mVar, mC, mT, m2, m1, mIf, mAndV, mOrV, mNotV, mAndT, mOrT, mNotT, mChain, mCons, mNil, mCall, mCallN, mImm, mOwn, mTup, mLst, mLstN, mItems, mFrz, rs, im, rss, ims, ownD, argOf, argsOf, slotOf, isSlot, cellsBack, backA, mCallA, List.filterMap_cons, List.filterMap_nil, List.findIdx?_cons, List.findIdx?_nil, csD, items]
    · rw [q3]
      simp [runFn, startE, keepO, keepA, sRet, sRetN, sRetA, sRetNone, sSeq, sIf, sNx, sDrop, sSet, sTg, tN, canSet, sSetN, Md.bind, Md.ret, Md.opt, mVar, mC, mT, m2, m1, mIf, mAndV, mOrV, mNotV, mAndT, mOrT, mNotT, mChain, mCons, mNil, mCall, mCallN, mImm, mOwn, mTup, mLst, mLstN, mItems, mFrz, rs, im, rss, ims, ownD, argOf, argsOf, slotOf, isSlot, cellsBack, backA, mCallA, List.filterMap_cons, List.filterMap_nil, List.findIdx?_cons, List.findIdx?_nil]
  · rw [q3]
    cases x <;> cases y <;> simp [keepO, keepA]
theorem good_rowsD {cs : List Rw} (h : Coins cs) {L : List (Nat × Int)} (hl : L.length ≤ 1000) (hr : ∀ c ∈ L, ∃ r a, Chg cs c r a) : goodD (rowsD cs L) = true ∧ (rowsD cs L).depth ≤ 2 := by
  have el : ∀ c ∈ L, ∃ r t, chD cs c = .tuple [.str r, .int t] ∧ goodD (.tuple [.str r, .int t]) = true := fun c m => by
    obtain ⟨i, t⟩ := c
    obtain ⟨r, a, hc⟩ := hr _ m
    have hi : cs[i]? = some r := hc.at_
    have hm := List.mem_of_getElem? hi
    have g := (good_tup ((good_rows h.good).2 r hm)).1 (.str r.nm) (by simp)
    refine ⟨r.nm, t, chD_at hi, ?_⟩
    simp [goodD, goodDs] at g ⊢
    exact g
  constructor
  · unfold rowsD goodD
    rw [Bool.and_eq_true, goodDs_iff, decide_eq_true_eq, List.length_map]
    refine ⟨fun d m => ?_, hl⟩
    obtain ⟨c, mc, rfl⟩ := List.mem_map.mp m
    obtain ⟨r, t, e, g⟩ := el c mc
    rw [e]
    exact g
  · have : ∀ M : List (Nat × Int), (∀ c ∈ M, ∃ r t, chD cs c = .tuple [.str r, .int t]) → PyData.depthAll (M.map (chD cs)) ≤ 1 := fun M => by
      induction M with
      | nil => intro _; exact Nat.zero_le _
      | cons c M ih =>
        intro q
        obtain ⟨r, t, e⟩ := q c (.head _)
        show max (chD cs c).depth (PyData.depthAll (M.map (chD cs))) ≤ 1
        rw [e]
        exact Nat.max_le.mpr ⟨Nat.le_refl _, ih fun x m => q x (.tail _ m)⟩
    show PyData.depthAll (L.map (chD cs)) + 1 ≤ 2
    have := this L fun c m => by
      obtain ⟨r, t, e, _⟩ := el c m
      exact ⟨r, t, e⟩
    omega
theorem rows_nil {cs : List Rw} (h : Coins cs) {L : List (Nat × Int)} (hl : L.length ≤ 1000) (hr : ∀ c ∈ L, ∃ r a, Chg cs c r a) : gEq (rowsD cs L) (.list []) = some (.bool (decide (L = []))) := by
  obtain ⟨g, d⟩ := good_rowsD h hl hr
  have := gEq_nil (x := L.map (chD cs)) (good_shaped g (by have d2 : (PyData.list (L.map (chD cs))).depth ≤ 2 := d; omega))
  unfold rowsD
  rw [this]
  congr 2
  cases L <;> simp
end DV

set_option Elab.async false
set_option linter.all false
set_option maxRecDepth 100000
set_option maxHeartbeats 4000000
set_option autoImplicit false
/-! MxK: drawn rows. -/
namespace DV
open PySem L2
/-- changes of at most `far` each -/
def FarRow (cs : List Rw) (far : Int) (L : List (Nat × Int)) : Prop := ∀ c ∈ L, (∃ r a, Chg cs c r a) ∧ c.2 ≠ 0 ∧ -far ≤ c.2 ∧ c.2 ≤ far
theorem doneO_snoc (cs : List Rw) (o : Option (List Int)) (L : List (Nat × Int)) (c : Nat × Int) : doneO cs o (L ++ [c]) = (doneO cs o L).bind fun p => chgO cs p c := by
  unfold doneO
  rw [List.foldl_append]
  rfl
theorem row_turn {cs : List Rw} (h : Coins cs) {n : Int} {o : Own} (hd : Dk n o) (hn : n ≤ 10000000000) {p : List Int} (hp : p.length = cs.length) {far : Int} (h1 : 1 ≤ far) (h2 : far < 2 ^ 150) {L : List (Nat × Int)} (hL : L.length ≤ 1000) {a3 a6 a7 a8 a9 a10 a11 : Option D} :
    (∃ ρ' o', Dk n o' ∧ b__law_row_1 [some (.own true o), some (.imm (csD cs)), some (.imm (psD p)), a3.map .imm, some (.imm (.int far)), some (.own false (.lst (L.map (chD cs)))), a6.map .imm, a7.map .imm, a8.map .imm, a9.map .imm, a10.map .imm, a11.map .imm] =
        .ok (.rt (.own false (.lst (L.map (chD cs))))) ρ' ∧ keepO 5 ρ' = [some (.own true o'), none, none, none, none, none, none, none, none, none, none, none]) ∨
    ∃ (c : Nat × Int) (q : List Int) (o' : Own) (b7 b8 b9 b10 b11 : D), (∃ r a, Chg cs c r a) ∧ c.2 ≠ 0 ∧ -far ≤ c.2 ∧ c.2 ≤ far ∧ chgO cs p c = some q ∧ Dk (n + 2) o' ∧
      b__law_row_1 [some (.own true o), some (.imm (csD cs)), some (.imm (psD p)), a3.map .imm, some (.imm (.int far)), some (.own false (.lst (L.map (chD cs)))), a6.map .imm, a7.map .imm, a8.map .imm, a9.map .imm, a10.map .imm, a11.map .imm] =
        .ok .nx [some (.own true o'), some (.imm (csD cs)), some (.imm (psD q)), a3.map .imm, some (.imm (.int far)), some (.own false (.lst ((L ++ [c]).map (chD cs)))), a6.map .imm, some (.imm b7), some (.imm b8), some (.imm b9), some (.imm b10), some (.imm b11)] := by
  obtain ⟨S, hS, sS, eS⟩ := e_singles h hp
  have gn := rows_nil h (L := S) (by omega) (fun c m => (sS c m).1)
  have st1 : sSet 7 (mImm (mCallA 2 m__law_singles (mCons (mVar 1) (mCons (mVar 2) mNil)))) [some (.own true o), some (.imm (csD cs)), some (.imm (psD p)), a3.map .imm, some (.imm (.int far)), some (.own false (.lst (L.map (chD cs)))), a6.map .imm, a7.map .imm, a8.map .imm, a9.map .imm, a10.map .imm, a11.map .imm] =
      .ok .nx [some (.own true o), some (.imm (csD cs)), some (.imm (psD p)), a3.map .imm, some (.imm (.int far)), some (.own false (.lst (L.map (chD cs)))), a6.map .imm, some (.imm (rowsD cs S)), a8.map .imm, a9.map .imm, a10.map .imm, a11.map .imm] := by
    have eS : m__law_singles [.imm (csD cs), .imm (psD p)] = .ok (.own false (.lst (S.map (chD cs)))) [none, none, none, none, none] := eS
    unfold rowsD
    cases a7 <;> simp [runFn, startE, keepO, keepA, sRet, sRetN, sRetA, sRetNone, sSeq, sIf, sNx, sDrop, sSet, sTg, tN, canSet, sSetN, Md.bind, Md.ret, Md.opt, mVar, mC, mT, m2, m1, mIf, mAndV, mOrV, mNotV, mAndT, mOrT, mNotT, mChain, mCons, mNil, mCall, mCallN, mImm, mOwn, mTup, mLst, mLstN, mItems, mFrz, rs, im, rss, ims, ownD, argOf, argsOf, slotOf, isSlot, cellsBack, backA, mCallA, List.filterMap_cons, List.filterMap_nil, List.findIdx?_cons, List.findIdx?_nil, eS]
  by_cases hS0 : S = []
  · refine .inl ⟨[some (.own true o), some (.imm (csD cs)), some (.imm (psD p)), a3.map .imm, some (.imm (.int far)), some (.own false (.lst (L.map (chD cs)))), a6.map .imm, some (.imm (rowsD cs S)), a8.map .imm, a9.map .imm, a10.map .imm, a11.map .imm], o, hd, ?_, ?_⟩
    · rw [decide_eq_true hS0] at gn
      unfold b__law_row_1
      refine (sSeq_nx st1).trans (sSeq_rt ?_)
      generalize rowsD cs S = R at gn ⊢
      simp [runFn, startE, keepO, keepA, sRet, sRetN, sRetA, sRetNone, sSeq, sIf, sNx, sDrop, sSet, sTg, tN, canSet, sSetN, Md.bind, Md.ret, Md.opt, mVar, mC, mT, m2, m1, mIf, mAndV, mOrV, mNotV, mAndT, mOrT, mNotT, mChain, mCons, mNil, mCall, mCallN, mImm, mOwn, mTup, mLst, mLstN, mItems, mFrz, rs, im, rss, ims, ownD, argOf, argsOf, slotOf, isSlot, cellsBack, backA, mCallA, List.filterMap_cons, List.filterMap_nil, List.findIdx?_cons, List.findIdx?_nil, gn]
    · cases a3 <;> simp [keepO, keepA]
  · right
    rw [decide_eq_false hS0] at gn
    have ne : S.map (chD cs) ≠ [] := fun e => hS0 (List.map_eq_nil_iff.mp e)
    obtain ⟨k, d, o1, hk, d1, e1⟩ := e_one (ds := S.map (chD cs)) hd (by omega) ne (by rw [List.length_map]; omega)
    rw [List.getElem?_map] at hk
    cases es : S[k]? with
    | none => rw [es] at hk; cases hk
    | some c0 =>
      rw [es] at hk
      have hk : chD cs c0 = d := Option.some.inj hk
      obtain ⟨i, w⟩ := c0
      obtain ⟨⟨r, a, hc⟩, hw, hq⟩ := sS _ (List.mem_of_getElem? es)
      have hi : cs[i]? = some r := hc.at_
      rw [chD_at hi] at hk
      subst hk
      have e1 : m__law_one [.own true o, .imm (rowsD cs S)] = .ok (.imm (.tuple [.str r.nm, .int w])) [some (.own true o1), none] := e1
      obtain ⟨x, o2, x0, x1, d2, e2⟩ := e_pick d1 (by omega) (s := far) (by omega) (by omega)
      have gm : gMul (.int w) (.int (1 + x)) = some (.int (w * (1 + x))) := gMul_small (by rcases hw with h | h <;> (have h : w = _ := h; rw [h]; decide)) (by omega)
      have hw' : w = 1 ∨ w = -1 := hw
      have tb : -far ≤ w * (1 + x) ∧ w * (1 + x) ≤ far ∧ w * (1 + x) ≠ 0 := by rcases hw' with rfl | rfl <;> omega
      have hc2 : Chg cs (i, w * (1 + x)) r a := ⟨hc.at_, hc.up, hc.above, hc.ne⟩
      have e3 := e_lchanged h hp hc2 (by omega)
      have q3 : chgO cs p (i, w * (1 + x)) = chgP r.mn i a p (w * (1 + x)) := chgO_eq h hc2
      rw [← q3] at e3
      have e4 := e_lchanged h hp hc (by rcases hw' with rfl | rfl <;> decide)
      have q4 : chgO cs p (i, w) = chgP r.mn i a p w := chgO_eq h hc
      rw [← q4] at e4
      have st2 : ∀ f, sIf (mT (m2 gEq (mVar 7) (mLst mNil))) f sNx [some (.own true o), some (.imm (csD cs)), some (.imm (psD p)), a3.map .imm, some (.imm (.int far)), some (.own false (.lst (L.map (chD cs)))), a6.map .imm, some (.imm (rowsD cs S)), a8.map .imm, a9.map .imm, a10.map .imm, a11.map .imm] =
          .ok .nx [some (.own true o), some (.imm (csD cs)), some (.imm (psD p)), a3.map .imm, some (.imm (.int far)), some (.own false (.lst (L.map (chD cs)))), a6.map .imm, some (.imm (rowsD cs S)), a8.map .imm, a9.map .imm, a10.map .imm, a11.map .imm] := fun f => by
        generalize rowsD cs S = R at gn ⊢
        simp [runFn, startE, keepO, keepA, sRet, sRetN, sRetA, sRetNone, sSeq, sIf, sNx, sDrop, sSet, sTg, tN, canSet, sSetN, Md.bind, Md.ret, Md.opt, mVar, mC, mT, m2, m1, mIf, mAndV, mOrV, mNotV, mAndT, mOrT, mNotT, mChain, mCons, mNil, mCall, mCallN, mImm, mOwn, mTup, mLst, mLstN, mItems, mFrz, rs, im, rss, ims, ownD, argOf, argsOf, slotOf, isSlot, cellsBack, backA, mCallA, List.filterMap_cons, List.filterMap_nil, List.findIdx?_cons, List.findIdx?_nil, gn]
      have st3 : sTg (tTupT 2 (tsCons (tN 8) (tsCons (tN 9) tsNil))) (mImm (mCallA 2 m__law_one (mCons (mVar 0) (mCons (mVar 7) mNil)))) [some (.own true o), some (.imm (csD cs)), some (.imm (psD p)), a3.map .imm, some (.imm (.int far)), some (.own false (.lst (L.map (chD cs)))), a6.map .imm, some (.imm (rowsD cs S)), a8.map .imm, a9.map .imm, a10.map .imm, a11.map .imm] =
          .ok .nx [some (.own true o1), some (.imm (csD cs)), some (.imm (psD p)), a3.map .imm, some (.imm (.int far)), some (.own false (.lst (L.map (chD cs)))), a6.map .imm, some (.imm (rowsD cs S)), some (.imm (.str r.nm)), some (.imm (.int w)), a10.map .imm, a11.map .imm] := by
        generalize rowsD cs S = R at e1 ⊢
        cases a8 <;> cases a9 <;> simp [runFn, startE, keepO, keepA, sRet, sRetN, sRetA, sRetNone, sSeq, sIf, sNx, sDrop, sSet, sTg, tN, canSet, sSetN, Md.bind, Md.ret, Md.opt, mVar, mC, mT, m2, m1, mIf, mAndV, mOrV, mNotV, mAndT, mOrT, mNotT, mChain, mCons, mNil, mCall, mCallN, mImm, mOwn, mTup, mLst, mLstN, mItems, mFrz, rs, im, rss, ims, ownD, argOf, argsOf, slotOf, isSlot, cellsBack, backA, mCallA, List.filterMap_cons, List.filterMap_nil, List.findIdx?_cons, List.findIdx?_nil, e1, tTupT, tsCons, tsNil]
      have st4 : sSet 10 (m2 gMul (mVar 9) (m2 gAdd (mC (.int 1)) (mImm (mCallA 2 m__law_pick (mCons (mVar 0) (mCons (mVar 4) mNil)))))) [some (.own true o1), some (.imm (csD cs)), some (.imm (psD p)), a3.map .imm, some (.imm (.int far)), some (.own false (.lst (L.map (chD cs)))), a6.map .imm, some (.imm (rowsD cs S)), some (.imm (.str r.nm)), some (.imm (.int w)), a10.map .imm, a11.map .imm] =
          .ok .nx [some (.own true o2), some (.imm (csD cs)), some (.imm (psD p)), a3.map .imm, some (.imm (.int far)), some (.own false (.lst (L.map (chD cs)))), a6.map .imm, some (.imm (rowsD cs S)), some (.imm (.str r.nm)), some (.imm (.int w)), some (.imm (.int (w * (1 + x)))), a11.map .imm] := by
        cases a10 <;> simp [runFn, startE, keepO, keepA, sRet, sRetN, sRetA, sRetNone, sSeq, sIf, sNx, sDrop, sSet, sTg, tN, canSet, sSetN, Md.bind, Md.ret, Md.opt, mVar, mC, mT, m2, m1, mIf, mAndV, mOrV, mNotV, mAndT, mOrT, mNotT, mChain, mCons, mNil, mCall, mCallN, mImm, mOwn, mTup, mLst, mLstN, mItems, mFrz, rs, im, rss, ims, ownD, argOf, argsOf, slotOf, isSlot, cellsBack, backA, mCallA, List.filterMap_cons, List.filterMap_nil, List.findIdx?_cons, List.findIdx?_nil, e2, gAdd_int, gm]
      have st5 : sSet 11 (mImm (mCallA 4 m__law_changed (mCons (mVar 1) (mCons (mVar 2) (mCons (mVar 8) (mCons (mVar 10) mNil)))))) [some (.own true o2), some (.imm (csD cs)), some (.imm (psD p)), a3.map .imm, some (.imm (.int far)), some (.own false (.lst (L.map (chD cs)))), a6.map .imm, some (.imm (rowsD cs S)), some (.imm (.str r.nm)), some (.imm (.int w)), some (.imm (.int (w * (1 + x)))), a11.map .imm] =
          .ok .nx [some (.own true o2), some (.imm (csD cs)), some (.imm (psD p)), a3.map .imm, some (.imm (.int far)), some (.own false (.lst (L.map (chD cs)))), a6.map .imm, some (.imm (rowsD cs S)), some (.imm (.str r.nm)), some (.imm (.int w)), some (.imm (.int (w * (1 + x)))), some (.imm (oD (chgO cs p (i, w * (1 + x)))))] := by
        generalize chgO cs p (i, w * (1 + x)) = z at e3 ⊢
        cases a11 <;> simp [runFn, startE, keepO, keepA, sRet, sRetN, sRetA, sRetNone, sSeq, sIf, sNx, sDrop, sSet, sTg, tN, canSet, sSetN, Md.bind, Md.ret, Md.opt, mVar, mC, mT, m2, m1, mIf, mAndV, mOrV, mNotV, mAndT, mOrT, mNotT, mChain, mCons, mNil, mCall, mCallN, mImm, mOwn, mTup, mLst, mLstN, mItems, mFrz, rs, im, rss, ims, ownD, argOf, argsOf, slotOf, isSlot, cellsBack, backA, mCallA, List.filterMap_cons, List.filterMap_nil, List.findIdx?_cons, List.findIdx?_nil, e3]
      have fin : ∀ (t : Int) (q : List Int), (sSeq (sDrop (mMeth 5 gAppend (mCons (mTup (mCons (mVar 8) (mCons (mVar 10) mNil))) mNil))) (sSet 2 (mVar 11)))
          [some (.own true o2), some (.imm (csD cs)), some (.imm (psD p)), a3.map .imm, some (.imm (.int far)), some (.own false (.lst (L.map (chD cs)))), a6.map .imm, some (.imm (rowsD cs S)), some (.imm (.str r.nm)), some (.imm (.int w)), some (.imm (.int t)), some (.imm (psD q))] =
          .ok .nx [some (.own true o2), some (.imm (csD cs)), some (.imm (psD q)), a3.map .imm, some (.imm (.int far)), some (.own false (.lst ((L ++ [(i, t)]).map (chD cs)))), a6.map .imm, some (.imm (rowsD cs S)), some (.imm (.str r.nm)), some (.imm (.int w)), some (.imm (.int t)), some (.imm (psD q))] := fun t q => by
        have ga := gAppend_of (es := L.map (chD cs)) (d := .tuple [.str r.nm, .int t]) (by rw [List.length_map]; omega)
        refine seq_nx [some (.own true o2), some (.imm (csD cs)), some (.imm (psD p)), a3.map .imm, some (.imm (.int far)), some (.own false (.lst ((L ++ [(i, t)]).map (chD cs)))), a6.map .imm, some (.imm (rowsD cs S)), some (.imm (.str r.nm)), some (.imm (.int w)), some (.imm (.int t)), some (.imm (psD q))] ?_ ?_
        · refine (drop_eq (meth_eq (ρ' := [some (.own true o2), some (.imm (csD cs)), some (.imm (psD p)), a3.map .imm, some (.imm (.int far)), some (.own false (.lst (L.map (chD cs)))), a6.map .imm, some (.imm (rowsD cs S)), some (.imm (.str r.nm)), some (.imm (.int w)), some (.imm (.int t)), some (.imm (psD q))]) (os := [.dat (.tuple [.str r.nm, .int t])]) rfl (cons_eq (ρ1 := [some (.own true o2), some (.imm (csD cs)), some (.imm (psD p)), a3.map .imm, some (.imm (.int far)), some (.own false (.lst (L.map (chD cs)))), a6.map .imm, some (.imm (rowsD cs S)), some (.imm (.str r.nm)), some (.imm (.int w)), some (.imm (.int t)), some (.imm (psD q))]) ?_ nil_eq) rfl rfl ga)).trans ?_
          · simp [runFn, startE, keepO, keepA, sRet, sRetN, sRetA, sRetNone, sSeq, sIf, sNx, sDrop, sSet, sTg, tN, canSet, sSetN, Md.bind, Md.ret, Md.opt, mVar, mC, mT, m2, m1, mIf, mAndV, mOrV, mNotV, mAndT, mOrT, mNotT, mChain, mCons, mNil, mCall, mCallN, mImm, mOwn, mTup, mLst, mLstN, mItems, mFrz, rs, im, rss, ims, ownD, argOf, argsOf, slotOf, isSlot, cellsBack, backA, mCallA, List.filterMap_cons, List.filterMap_nil, List.findIdx?_cons, List.findIdx?_nil, lim]
          · rw [List.map_append, List.map_singleton, chD_at hi]
            rfl
        · simp [runFn, startE, keepO, keepA, sRet, sRetN, sRetA, sRetNone, sSeq, sIf, sNx, sDrop, sSet, sTg, tN, canSet, sSetN, Md.bind, Md.ret, Md.opt, mVar, mC, mT, m2, m1, mIf, mAndV, mOrV, mNotV, mAndT, mOrT, mNotT, mChain, mCons, mNil, mCall, mCallN, mImm, mOwn, mTup, mLst, mLstN, mItems, mFrz, rs, im, rss, ims, ownD, argOf, argsOf, slotOf, isSlot, cellsBack, backA, mCallA, List.filterMap_cons, List.filterMap_nil, List.findIdx?_cons, List.findIdx?_nil]
      cases z : chgO cs p (i, w * (1 + x)) with
      | some q =>
        refine ⟨(i, w * (1 + x)), q, o2, rowsD cs S, .str r.nm, .int w, .int (w * (1 + x)), psD q, ⟨r, a, hc2⟩, tb.2.2, tb.1, tb.2.1, z, d2.mono (by omega), ?_⟩
        unfold b__law_row_1
        refine (sSeq_nx st1).trans ((sSeq_nx (st2 _)).trans ((sSeq_nx st3).trans ((sSeq_nx st4).trans ((sSeq_nx st5).trans ((sSeq_nx ?_).trans (fin _ q))))))
        rw [z]
        have nq : isNone (psD q) = false := rfl
        show sIf _ _ _ [some (.own true o2), some (.imm (csD cs)), some (.imm (psD p)), a3.map .imm, some (.imm (.int far)), some (.own false (.lst (L.map (chD cs)))), a6.map .imm, some (.imm (rowsD cs S)), some (.imm (.str r.nm)), some (.imm (.int w)), some (.imm (.int (w * (1 + x)))), some (.imm (psD q))] = .ok .nx [some (.own true o2), some (.imm (csD cs)), some (.imm (psD p)), a3.map .imm, some (.imm (.int far)), some (.own false (.lst (L.map (chD cs)))), a6.map .imm, some (.imm (rowsD cs S)), some (.imm (.str r.nm)), some (.imm (.int w)), some (.imm (.int (w * (1 + x)))), some (.imm (psD q))]
        generalize psD q = Q at nq ⊢
        simp [runFn, startE, keepO, keepA, sRet, sRetN, sRetA, sRetNone, sSeq, sIf, sNx, sDrop, sSet, sTg, tN, canSet, sSetN, Md.bind, Md.ret, Md.opt, mVar, mC, mT, m2, m1, mIf, mAndV, mOrV, mNotV, mAndT, mOrT, mNotT, mChain, mCons, mNil, mCall, mCallN, mImm, mOwn, mTup, mLst, mLstN, mItems, mFrz, rs, im, rss, ims, ownD, argOf, argsOf, slotOf, isSlot, cellsBack, backA, mCallA, List.filterMap_cons, List.filterMap_nil, List.findIdx?_cons, List.findIdx?_nil, gIsN_eq, nq]
      | none =>
        cases z2 : chgO cs p (i, w) with
        | none => rw [z2] at hq; cases hq
        | some q =>
          refine ⟨(i, w), q, o2, rowsD cs S, .str r.nm, .int w, .int w, psD q, ⟨r, a, hc⟩, by rcases hw' with rfl | rfl <;> (show ¬ _ = _; omega), by rcases hw' with rfl | rfl <;> (show _ ≤ _; omega), by rcases hw' with rfl | rfl <;> (show _ ≤ _; omega), z2, d2.mono (by omega), ?_⟩
          unfold b__law_row_1
          refine (sSeq_nx st1).trans ((sSeq_nx (st2 _)).trans ((sSeq_nx st3).trans ((sSeq_nx st4).trans ((sSeq_nx st5).trans ((sSeq_nx ?_).trans (fin _ q))))))
          rw [z]
          rw [z2] at e4
          have e4 : m__law_changed [.imm (csD cs), .imm (psD p), .imm (.str r.nm), .imm (.int w)] = .ok (.imm (psD q)) [none, none, none, none, none, none, none, none] := e4
          have nq : isNone (oD none) = true := rfl
          generalize oD none = N at nq ⊢
          simp [runFn, startE, keepO, keepA, sRet, sRetN, sRetA, sRetNone, sSeq, sIf, sNx, sDrop, sSet, sTg, tN, canSet, sSetN, Md.bind, Md.ret, Md.opt, mVar, mC, mT, m2, m1, mIf, mAndV, mOrV, mNotV, mAndT, mOrT, mNotT, mChain, mCons, mNil, mCall, mCallN, mImm, mOwn, mTup, mLst, mLstN, mItems, mFrz, rs, im, rss, ims, ownD, argOf, argsOf, slotOf, isSlot, cellsBack, backA, mCallA, List.filterMap_cons, List.filterMap_nil, List.findIdx?_cons, List.findIdx?_nil, gIsN_eq, nq, e4]
theorem e_row {cs : List Rw} (h : Coins cs) {n : Int} {o : Own} (hd : Dk n o) (hn : n ≤ 1000000000) {p : List Int} (hp : p.length = cs.length) (hp0 : ∀ x ∈ p, 0 ≤ x) {am far : Int} (m0 : 0 ≤ am) (m1 : am ≤ 60) (h1 : 1 ≤ far) (h2 : far < 2 ^ 150) :
    ∃ (L : List (Nat × Int)) (q : List Int) (o' : Own), FarRow cs far L ∧ (L.length : Int) ≤ am ∧ doneO cs (some p) L = some q ∧ Dk (n + 122) o' ∧
      m__law_row [.own true o, .imm (csD cs), .imm (psD p), .imm (.int am), .imm (.int far)] = .ok (.own false (.lst (L.map (chD cs)))) [some (.own true o'), none, none, none, none, none, none, none, none, none, none, none] := by
  obtain ⟨k, o1, k0, k1, d1, e1⟩ := e_pick hd (by omega) (s := am + 1) (by omega) (by omega)
  obtain ⟨K, hK⟩ : ∃ K : Nat, k = (K : Int) := ⟨k.toNat, by omega⟩
  subst hK
  have st0 : sSetN 5 (mLstN mNil) [some (.own true o), some (.imm (csD cs)), some (.imm (psD p)), some (.imm (.int am)), some (.imm (.int far)), none, none, none, none, none, none, none] =
      .ok .nx [some (.own true o), some (.imm (csD cs)), some (.imm (psD p)), some (.imm (.int am)), some (.imm (.int far)), some (.own false (.lst [])), none, none, none, none, none, none] := by simp [runFn, startE, keepO, keepA, sRet, sRetN, sRetA, sRetNone, sSeq, sIf, sNx, sDrop, sSet, sTg, tN, canSet, sSetN, Md.bind, Md.ret, Md.opt, mVar, mC, mT, m2, m1, mIf, mAndV, mOrV, mNotV, mAndT, mOrT, mNotT, mChain, mCons, mNil, mCall, mCallN, mImm, mOwn, mTup, mLst, mLstN, mItems, mFrz, rs, im, rss, ims, ownD, argOf, argsOf, slotOf, isSlot, cellsBack, backA, mCallA, List.filterMap_cons, List.filterMap_nil, List.findIdx?_cons, List.findIdx?_nil, lim]
  have lf : l__law_row_1 [some (.own true o), some (.imm (csD cs)), some (.imm (psD p)), some (.imm (.int am)), some (.imm (.int far)), some (.own false (.lst [])), none, none, none, none, none, none] =
      forL (tN 6) b__law_row_1 (rangeD 0 K) [some (.own true o1), some (.imm (csD cs)), some (.imm (psD p)), some (.imm (.int am)), some (.imm (.int far)), some (.own false (.lst [])), none, none, none, none, none, none] := by
    refine sFor_eq (range1_eq (os := [.dat (.int (K : Nat))]) ?_ rfl (small62_int (by omega) (by omega)))
    simp [runFn, startE, keepO, keepA, sRet, sRetN, sRetA, sRetNone, sSeq, sIf, sNx, sDrop, sSet, sTg, tN, canSet, sSetN, Md.bind, Md.ret, Md.opt, mVar, mC, mT, m2, m1, mIf, mAndV, mOrV, mNotV, mAndT, mOrT, mNotT, mChain, mCons, mNil, mCall, mCallN, mImm, mOwn, mTup, mLst, mLstN, mItems, mFrz, rs, im, rss, ims, ownD, argOf, argsOf, slotOf, isSlot, cellsBack, backA, mCallA, List.filterMap_cons, List.filterMap_nil, List.findIdx?_cons, List.findIdx?_nil, gAdd_int, e1]
  rcases forL_ret (tg := tN 6) (body := b__law_row_1) (fun i ρ => ∃ (L : List (Nat × Int)) (q : List Int) (o' : Own) (x6 x7 x8 x9 x10 x11 : Option D), L.length = i ∧ FarRow cs far L ∧ doneO cs (some p) L = some q ∧ Dk (n + 1 + 2 * i) o' ∧
      ρ = [some (.own true o'), some (.imm (csD cs)), some (.imm (psD q)), some (.imm (.int am)), some (.imm (.int far)), some (.own false (.lst (L.map (chD cs)))), x6.map .imm, x7.map .imm, x8.map .imm, x9.map .imm, x10.map .imm, x11.map .imm])
    (fun a ρ => ∃ (L : List (Nat × Int)) (q : List Int) (o' : Own), L.length ≤ K ∧ FarRow cs far L ∧ doneO cs (some p) L = some q ∧ Dk (n + 122) o' ∧ a = .own false (.lst (L.map (chD cs))) ∧ keepO 5 ρ = [some (.own true o'), none, none, none, none, none, none, none, none, none, none, none])
    (rangeD 0 K) 0 [some (.own true o1), some (.imm (csD cs)), some (.imm (psD p)), some (.imm (.int am)), some (.imm (.int far)), some (.own false (.lst [])), none, none, none, none, none, none]
    ⟨[], p, o1, none, none, none, none, none, none, rfl, fun c m => absurd m List.not_mem_nil, rfl, by simpa using d1, rfl⟩
    (fun i d ρ hdr ⟨L, q, o', x6, x7, x8, x9, x10, x11, hl, hf, hq, dk, e⟩ => by
      subst e
      rw [range0] at hdr
      obtain ⟨hi, rfl⟩ := range_get hdr
      have hql : q.length = cs.length := (doneO_ok L (some p) (fun z e => by
        cases e
        exact ⟨hp, hp0⟩) q hq).1
      rcases row_turn h dk (by omega) hql h1 h2 (L := L) (by omega) (a3 := some (.int am)) (a6 := some (.int (0 + (i : Nat)))) (a7 := x7) (a8 := x8) (a9 := x9) (a10 := x10) (a11 := x11) with ⟨ρ2, o2, dk2, eb, ek⟩ | ⟨c, q2, o2, b7, b8, b9, b10, b11, hc, c0, c1, c2, hq2, dk2, eb⟩
      · refine ⟨_, ρ2, ?_, .inr ⟨_, eb, L, q, o2, by omega, hf, hq, dk2.mono (by omega), rfl, ek⟩⟩
        cases x6 <;> simp [tN, canSet]
      · refine ⟨_, _, ?_, .inl ⟨.inl eb, L ++ [c], q2, o2, some (.int (0 + (i : Nat))), some b7, some b8, some b9, some b10, some b11, by rw [List.length_append, List.length_singleton]; omega, fun z m => ?_, by rw [doneO_snoc, hq]; exact hq2, dk2.mono (by push_cast; omega), rfl⟩⟩
        · cases x6 <;> simp [tN, canSet]
        · rcases List.mem_append.mp m with m | m
          · exact hf z m
          · rw [List.mem_singleton.mp m]; exact ⟨hc, c0, c1, c2⟩)
    with ⟨ρ', e, L, q, o', x6, x7, x8, x9, x10, x11, hl, hf, hq, dk, er⟩ | ⟨a, ρ', e, L, q, o', hl, hf, hq, dk, ea, ek⟩
  · rw [range0, range_len] at hl dk
    refine ⟨L, q, o', hf, by omega, hq, dk.mono (by omega), ?_⟩
    refine run_rt (.own false (.lst (L.map (chD cs)))) ρ' (seq_nx _ st0 (seq_nx _ (lf.trans e) ?_)) ?_
    · rw [er]
      simp [runFn, startE, keepO, keepA, sRet, sRetN, sRetA, sRetNone, sSeq, sIf, sNx, sDrop, sSet, sTg, tN, canSet, sSetN, Md.bind, Md.ret, Md.opt, mVar, mC, mT, m2, m1, mIf, mAndV, mOrV, mNotV, mAndT, mOrT, mNotT, mChain, mCons, mNil, mCall, mCallN, mImm, mOwn, mTup, mLst, mLstN, mItems, mFrz, rs, im, rss, ims, ownD, argOf, argsOf, slotOf, isSlot, cellsBack, backA, mCallA, List.filterMap_cons, List.filterMap_nil, List.findIdx?_cons, List.findIdx?_nil]
    · rw [er]
      simp [keepO, keepA]
  · refine ⟨L, q, o', hf, by omega, hq, dk, ?_⟩
    refine run_rt (.own false (.lst (L.map (chD cs)))) ρ' (seq_nx _ st0 (sSeq_rt ?_)) ?_
    · rw [lf, e, ea]
    · show Rs.ok _ (keepO 5 ρ') = _
      rw [ek]
end DV

set_option Elab.async false
set_option linter.all false
set_option maxRecDepth 100000
set_option maxHeartbeats 4000000
set_option autoImplicit false
/-! MxP: the kinds that change into a kind. -/
namespace DV
open PySem L2
theorem ixP_cs {cs : List Rw} {i : Nat} {r : Rw} (h : cs[i]? = some r) : gIx (csD cs) (.int (i : Nat)) = some (rwD r) := atI_at (by rw [List.getElem?_map, h]; rfl)
def chFrom (s : Str) : Nat → List Rw → List Nat
  | _, [] => []
  | k, r :: l => if r.up = s then k :: chFrom s (k + 1) l else chFrom s (k + 1) l
theorem mem_chFrom {s : Str} : ∀ {l : List Rw} {k j : Nat}, j ∈ chFrom s k l ↔ k ≤ j ∧ ∃ r, l[j - k]? = some r ∧ r.up = s
  | [], k, j => by simp [chFrom]
  | r :: l, k, j => by
    have ih := mem_chFrom (s := s) (l := l) (k := k + 1) (j := j)
    have step : (k + 1 ≤ j ∧ ∃ q, l[j - (k + 1)]? = some q ∧ q.up = s) ↔ (k < j ∧ ∃ q, (r :: l)[j - k]? = some q ∧ q.up = s) := by
      constructor
      · rintro ⟨h1, q, h2, h3⟩
        refine ⟨h1, q, ?_, h3⟩
        rw [show j - k = (j - (k + 1)) + 1 by omega]
        exact h2
      · rintro ⟨h1, q, h2, h3⟩
        refine ⟨h1, q, ?_, h3⟩
        rw [show j - k = (j - (k + 1)) + 1 by omega] at h2
        exact h2
    unfold chFrom
    by_cases hu : r.up = s
    · rw [if_pos hu, List.mem_cons, ih, step]
      constructor
      · rintro (rfl | ⟨h1, h2⟩)
        · exact ⟨Nat.le_refl _, r, by simp, hu⟩
        · exact ⟨Nat.le_of_lt h1, h2⟩
      · rintro ⟨h1, h2⟩
        by_cases e : j = k
        · exact .inl e
        · exact .inr ⟨by omega, h2⟩
    · rw [if_neg hu, ih, step]
      constructor
      · rintro ⟨h1, h2⟩; exact ⟨Nat.le_of_lt h1, h2⟩
      · rintro ⟨h1, q, h2, h3⟩
        refine ⟨?_, q, h2, h3⟩
        by_cases e : j = k
        · subst e
          rw [Nat.sub_self] at h2
          have : r = q := Option.some.inj h2
          subst this
          exact absurd h3 hu
        · omega
theorem chFrom_len {s : Str} : ∀ (l : List Rw) (k : Nat), (chFrom s k l).length ≤ l.length
  | [], _ => Nat.le_refl _
  | r :: l, k => by
    have := chFrom_len (s := s) l (k + 1)
    unfold chFrom
    split
    · rw [List.length_cons, List.length_cons]; omega
    · rw [List.length_cons]; omega
theorem chFrom_nodup {s : Str} : ∀ (l : List Rw) (k : Nat), (chFrom s k l).Nodup
  | [], _ => List.nodup_nil
  | r :: l, k => by
    have := chFrom_nodup (s := s) l (k + 1)
    unfold chFrom
    split
    · refine List.nodup_cons.mpr ⟨fun m => ?_, this⟩
      have := (mem_chFrom.mp m).1
      omega
    · exact this
def nmAt (cs : List Rw) (i : Nat) : Str := match cs[i]? with
  | some r => r.nm
  | none => ""
/-- the places of the kinds that change into the i-th -/
def chI (cs : List Rw) (i : Nat) : List Nat := chFrom (nmAt cs i) 0 cs
def natsD (l : List Nat) : List D := l.map fun j => .int (j : Nat)
theorem enum_filter {s : Str} (p : D → Bool) (f : D → D) (hp : ∀ (j : Int) (r : Rw), p (.tuple [.int j, rwD r]) = decide (r.up = s)) (hf : ∀ (j : Int) (r : Rw), f (.tuple [.int j, rwD r]) = .int j) : ∀ (l : List Rw) (k : Nat), ((enumD k (l.map rwD)).filter p).map f = natsD (chFrom s k l)
  | [], _ => rfl
  | r :: l, k => by
    have ih := enum_filter p f hp hf l (k + 1)
    show ((PyData.tuple [.int (k : Nat), rwD r] :: enumD (k + 1) (l.map rwD)).filter p).map f = _
    unfold chFrom
    by_cases h : r.up = s
    · rw [List.filter_cons_of_pos (by rw [hp]; exact decide_eq_true h), List.map_cons, ih, if_pos h, hf]
      rfl
    · rw [List.filter_cons_of_neg (by rw [hp, decide_eq_false h]; exact Bool.false_ne_true), ih, if_neg h]
theorem e_lesser {cs : List Rw} (h : Coins cs) {i : Nat} {r : Rw} (hi : cs[i]? = some r) : m_lesser [.imm (csD cs), .imm (.int (i : Nat))] = .ok (.own false (.lst (natsD (chI cs i)))) [none, none, none, none] := by
  have h8 := (coins_len h).2
  have x1 := ixP_cs hi
  have nm : nmAt cs i = r.nm := by unfold nmAt; rw [hi]
  have okr := (good_rows h.good).1 r (List.mem_of_getElem? hi)
  have e := lcL_pure (vs := [2, 3]) (tg := tTupT 2 (tsCons (tN 2) (tsCons (tN 3) tsNil))) (test := t_lesser_1) (elt := mVar 2)
    (fun d => match d with
      | .tuple [_, .tuple [_, _, .str u]] => decide (u = r.nm)
      | _ => false) (fun d => match d with
      | .tuple [j, _] => j
      | _ => .none) [some (.imm (csD cs)), some (.imm (.int (i : Nat))), none, none] (enumD 0 (cs.map rwD)) (by rw [enum_len, List.length_map]; exact Nat.le_trans h8 (by decide)) (fun d m => by
    obtain ⟨j, ej⟩ := List.mem_iff_getElem?.mp m
    obtain ⟨x, ex, rfl⟩ := enum_get ej
    rw [List.getElem?_map] at ex
    cases eq : cs[j]? with
    | none => rw [eq] at ex; cases ex
    | some q =>
      rw [eq] at ex
      have ex : rwD q = x := Option.some.inj ex
      subst ex
      have okq := (good_rows h.good).1 q (List.mem_of_getElem? eq)
      have ge : gEq (.str q.up) (.str r.nm) = some (.bool (decide (q.up = r.nm))) := gEq_str okq.2 okr.1
      have i2 : gIx (rwD q) (.int 2) = some (.str q.up) := rfl
      have i0 : gIx (rwD r) (.int 0) = some (.str r.nm) := rfl
      refine ⟨[some (.imm (csD cs)), some (.imm (.int (i : Nat))), some (.imm (.int ((0 + j : Nat) : Int))), some (.imm (rwD q))], [some (.imm (csD cs)), some (.imm (.int (i : Nat))), some (.imm (.int ((0 + j : Nat) : Int))), some (.imm (rwD q))], by simp [tTupT, tsCons, tsNil, tN, canSet], ?_, fun _ => ⟨rfl, rfl⟩, fun _ => ⟨.dat (.int ((0 + j : Nat) : Int)), [some (.imm (csD cs)), some (.imm (.int (i : Nat))), some (.imm (.int ((0 + j : Nat) : Int))), some (.imm (rwD q))], rfl, rfl, rfl, rfl⟩⟩
      show t_lesser_1 _ = .ok (decide (q.up = r.nm)) _
      generalize rwD q = Q at i2 ⊢
      generalize rwD r = R at i0 x1
      simp [t_lesser_1, runFn, startE, keepO, keepA, sRet, sRetN, sRetA, sRetNone, sSeq, sIf, sNx, sDrop, sSet, sTg, tN, canSet, sSetN, Md.bind, Md.ret, Md.opt, mVar, mC, mT, m2, m1, mIf, mAndV, mOrV, mNotV, mAndT, mOrT, mNotT, mChain, mCons, mNil, mCall, mCallN, mImm, mOwn, mTup, mLst, mLstN, mItems, mFrz, rs, im, rss, ims, ownD, argOf, argsOf, slotOf, isSlot, cellsBack, backA, mCallA, List.filterMap_cons, List.filterMap_nil, List.findIdx?_cons, List.findIdx?_nil, i2, i0, x1, ge])
  rw [enum_filter (s := r.nm) _ _ (fun j q => rfl) (fun j q => rfl)] at e
  have c : c_lesser_1 [some (.imm (csD cs)), some (.imm (.int (i : Nat))), none, none] = .ok (.lst (natsD (chI cs i))) [some (.imm (csD cs)), some (.imm (.int (i : Nat))), none, none] := by
    refine (mLc_eq (ds := enumD 0 (cs.map rwD)) (ρ1 := [some (.imm (csD cs)), some (.imm (.int (i : Nat))), none, none]) (by simp [mEnum, runFn, startE, keepO, keepA, sRet, sRetN, sRetA, sRetNone, sSeq, sIf, sNx, sDrop, sSet, sTg, tN, canSet, sSetN, Md.bind, Md.ret, Md.opt, mVar, mC, mT, m2, m1, mIf, mAndV, mOrV, mNotV, mAndT, mOrT, mNotT, mChain, mCons, mNil, mCall, mCallN, mImm, mOwn, mTup, mLst, mLstN, mItems, mFrz, rs, im, rss, ims, ownD, argOf, argsOf, slotOf, isSlot, cellsBack, backA, mCallA, List.filterMap_cons, List.filterMap_nil, List.findIdx?_cons, List.findIdx?_nil, csD, items]) rfl e).trans ?_
    unfold chI
    rw [nm]
    rfl
  generalize natsD (chI cs i) = N at c ⊢
  simp [m_lesser, runFn, startE, keepO, keepA, sRet, sRetN, sRetA, sRetNone, sSeq, sIf, sNx, sDrop, sSet, sTg, tN, canSet, sSetN, Md.bind, Md.ret, Md.opt, mVar, mC, mT, m2, m1, mIf, mAndV, mOrV, mNotV, mAndT, mOrT, mNotT, mChain, mCons, mNil, mCall, mCallN, mImm, mOwn, mTup, mLst, mLstN, mItems, mFrz, rs, im, rss, ims, ownD, argOf, argsOf, slotOf, isSlot, cellsBack, backA, mCallA, List.filterMap_cons, List.filterMap_nil, List.findIdx?_cons, List.findIdx?_nil, c]
end DV

set_option Elab.async false
set_option linter.all false
set_option maxRecDepth 100000
set_option maxHeartbeats 4000000
set_option autoImplicit false
/-! MxQ: the kinds from below. -/
namespace DV
open PySem L2
def chainLen (cs : List Rw) : Nat → Str → Nat
  | 0, _ => 0
  | t + 1, s => if s = "" then 0 else chainLen cs t (up1 cs s) + 1
theorem chain_stable {cs : List Rw} : ∀ (t : Nat) (s : Str), climb cs t s = some ("" : Str) → ∀ u, t ≤ u → chainLen cs u s = chainLen cs t s
  | 0, s, h, u, _ => by
    have : s = "" := Option.some.inj h
    subst this
    cases u with
    | zero => rfl
    | succ u => unfold chainLen; rw [if_pos rfl]
  | t + 1, s, h, u, hu => by
    obtain ⟨v, rfl⟩ : ∃ v, u = v + 1 := ⟨u - 1, by omega⟩
    unfold climb at h
    split at h
    · cases h
    · have ih := chain_stable t _ h v (by omega)
      unfold chainLen
      rw [ih]
theorem chain_le (cs : List Rw) : ∀ (t : Nat) (s : Str), chainLen cs t s ≤ t
  | 0, _ => Nat.le_refl _
  | t + 1, s => by
    have := chain_le cs t (up1 cs s)
    unfold chainLen
    split <;> omega
def rk (cs : List Rw) (i : Nat) : Nat := chainLen cs cs.length (nmAt cs i)
theorem coins_parts' {cs : List Rw} (h : Coins cs) : cs.all rowB = true ∧ risingB (cs.map (·.nm)) = true ∧ forestB cs = true := by
  have := h.ok
  unfold coinsB at this
  simp only [Bool.and_eq_true] at this
  exact ⟨this.1.1.2, this.1.2, this.2⟩
theorem coins_nodup' {cs : List Rw} (h : Coins cs) : (cs.map (·.nm)).Nodup := pw_nodup (rising_pw (coins_parts' h).2.1)
theorem nm_ne' {cs : List Rw} (h : Coins cs) {r : Rw} (m : r ∈ cs) : r.nm ≠ "" := by
  have := List.all_eq_true.mp (coins_parts' h).1 r m
  unfold rowB at this
  rw [Bool.and_eq_true] at this
  intro e
  have n := this.1
  rw [e] at n
  revert n
  decide +kernel
theorem climb_top {cs : List Rw} (h : Coins cs) {r : Rw} (m : r ∈ cs) : climb cs cs.length r.nm = some ("" : Str) := by
  have f := List.all_eq_true.mp (coins_parts' h).2.2 r m
  cases e : climb cs cs.length r.nm with
  | none => rw [e] at f; cases f
  | some s =>
    rw [e] at f
    exact congrArg some (of_decide_eq_true f)
theorem ch_lt {cs : List Rw} {i j : Nat} (h : j ∈ chI cs i) : j < cs.length := by
  obtain ⟨_, r, e, _⟩ := mem_chFrom.mp h
  rw [Nat.sub_zero] at e
  exact (List.getElem?_eq_some_iff.mp e).1
theorem rk_child {cs : List Rw} (h : Coins cs) {i j : Nat} (hi : i < cs.length) (hj : j ∈ chI cs i) : rk cs j = rk cs i + 1 := by
  obtain ⟨_, r, e, hu⟩ := mem_chFrom.mp hj
  rw [Nat.sub_zero] at e
  have ei : cs[i]? = some cs[i] := List.getElem?_eq_getElem hi
  have mi : cs[i] ∈ cs := List.getElem_mem hi
  have mr : r ∈ cs := List.mem_of_getElem? e
  have nj : nmAt cs j = r.nm := by unfold nmAt; rw [e]
  have u1 : up1 cs r.nm = r.up := by
    unfold up1
    rw [if_neg (nm_ne' h mr), row_found (coins_nodup' h) mr]
  unfold rk
  rw [nj]
  have s1 := chain_stable cs.length r.nm (climb_top h mr) (cs.length + 1) (by omega)
  rw [← s1]
  conv => lhs; unfold chainLen
  rw [if_neg (nm_ne' h mr), u1, hu]
theorem rk_le (cs : List Rw) (i : Nat) : rk cs i ≤ cs.length := chain_le cs _ _
/-- of what is not in F, something has all its lesser kinds in F -/
theorem free_one {cs : List Rw} (h : Coins cs) (F : List Nat) : ∀ (m i : Nat), cs.length - rk cs i ≤ m → i < cs.length → i ∉ F → ∃ j, j < cs.length ∧ j ∉ F ∧ ∀ c ∈ chI cs j, c ∈ F
  | m, i, hm, hi, hF => by
    by_cases q : ∀ c ∈ chI cs i, c ∈ F
    · exact ⟨i, hi, hF, q⟩
    · have : ∃ c, c ∈ chI cs i ∧ c ∉ F := by
        cases Classical.em (∃ c, c ∈ chI cs i ∧ c ∉ F) with
        | inl h => exact h
        | inr h => exact absurd (fun c hc => Classical.byContradiction fun z => h ⟨c, hc, z⟩) q
      obtain ⟨c, hc, hcF⟩ := this
      have r1 := rk_child h hi hc
      have r2 := rk_le cs c
      cases m with
      | zero => omega
      | succ m => exact free_one h F m c (by omega) (ch_lt hc) hcF
def addOne (cs : List Rw) (F : List Nat) (i : Nat) : List Nat := if i ∉ F ∧ ∀ c ∈ chI cs i, c ∈ F then F ++ [i] else F
def passF (cs : List Rw) (F : List Nat) : List Nat := (List.range cs.length).foldl (addOne cs) F
theorem addOne_app (cs : List Rw) (F : List Nat) (i : Nat) : ∃ G, addOne cs F i = F ++ G ∧ G.length ≤ 1 := by
  unfold addOne
  split
  · exact ⟨[i], rfl, Nat.le_refl _⟩
  · exact ⟨[], by simp, Nat.zero_le _⟩
theorem foldl_app (cs : List Rw) : ∀ (l F : List Nat), ∃ G, l.foldl (addOne cs) F = F ++ G
  | [], F => ⟨[], by simp⟩
  | i :: l, F => by
    obtain ⟨G, e, _⟩ := addOne_app cs F i
    obtain ⟨G2, e2⟩ := foldl_app cs l (addOne cs F i)
    exact ⟨G ++ G2, by rw [List.foldl_cons, e2, e, List.append_assoc]⟩
theorem foldl_has (cs : List Rw) {j : Nat} : ∀ (l F : List Nat), j ∈ l → j ∉ F → (∀ c ∈ chI cs j, c ∈ F) → j ∈ l.foldl (addOne cs) F
  | i :: l, F, hm, hF, hc => by
    rw [List.foldl_cons]
    obtain ⟨G, e, _⟩ := addOne_app cs F i
    by_cases q : j ∈ addOne cs F i
    · obtain ⟨G2, e2⟩ := foldl_app cs l (addOne cs F i)
      rw [e2]
      exact List.mem_append_left _ q
    · refine foldl_has cs l (addOne cs F i) ?_ q fun c m => by rw [e]; exact List.mem_append_left _ (hc c m)
      rcases List.mem_cons.mp hm with rfl | hm
      · refine absurd ?_ q
        unfold addOne
        rw [if_pos ⟨hF, hc⟩]
        exact List.mem_append_right _ (.head _)
      · exact hm
/-- each once, the lesser ones ahead -/
structure Below (cs : List Rw) (F : List Nat) : Prop where
  nd : F.Nodup
  lt : ∀ i ∈ F, i < cs.length
  ahead : ∀ F1 i F2, F = F1 ++ i :: F2 → ∀ c ∈ chI cs i, c ∈ F1
theorem Below.add {cs : List Rw} {F : List Nat} (h : Below cs F) {i : Nat} (hi : i < cs.length) : Below cs (addOne cs F i) := by
  unfold addOne
  split
  · rename_i q
    refine ⟨?_, fun j m => ?_, fun F1 j F2 e c hc => ?_⟩
    · rw [List.nodup_append]
      refine ⟨h.nd, List.nodup_cons.mpr ⟨List.not_mem_nil, List.nodup_nil⟩, fun a ha b hb e => ?_⟩
      rw [List.mem_singleton.mp hb] at e
      subst e
      exact q.1 ha
    · rcases List.mem_append.mp m with m | m
      · exact h.lt j m
      · rw [List.mem_singleton.mp m]; exact hi
    · rcases List.append_eq_append_iff.mp e with ⟨a, e1, e2⟩ | ⟨a, e1, e2⟩
      · cases a with
        | nil =>
          have e2 : [i] = j :: F2 := e2
          have : i = j := (List.cons.inj e2).1
          subst this
          rw [e1, List.append_nil]
          exact q.2 c hc
        | cons x a =>
          have := congrArg List.length e2
          simp at this
      · cases a with
        | nil =>
          have e2 : j :: F2 = [i] := e2
          have : j = i := (List.cons.inj e2).1
          subst this
          rw [List.append_nil] at e1
          rw [← e1]
          exact q.2 c hc
        | cons x a =>
          have e2 : j :: F2 = x :: (a ++ [i]) := e2
          have : j = x := (List.cons.inj e2).1
          subst this
          exact h.ahead F1 j a e1 c hc
  · exact h
theorem Below.fold {cs : List Rw} : ∀ (l F : List Nat), Below cs F → (∀ i ∈ l, i < cs.length) → Below cs (l.foldl (addOne cs) F)
  | [], _, h, _ => h
  | i :: l, F, h, hl => Below.fold l _ (h.add (hl i (.head _))) fun j m => hl j (.tail _ m)
theorem nodup_len : ∀ (n : Nat) (F : List Nat), F.Nodup → (∀ i ∈ F, i < n) → F.length ≤ n := fun n F nd h => by
  have : ∀ (n : Nat) (F : List Nat), F.Nodup → (∀ i ∈ F, i < n) → F.length ≤ n := fun n => by
    induction n with
    | zero =>
      intro F _ h
      cases F with
      | nil => exact Nat.le_refl _
      | cons x F => exact absurd (h x (.head _)) (Nat.not_lt_zero _)
    | succ n ih =>
      intro F nd h
      have := ih (F.erase n) (nd.erase n) fun i m => by
        have h1 := h i (List.mem_of_mem_erase m)
        have h2 : i ≠ n := fun e => by
          subst e
          exact (nd.mem_erase_iff.mp m).1 rfl
        omega
      have l := List.length_erase (a := n) (l := F)
      split at l <;> omega
  exact this n F nd h
theorem full_of_len {n : Nat} {F : List Nat} (nd : F.Nodup) (h : ∀ i ∈ F, i < n) (hl : n ≤ F.length) : ∀ i, i < n → i ∈ F := fun i hi => by
  refine Classical.byContradiction fun z => ?_
  have := nodup_len n (i :: F) (List.nodup_cons.mpr ⟨z, nd⟩) fun j m => by
    rcases List.mem_cons.mp m with rfl | m
    · exact hi
    · exact h j m
  rw [List.length_cons] at this
  omega
theorem pass_more {cs : List Rw} (h : Coins cs) {F : List Nat} (b : Below cs F) (hl : F.length < cs.length) : F.length < (passF cs F).length := by
  obtain ⟨i, hi, hF⟩ : ∃ i, i < cs.length ∧ i ∉ F := by
    refine Classical.byContradiction fun z => ?_
    have : ∀ i, i < cs.length → i ∈ F := fun i hi => Classical.byContradiction fun q => z ⟨i, hi, q⟩
    have l2 := List.Nodup.length_le_of_subset (l₁ := List.range cs.length) (l₂ := F) List.nodup_range fun i m => this i (List.mem_range.mp m)
    rw [List.length_range] at l2
    omega
  obtain ⟨j, hj, hjF, hc⟩ := free_one h F _ i (Nat.le_refl _) hi hF
  have m := foldl_has cs (List.range cs.length) F (List.mem_range.mpr hj) hjF hc
  obtain ⟨G, e⟩ := foldl_app cs (List.range cs.length) F
  show F.length < (List.foldl (addOne cs) F (List.range cs.length)).length
  rw [e] at m ⊢
  rw [List.length_append]
  rcases List.mem_append.mp m with m | m
  · exact absurd m hjF
  · have := List.length_pos_of_mem m
    omega
end DV

set_option Elab.async false
set_option linter.all false
set_option maxRecDepth 100000
set_option maxHeartbeats 4000000
set_option autoImplicit false
/-! MxR: from_below, as it runs. -/
namespace DV
open PySem L2
theorem natsD_ints (F : List Nat) : natsD F = (F.map fun j : Nat => (j : Int)).map .int := by
  unfold natsD
  rw [List.map_map]
  rfl
theorem lcL_ofN {α : Type} {vs : List Nat} {tg : D → Env → Option Env} {elt : Md Opd} (g f : α → D) (ρ : Env) (L : List α) (hl : L.length ≤ lim)
    (h : ∀ c ∈ L, ∃ ρ1, tg (g c) ρ = some ρ1 ∧ ∃ o ρ3, elt ρ1 = .ok o ρ3 ∧ im ρ3 o = some (f c) ∧ vs.all (noOwn ρ3) = true ∧ wipeE ρ3 vs = ρ) :
    lcL vs tg (Md.ret true) elt (L.map g) [] ρ = .ok (L.map f) ρ := by
  obtain ⟨acc', ρ', e, h1, h2⟩ := lcL_run (vs := vs) (tg := tg) (test := Md.ret true) (elt := elt) (fun i acc ρ' => ρ' = ρ ∧ acc = (L.take i).map f) (L.map g) 0 [] ρ ⟨rfl, by simp⟩ (fun i d acc ρ' hd ⟨hi, ha⟩ => by
    subst hi
    rw [Nat.zero_add] at ha ⊢
    rw [List.getElem?_map] at hd
    cases e : L[i]? with
    | none => rw [e] at hd; cases hd
    | some c =>
      rw [e] at hd
      have hd : g c = d := Option.some.inj hd
      subst hd
      have hm := List.mem_of_getElem? e
      have hlt := (List.getElem?_eq_some_iff.mp e).1
      obtain ⟨ρ1, a, o, ρ3, x, y, z, w⟩ := h c hm
      refine ⟨ρ1, ρ1, a, .inr ⟨rfl, o, ρ3, f c, x, y, ?_, z, w, ?_⟩⟩
      · rw [ha, List.length_map, List.length_take]
        omega
      · obtain ⟨hl2, e2⟩ := List.getElem?_eq_some_iff.mp e
        rw [List.take_succ_eq_append_getElem hl2, e2, List.map_append, ha]
        rfl)
  rw [e, h1, h2, Nat.zero_add, List.length_map, List.take_length]
theorem in_nats (F : List Nat) (i : Nat) : inB (.int (i : Nat)) (.list (natsD F)) = some (decide (i ∈ F)) := by
  have sh : SeqAt.shaped (.list (natsD F)) = true := by rw [natsD_ints]; exact shaped_lstI _
  show (if SeqAt.shaped (.int (i : Nat)) && SeqAt.shaped (.list (natsD F)) then some ((natsD F).any fun z => PyData.eqv z (.int (i : Nat))) else none) = _
  rw [sh, shaped_int]
  show some ((natsD F).any fun z => PyData.eqv z (.int (i : Nat))) = _
  congr 1
  unfold natsD
  rw [List.any_map]
  by_cases h : i ∈ F
  · rw [decide_eq_true h, List.any_eq_true]
    exact ⟨i, h, by show PyData.eqv (.int (i : Nat)) (.int (i : Nat)) = true; rw [eqv_int]; exact decide_eq_true rfl⟩
  · rw [decide_eq_false h, List.any_eq_false]
    intro j hj z
    have z : PyData.eqv (.int (j : Nat)) (.int (i : Nat)) = true := z
    rw [eqv_int] at z
    have z := of_decide_eq_true z
    have : j = i := by omega
    subst this
    exact h hj
theorem gNotIn_nats (F : List Nat) (i : Nat) : gNotIn (.int (i : Nat)) (.list (natsD F)) = some (.bool (!decide (i ∈ F))) := by
  show (inB (.int (i : Nat)) (.list (natsD F))).map (fun b => PyData.bool !b) = _
  rw [in_nats]
  rfl
theorem gIn_nats (F : List Nat) (i : Nat) : gIn (.int (i : Nat)) (.list (natsD F)) = some (.bool (decide (i ∈ F))) := by
  show (inB (.int (i : Nat)) (.list (natsD F))).map PyData.bool = _
  rw [in_nats]
  rfl
theorem fb_turn {cs : List Rw} (h : Coins cs) {F : List Nat} (hF : F.length ≤ 1000) {i : Nat} {r : Rw} (hi : cs[i]? = some r) {x : Option D} :
    b_from_below_1 [some (.imm (csD cs)), some (.own false (.lst (natsD F))), some (.imm (.int (i : Nat))), x.map .imm] = .ok .nx [some (.imm (csD cs)), some (.own false (.lst (natsD (addOne cs F i)))), some (.imm (.int (i : Nat))), x.map .imm] := by
  have h8 := (coins_len h).2
  have e := e_lesser h hi
  have gn := gNotIn_nats F i
  by_cases q : i ∈ F
  · rw [decide_eq_true q] at gn
    have : addOne cs F i = F := by unfold addOne; rw [if_neg fun z => z.1 q]
    rw [this]
    generalize natsD F = N at gn ⊢
    simp [b_from_below_1, runFn, startE, keepO, keepA, sRet, sRetN, sRetA, sRetNone, sSeq, sIf, sNx, sDrop, sSet, sTg, tN, canSet, sSetN, Md.bind, Md.ret, Md.opt, mVar, mC, mT, m2, m1, mIf, mAndV, mOrV, mNotV, mAndT, mOrT, mNotT, mChain, mCons, mNil, mCall, mCallN, mImm, mOwn, mTup, mLst, mLstN, mItems, mFrz, rs, im, rss, ims, ownD, argOf, argsOf, slotOf, isSlot, cellsBack, backA, mCallA, List.filterMap_cons, List.filterMap_nil, List.findIdx?_cons, List.findIdx?_nil, gn]
  · rw [decide_eq_false q] at gn
    have el := lcL_ofN (vs := [3]) (tg := tN 3) (elt := x_from_below_1) (fun j : Nat => PyData.int (j : Nat)) (fun j : Nat => .bool (decide (j ∈ F))) [some (.imm (csD cs)), some (.own false (.lst (natsD F))), some (.imm (.int (i : Nat))), none] (chI cs i) (by
      have := chFrom_len (s := nmAt cs i) cs 0
      have h2 : (chI cs i).length ≤ 1000 := Nat.le_trans this (by omega)
      exact Nat.le_trans h2 (by decide)) (fun j m => by
      have gi := gIn_nats F j
      refine ⟨[some (.imm (csD cs)), some (.own false (.lst (natsD F))), some (.imm (.int (i : Nat))), some (.imm (.int (j : Nat)))], by simp [tN, canSet], .dat (.bool (decide (j ∈ F))), [some (.imm (csD cs)), some (.own false (.lst (natsD F))), some (.imm (.int (i : Nat))), some (.imm (.int (j : Nat)))], ?_, rfl, rfl, rfl⟩
      generalize natsD F = N at gi ⊢
      simp [x_from_below_1, runFn, startE, keepO, keepA, sRet, sRetN, sRetA, sRetNone, sSeq, sIf, sNx, sDrop, sSet, sTg, tN, canSet, sSetN, Md.bind, Md.ret, Md.opt, mVar, mC, mT, m2, m1, mIf, mAndV, mOrV, mNotV, mAndT, mOrT, mNotT, mChain, mCons, mNil, mCall, mCallN, mImm, mOwn, mTup, mLst, mLstN, mItems, mFrz, rs, im, rss, ims, ownD, argOf, argsOf, slotOf, isSlot, cellsBack, backA, mCallA, List.filterMap_cons, List.filterMap_nil, List.findIdx?_cons, List.findIdx?_nil, gi])
    have c : c_from_below_1 [some (.imm (csD cs)), some (.own false (.lst (natsD F))), some (.imm (.int (i : Nat))), x.map .imm] = .ok (.lst ((chI cs i).map fun j => .bool (decide (j ∈ F)))) [some (.imm (csD cs)), some (.own false (.lst (natsD F))), some (.imm (.int (i : Nat))), x.map .imm] := by
      refine (mLc_eq (ds := natsD (chI cs i)) (ρ1 := [some (.imm (csD cs)), some (.own false (.lst (natsD F))), some (.imm (.int (i : Nat))), x.map .imm]) ?_ ?_ el).trans ?_
      · generalize natsD (chI cs i) = N at e ⊢
        simp [mSeq, runFn, startE, keepO, keepA, sRet, sRetN, sRetA, sRetNone, sSeq, sIf, sNx, sDrop, sSet, sTg, tN, canSet, sSetN, Md.bind, Md.ret, Md.opt, mVar, mC, mT, m2, m1, mIf, mAndV, mOrV, mNotV, mAndT, mOrT, mNotT, mChain, mCons, mNil, mCall, mCallN, mImm, mOwn, mTup, mLst, mLstN, mItems, mFrz, rs, im, rss, ims, ownD, argOf, argsOf, slotOf, isSlot, cellsBack, backA, mCallA, List.filterMap_cons, List.filterMap_nil, List.findIdx?_cons, List.findIdx?_nil, e, items]
      · cases x <;> rfl
      · cases x <;> rfl
    have ga := gAll_map (fun j => decide (j ∈ F)) (chI cs i)
    generalize ((chI cs i).map fun j => PyData.bool (decide (j ∈ F))) = bs at c ga
    by_cases q2 : ∀ c ∈ chI cs i, c ∈ F
    · have : addOne cs F i = F ++ [i] := by unfold addOne; rw [if_pos ⟨q, q2⟩]
      rw [this]
      have at_ : ((chI cs i).all fun j => decide (j ∈ F)) = true := List.all_eq_true.mpr fun j m => decide_eq_true (q2 j m)
      rw [at_] at ga
      have gp := gAppend_of (es := natsD F) (d := .int (i : Nat)) (by unfold natsD; rw [List.length_map]; omega)
      have nn : natsD (F ++ [i]) = natsD F ++ [.int (i : Nat)] := by unfold natsD; rw [List.map_append]; rfl
      rw [nn]
      generalize natsD F = N at c gn gp ⊢
      unfold b_from_below_1
      refine (sIf_t (ρ1 := [some (.imm (csD cs)), some (.own false (.lst N)), some (.imm (.int (i : Nat))), x.map .imm]) (by simp [runFn, startE, keepO, keepA, sRet, sRetN, sRetA, sRetNone, sSeq, sIf, sNx, sDrop, sSet, sTg, tN, canSet, sSetN, Md.bind, Md.ret, Md.opt, mVar, mC, mT, m2, m1, mIf, mAndV, mOrV, mNotV, mAndT, mOrT, mNotT, mChain, mCons, mNil, mCall, mCallN, mImm, mOwn, mTup, mLst, mLstN, mItems, mFrz, rs, im, rss, ims, ownD, argOf, argsOf, slotOf, isSlot, cellsBack, backA, mCallA, List.filterMap_cons, List.filterMap_nil, List.findIdx?_cons, List.findIdx?_nil, gn, c, ga])).trans ?_
      exact (drop_eq (meth_eq (ρ' := [some (.imm (csD cs)), some (.own false (.lst N)), some (.imm (.int (i : Nat))), x.map .imm]) (os := [.dat (.int (i : Nat))]) rfl (by simp [runFn, startE, keepO, keepA, sRet, sRetN, sRetA, sRetNone, sSeq, sIf, sNx, sDrop, sSet, sTg, tN, canSet, sSetN, Md.bind, Md.ret, Md.opt, mVar, mC, mT, m2, m1, mIf, mAndV, mOrV, mNotV, mAndT, mOrT, mNotT, mChain, mCons, mNil, mCall, mCallN, mImm, mOwn, mTup, mLst, mLstN, mItems, mFrz, rs, im, rss, ims, ownD, argOf, argsOf, slotOf, isSlot, cellsBack, backA, mCallA, List.filterMap_cons, List.filterMap_nil, List.findIdx?_cons, List.findIdx?_nil]) rfl rfl gp)).trans rfl
    · have : addOne cs F i = F := by unfold addOne; rw [if_neg fun z => q2 z.2]
      rw [this]
      have at_ : ((chI cs i).all fun j => decide (j ∈ F)) = false := by
        cases z : (chI cs i).all fun j => decide (j ∈ F) with
        | false => rfl
        | true => exact absurd (fun c m => of_decide_eq_true (List.all_eq_true.mp z c m)) q2
      rw [at_] at ga
      generalize natsD F = N at c gn ⊢
      simp [b_from_below_1, runFn, startE, keepO, keepA, sRet, sRetN, sRetA, sRetNone, sSeq, sIf, sNx, sDrop, sSet, sTg, tN, canSet, sSetN, Md.bind, Md.ret, Md.opt, mVar, mC, mT, m2, m1, mIf, mAndV, mOrV, mNotV, mAndT, mOrT, mNotT, mChain, mCons, mNil, mCall, mCallN, mImm, mOwn, mTup, mLst, mLstN, mItems, mFrz, rs, im, rss, ims, ownD, argOf, argsOf, slotOf, isSlot, cellsBack, backA, mCallA, List.filterMap_cons, List.filterMap_nil, List.findIdx?_cons, List.findIdx?_nil, gn, c, ga]
theorem fb_pass {cs : List Rw} (h : Coins cs) {F : List Nat} (b : Below cs F) {x2 x3 : Option D} : ∃ y2 : Option D,
    b_from_below_2 [some (.imm (csD cs)), some (.own false (.lst (natsD F))), x2.map .imm, x3.map .imm] = .ok .nx [some (.imm (csD cs)), some (.own false (.lst (natsD (passF cs F)))), y2.map .imm, x3.map .imm] := by
  have h8 := (coins_len h).2
  have gl := gLen_cs cs
  have lf : b_from_below_2 [some (.imm (csD cs)), some (.own false (.lst (natsD F))), x2.map .imm, x3.map .imm] = forL (tN 2) b_from_below_1 (rangeD 0 (cs.length : Nat)) [some (.imm (csD cs)), some (.own false (.lst (natsD F))), x2.map .imm, x3.map .imm] := by
    unfold b_from_below_2 l_from_below_1
    refine sFor_eq (range1_eq (os := [.dat (.int (cs.length : Nat))]) ?_ rfl (small62_nat (by omega)))
    generalize csD cs = CD at gl ⊢
    simp [runFn, startE, keepO, keepA, sRet, sRetN, sRetA, sRetNone, sSeq, sIf, sNx, sDrop, sSet, sTg, tN, canSet, sSetN, Md.bind, Md.ret, Md.opt, mVar, mC, mT, m2, m1, mIf, mAndV, mOrV, mNotV, mAndT, mOrT, mNotT, mChain, mCons, mNil, mCall, mCallN, mImm, mOwn, mTup, mLst, mLstN, mItems, mFrz, rs, im, rss, ims, ownD, argOf, argsOf, slotOf, isSlot, cellsBack, backA, mCallA, List.filterMap_cons, List.filterMap_nil, List.findIdx?_cons, List.findIdx?_nil, gl]
  obtain ⟨ρ', e, G, y2, q1, q2, q3⟩ := forL_run (tg := tN 2) (body := b_from_below_1) (fun i ρ => ∃ (G : List Nat) (y2 : Option D), G = ((List.range cs.length).take i).foldl (addOne cs) F ∧ Below cs G ∧ ρ = [some (.imm (csD cs)), some (.own false (.lst (natsD G))), y2.map .imm, x3.map .imm])
    (rangeD 0 (cs.length : Nat)) [some (.imm (csD cs)), some (.own false (.lst (natsD F))), x2.map .imm, x3.map .imm] ⟨F, x2, rfl, b, rfl⟩
    (fun i d ρ hd ⟨G, y2, q1, q2, e⟩ => by
      subst e
      rw [range0] at hd
      obtain ⟨hi, rfl⟩ := range_get hd
      have ei : cs[i]? = some cs[i] := List.getElem?_eq_getElem hi
      have lG := nodup_len cs.length G q2.nd q2.lt
      refine ⟨[some (.imm (csD cs)), some (.own false (.lst (natsD G))), some (.imm (.int (0 + (i : Nat)))), x3.map .imm], _, by cases y2 <;> simp [tN, canSet], .inl (by rw [Int.zero_add]; exact fb_turn h (by omega) ei), addOne cs G i, some (.int (i : Nat)), ?_, q2.add hi, rfl⟩
      have hr : i < (List.range cs.length).length := by rw [List.length_range]; exact hi
      rw [List.take_succ_eq_append_getElem hr, List.foldl_append, ← q1, List.getElem_range]
      rfl)
  rw [range0, range_len] at q1
  refine ⟨y2, ?_⟩
  rw [lf, e, q3, q1]
  have : (List.range cs.length).take cs.length = List.range cs.length := List.take_of_length_le (by rw [List.length_range]; exact Nat.le_refl _)
  rw [this]
  rfl
theorem e_from_below {cs : List Rw} (h : Coins cs) : ∃ F : List Nat, Below cs F ∧ F.length = cs.length ∧ m_from_below [.imm (csD cs)] = .ok (.own false (.lst (natsD F))) [none, none, none, none] := by
  have h8 := (coins_len h).2
  have gl := gLen_cs cs
  have tst : ∀ (F : List Nat) (x2 x3 : Option D), t_from_below_1 [some (.imm (csD cs)), some (.own false (.lst (natsD F))), x2.map .imm, x3.map .imm] = .ok (decide (F.length < cs.length)) [some (.imm (csD cs)), some (.own false (.lst (natsD F))), x2.map .imm, x3.map .imm] := fun F x2 x3 => by
    have g2 : gLen [.list (natsD F)] = some (.int (F.length : Nat)) := by rw [gLen_lst]; unfold natsD; rw [List.length_map]
    have gt : gLt (.int (F.length : Nat)) (.int (cs.length : Nat)) = some (.bool (decide (F.length < cs.length))) := by
      rw [gLt_int]
      congr 2
      by_cases q : F.length < cs.length
      · rw [decide_eq_true q, decide_eq_true (by omega)]
      · rw [decide_eq_false q, decide_eq_false (by omega)]
    generalize natsD F = N at g2 ⊢
    generalize csD cs = CD at gl ⊢
    simp [t_from_below_1, runFn, startE, keepO, keepA, sRet, sRetN, sRetA, sRetNone, sSeq, sIf, sNx, sDrop, sSet, sTg, tN, canSet, sSetN, Md.bind, Md.ret, Md.opt, mVar, mC, mT, m2, m1, mIf, mAndV, mOrV, mNotV, mAndT, mOrT, mNotT, mChain, mCons, mNil, mCall, mCallN, mImm, mOwn, mTup, mLst, mLstN, mItems, mFrz, rs, im, rss, ims, ownD, argOf, argsOf, slotOf, isSlot, cellsBack, backA, mCallA, List.filterMap_cons, List.filterMap_nil, List.findIdx?_cons, List.findIdx?_nil, gl, g2, gt]
  obtain ⟨ρ1, ρ0, m', e, _, _, F, x2, x3, q1, q2, q3⟩ := whileL_run (t := t_from_below_1) (body := b_from_below_2) (fun m ρ => ∃ (F : List Nat) (x2 x3 : Option D), Below cs F ∧ m = cs.length - F.length ∧ ρ = [some (.imm (csD cs)), some (.own false (.lst (natsD F))), x2.map .imm, x3.map .imm])
    cs.length 1000 [some (.imm (csD cs)), some (.own false (.lst (natsD []))), none, none] ⟨[], none, none, ⟨List.nodup_nil, fun i m => absurd m List.not_mem_nil, fun F1 i F2 e => by simp at e⟩, by simp, rfl⟩ (by omega)
    (fun m ρ ⟨F, x2, x3, b, hm, e⟩ => by
      subst e
      have t := tst F x2 x3
      by_cases q : F.length < cs.length
      · rw [decide_eq_true q] at t
        obtain ⟨y2, ep⟩ := fb_pass h b (x2 := x2) (x3 := x3)
        have b2 : Below cs (passF cs F) := b.fold _ _ fun i m => List.mem_range.mp m
        have := pass_more h b q
        exact .inr ⟨_, _, cs.length - (passF cs F).length, t, ep, ⟨passF cs F, y2, x3, b2, rfl, rfl⟩, by omega⟩
      · rw [decide_eq_false q] at t
        exact .inl ⟨_, t, F, x2, x3, b, by omega, rfl⟩)
  have lF := nodup_len cs.length F q1.nd q1.lt
  refine ⟨F, q1, by omega, ?_⟩
  refine run_rt (.own false (.lst (natsD F))) ρ1 (seq_nx [some (.imm (csD cs)), some (.own false (.lst [])), none, none] (by simp [runFn, startE, keepO, keepA, sRet, sRetN, sRetA, sRetNone, sSeq, sIf, sNx, sDrop, sSet, sTg, tN, canSet, sSetN, Md.bind, Md.ret, Md.opt, mVar, mC, mT, m2, m1, mIf, mAndV, mOrV, mNotV, mAndT, mOrT, mNotT, mChain, mCons, mNil, mCall, mCallN, mImm, mOwn, mTup, mLst, mLstN, mItems, mFrz, rs, im, rss, ims, ownD, argOf, argsOf, slotOf, isSlot, cellsBack, backA, mCallA, List.filterMap_cons, List.filterMap_nil, List.findIdx?_cons, List.findIdx?_nil, lim]) (seq_nx ρ1 e ?_)) ?_
  · rw [q3]
    simp [runFn, startE, keepO, keepA, sRet, sRetN, sRetA, sRetNone, sSeq, sIf, sNx, sDrop, sSet, sTg, tN, canSet, sSetN, Md.bind, Md.ret, Md.opt, mVar, mC, mT, m2, m1, mIf, mAndV, mOrV, mNotV, mAndT, mOrT, mNotT, mChain, mCons, mNil, mCall, mCallN, mImm, mOwn, mTup, mLst, mLstN, mItems, mFrz, rs, im, rss, ims, ownD, argOf, argsOf, slotOf, isSlot, cellsBack, backA, mCallA, List.filterMap_cons, List.filterMap_nil, List.findIdx?_cons, List.findIdx?_nil]
  · rw [q3]
    simp [keepO, keepA]
end DV

set_option Elab.async false
set_option linter.all false
set_option maxRecDepth 100000
set_option maxHeartbeats 4000000
set_option autoImplicit false
/-! MxS: what is reckoned. -/
namespace DV
open PySem L2
/-- a dict by places -/
def kd (l : List (Nat × Int)) : List (Key × D) := l.map fun p => (.inl ((p.1 : Nat) : Int), .int p.2)
def kdD (l : List (Nat × Int)) : D := .dict (l.map fun p => (.int ((p.1 : Nat) : Int), .int p.2))
theorem kd_own (l : List (Nat × Int)) : ownD (.dK (kd l)) = some (kdD l) := by
  show some (PyData.dict ((kd l).map fun p => (keyD p.1, p.2))) = _
  unfold kd kdD
  rw [List.map_map]
  rfl
def valN (l : List (Nat × Int)) (j : Nat) : Option Int := (l.find? fun p => decide (p.1 = j)).map (·.2)
theorem look_kd (l : List (Nat × Int)) (j : Nat) : lookD (l.map fun p => (PyData.int ((p.1 : Nat) : Int), PyData.int p.2)) (.inl ((j : Nat) : Int)) = (valN l j).map .int := by
  unfold lookD valN
  rw [List.find?_map, Option.map_map, Option.map_map]
  congr 1
  congr 1
  funext p
  show decide ((Sum.inl ((j : Nat) : Int) : Key) = .inl ((p.1 : Nat) : Int)) = decide (p.1 = j)
  by_cases h : p.1 = j
  · subst h; simp
  · rw [decide_eq_false h, decide_eq_false]
    intro e
    have := Sum.inl.inj e
    omega
theorem gIn_kd (l : List (Nat × Int)) (j : Nat) : gIn (.int (j : Nat)) (kdD l) = some (.bool (valN l j).isSome) := by
  show (some ((lookD (l.map fun p => (PyData.int ((p.1 : Nat) : Int), PyData.int p.2)) (.inl ((j : Nat) : Int))).isSome)).map PyData.bool = _
  rw [look_kd]
  cases valN l j <;> rfl
theorem gIx_kd {l : List (Nat × Int)} {j : Nat} {x : Int} (h : valN l j = some x) : gIx (kdD l) (.int (j : Nat)) = some (.int x) := by
  show lookD (l.map fun p => (PyData.int ((p.1 : Nat) : Int), PyData.int p.2)) (.inl ((j : Nat) : Int)) = _
  rw [look_kd, h]
  rfl
theorem put_kd {l : List (Nat × Int)} {j : Nat} {x : Int} (hl : l.length ≤ 1000) (hn : ∀ p ∈ l, p.1 ≠ j) : putO (.dK (kd l)) (.int (j : Nat)) (.int x) = some (.dK (kd (l ++ [(j, x)]))) := by
  have : (kd l).length < lim := by
    unfold kd
    rw [List.length_map]
    exact Nat.lt_of_le_of_lt hl (by decide)
  show (if (kd l).length < lim then (some (Sum.inl ((j : Nat) : Int)) : Option Key).map fun q => Own.dK (putG (kd l) q (.int x)) else none) = _
  rw [if_pos this, Option.map_some, putG_new fun p m => by
    obtain ⟨q, mq, rfl⟩ := List.mem_map.mp m
    intro e
    have := Sum.inl.inj e
    exact hn q mq (by omega)]
  unfold kd
  rw [List.map_append]
  rfl
def sumV (l : List (Nat × Int)) (js : List Nat) : Int := (js.map fun j => (valN l j).getD 0).sum
def mnAt (cs : List Rw) (i : Nat) : Int := match cs[i]? with
  | some r => r.mn
  | none => 0
def gq (p : List Int) (i : Nat) : Int := p.getD i 0
def leftAt (cs : List Rw) (p q : List Int) (fo : List (Nat × Int)) (i : Nat) : Int := gq p i - gq q i + sumV fo (chI cs i)
def recStep (cs : List Rw) (p q : List Int) (s : List (Nat × Int) × List (Nat × Int)) (i : Nat) : List (Nat × Int) × List (Nat × Int) :=
  if ((chI cs i).all fun j => (valN s.1 j).isSome) = false then s
  else if mnAt cs i = 0 ∧ leftAt cs p q s.1 i ≠ 0 then (s.1, s.2 ++ [(i, leftAt cs p q s.1 i)])
  else if 0 < mnAt cs i ∧ leftAt cs p q s.1 i % mnAt cs i ≠ 0 then (s.1, s.2 ++ [(i, leftAt cs p q s.1 i % mnAt cs i)])
  else (s.1 ++ [(i, if 0 < mnAt cs i then leftAt cs p q s.1 i / mnAt cs i else 0)], s.2)
theorem gq_get {p : List Int} {i : Nat} (h : i < p.length) : (p.map PyData.int)[i]? = some (.int (gq p i)) := by
  unfold gq
  rw [List.getElem?_map, List.getElem?_eq_getElem h, List.getD_eq_getElem?_getD, List.getElem?_eq_getElem h]
  rfl
theorem ixq_ps {p : List Int} {i : Nat} (h : i < p.length) : gIx (psD p) (.int (i : Nat)) = some (.int (gq p i)) := atI_at (gq_get h)
end DV

set_option Elab.async false
set_option linter.all false
set_option maxRecDepth 100000
set_option maxHeartbeats 4000000
set_option autoImplicit false
/-! MxS2: reckoned, one kind. -/
namespace DV
open PySem L2

theorem rec_turn {cs : List Rw} (h : Coins cs) {p q : List Int} (hp : p.length = cs.length) (hq : q.length = cs.length) {i : Nat} {r : Rw} (hi : cs[i]? = some r) {s : List (Nat × Int) × List (Nat × Int)} (h1 : s.1.length ≤ 1000) (h2 : s.2.length ≤ 1000) (n1 : ∀ z ∈ s.1, z.1 ≠ i) (n2 : ∀ z ∈ s.2, z.1 ≠ i)
    (hb : (leftAt cs p q s.1 i).natAbs < 2 ^ 200) {x6 x7 x8 x9 : Option D} :
    ∃ (fl : Fw) (y6 y8 y9 : Option D), (fl = .nx ∨ fl = .ct) ∧ b_reckoned_1 [some (.imm (csD cs)), some (.imm (psD p)), some (.imm (psD q)), some (.own false (.dK (kd s.1))), some (.own false (.dK (kd s.2))), some (.imm (.int (i : Nat))), x6.map .imm, x7.map .imm, x8.map .imm, x9.map .imm] = .ok fl [some (.imm (csD cs)), some (.imm (psD p)), some (.imm (psD q)), some (.own false (.dK (kd (recStep cs p q s i).1))), some (.own false (.dK (kd (recStep cs p q s i).2))), some (.imm (.int (i : Nat))), y6.map .imm, x7.map .imm, y8.map .imm, y9.map .imm] := by
  have h8 := (coins_len h).2
  have hil := (List.getElem?_eq_some_iff.mp hi).1
  have el := e_lesser h hi
  have mm : mnAt cs i = r.mn := by unfold mnAt; rw [hi]
  have lc : (chI cs i).length ≤ lim := by
    have := chFrom_len (s := nmAt cs i) cs 0
    have h2 : (chI cs i).length ≤ 1000 := Nat.le_trans this (by omega)
    exact Nat.le_trans h2 (by decide)
  have ko := kd_own s.1
  have st6 : sSet 6 (mImm (mCallA 2 m_lesser (mCons (mVar 0) (mCons (mVar 5) mNil)))) [some (.imm (csD cs)), some (.imm (psD p)), some (.imm (psD q)), some (.own false (.dK (kd s.1))), some (.own false (.dK (kd s.2))), some (.imm (.int (i : Nat))), x6.map .imm, x7.map .imm, x8.map .imm, x9.map .imm] = .ok .nx [some (.imm (csD cs)), some (.imm (psD p)), some (.imm (psD q)), some (.own false (.dK (kd s.1))), some (.own false (.dK (kd s.2))), some (.imm (.int (i : Nat))), some (.imm (.list (natsD (chI cs i)))), x7.map .imm, x8.map .imm, x9.map .imm] := by
    refine (set_eq (ρ' := [some (.imm (csD cs)), some (.imm (psD p)), some (.imm (psD q)), some (.own false (.dK (kd s.1))), some (.own false (.dK (kd s.2))), some (.imm (.int (i : Nat))), x6.map .imm, x7.map .imm, x8.map .imm, x9.map .imm]) (o := .dat (.list (natsD (chI cs i)))) (d := .list (natsD (chI cs i))) ?_ rfl (by cases x6 <;> rfl)).trans rfl
    generalize natsD (chI cs i) = N at el ⊢
    simp [runFn, startE, keepO, keepA, sRet, sRetN, sRetA, sRetNone, sSeq, sIf, sNx, sDrop, sSet, sTg, tN, canSet, sSetN, Md.bind, Md.ret, Md.opt, mVar, mC, mT, m2, m1, mIf, mAndV, mOrV, mNotV, mAndT, mOrT, mNotT, mChain, mCons, mNil, mCall, mCallN, mImm, mOwn, mTup, mLst, mLstN, mItems, mFrz, rs, im, rss, ims, ownD, argOf, argsOf, slotOf, isSlot, cellsBack, backA, mCallA, List.filterMap_cons, List.filterMap_nil, List.findIdx?_cons, List.findIdx?_nil, el]
  have it : mSeq (mVar 6) [some (.imm (csD cs)), some (.imm (psD p)), some (.imm (psD q)), some (.own false (.dK (kd s.1))), some (.own false (.dK (kd s.2))), some (.imm (.int (i : Nat))), some (.imm (.list (natsD (chI cs i)))), x7.map .imm, x8.map .imm, x9.map .imm] = .ok (natsD (chI cs i)) [some (.imm (csD cs)), some (.imm (psD p)), some (.imm (psD q)), some (.own false (.dK (kd s.1))), some (.own false (.dK (kd s.2))), some (.imm (.int (i : Nat))), some (.imm (.list (natsD (chI cs i)))), x7.map .imm, x8.map .imm, x9.map .imm] := by simp [mSeq, runFn, startE, keepO, keepA, sRet, sRetN, sRetA, sRetNone, sSeq, sIf, sNx, sDrop, sSet, sTg, tN, canSet, sSetN, Md.bind, Md.ret, Md.opt, mVar, mC, mT, m2, m1, mIf, mAndV, mOrV, mNotV, mAndT, mOrT, mNotT, mChain, mCons, mNil, mCall, mCallN, mImm, mOwn, mTup, mLst, mLstN, mItems, mFrz, rs, im, rss, ims, ownD, argOf, argsOf, slotOf, isSlot, cellsBack, backA, mCallA, List.filterMap_cons, List.filterMap_nil, List.findIdx?_cons, List.findIdx?_nil, items]
  have na : ([7] : List Nat).all (noOwn [some (.imm (csD cs)), some (.imm (psD p)), some (.imm (psD q)), some (.own false (.dK (kd s.1))), some (.own false (.dK (kd s.2))), some (.imm (.int (i : Nat))), some (.imm (.list (natsD (chI cs i)))), x7.map .imm, x8.map .imm, x9.map .imm]) = true := by cases x7 <;> rfl
  have e1 := lcL_ofN (vs := [7]) (tg := tN 7) (elt := x_reckoned_1) (fun j : Nat => PyData.int (j : Nat)) (fun j : Nat => .bool (valN s.1 j).isSome) [some (.imm (csD cs)), some (.imm (psD p)), some (.imm (psD q)), some (.own false (.dK (kd s.1))), some (.own false (.dK (kd s.2))), some (.imm (.int (i : Nat))), some (.imm (.list (natsD (chI cs i)))), none, x8.map .imm, x9.map .imm] (chI cs i) lc (fun j m => by
    have gi := gIn_kd s.1 j
    refine ⟨[some (.imm (csD cs)), some (.imm (psD p)), some (.imm (psD q)), some (.own false (.dK (kd s.1))), some (.own false (.dK (kd s.2))), some (.imm (.int (i : Nat))), some (.imm (.list (natsD (chI cs i)))), some (.imm (.int (j : Nat))), x8.map .imm, x9.map .imm], by simp [tN, canSet], .dat (.bool (valN s.1 j).isSome), [some (.imm (csD cs)), some (.imm (psD p)), some (.imm (psD q)), some (.own false (.dK (kd s.1))), some (.own false (.dK (kd s.2))), some (.imm (.int (i : Nat))), some (.imm (.list (natsD (chI cs i)))), some (.imm (.int (j : Nat))), x8.map .imm, x9.map .imm], ?_, rfl, rfl, rfl⟩
    generalize kdD s.1 = KD at gi ko
    generalize kd s.1 = KV at ko ⊢
    simp only [ownD] at ko
    simp [x_reckoned_1, runFn, startE, keepO, keepA, sRet, sRetN, sRetA, sRetNone, sSeq, sIf, sNx, sDrop, sSet, sTg, tN, canSet, sSetN, Md.bind, Md.ret, Md.opt, mVar, mC, mT, m2, m1, mIf, mAndV, mOrV, mNotV, mAndT, mOrT, mNotT, mChain, mCons, mNil, mCall, mCallN, mImm, mOwn, mTup, mLst, mLstN, mItems, mFrz, rs, im, rss, ims, ownD, argOf, argsOf, slotOf, isSlot, cellsBack, backA, mCallA, List.filterMap_cons, List.filterMap_nil, List.findIdx?_cons, List.findIdx?_nil, ko, gi])
  have c1 : c_reckoned_1 [some (.imm (csD cs)), some (.imm (psD p)), some (.imm (psD q)), some (.own false (.dK (kd s.1))), some (.own false (.dK (kd s.2))), some (.imm (.int (i : Nat))), some (.imm (.list (natsD (chI cs i)))), x7.map .imm, x8.map .imm, x9.map .imm] = .ok (.lst ((chI cs i).map fun j => .bool (valN s.1 j).isSome)) [some (.imm (csD cs)), some (.imm (psD p)), some (.imm (psD q)), some (.own false (.dK (kd s.1))), some (.own false (.dK (kd s.2))), some (.imm (.int (i : Nat))), some (.imm (.list (natsD (chI cs i)))), x7.map .imm, x8.map .imm, x9.map .imm] := by
    refine (mLc_eq it na e1).trans ?_
    cases x7 <;> rfl
  have ga := gAll_map (fun j => (valN s.1 j).isSome) (chI cs i)
  generalize ((chI cs i).map fun j => PyData.bool (valN s.1 j).isSome) = bs at c1 ga
  unfold recStep
  by_cases q1 : ((chI cs i).all fun j => (valN s.1 j).isSome) = false
  · rw [if_pos q1]
    rw [q1] at ga
    refine ⟨.ct, some (.list (natsD (chI cs i))), x8, x9, .inr rfl, ?_⟩
    unfold b_reckoned_1
    refine (sSeq_nx st6).trans ?_
    have : sIf (mNotT (mT (mCall gAll (mCons (mFrz c_reckoned_1) mNil)))) (Md.ret .ct) sNx [some (.imm (csD cs)), some (.imm (psD p)), some (.imm (psD q)), some (.own false (.dK (kd s.1))), some (.own false (.dK (kd s.2))), some (.imm (.int (i : Nat))), some (.imm (.list (natsD (chI cs i)))), x7.map .imm, x8.map .imm, x9.map .imm] = .ok .ct [some (.imm (csD cs)), some (.imm (psD p)), some (.imm (psD q)), some (.own false (.dK (kd s.1))), some (.own false (.dK (kd s.2))), some (.imm (.int (i : Nat))), some (.imm (.list (natsD (chI cs i)))), x7.map .imm, x8.map .imm, x9.map .imm] := by
      refine (sIf_t (ρ1 := [some (.imm (csD cs)), some (.imm (psD p)), some (.imm (psD q)), some (.own false (.dK (kd s.1))), some (.own false (.dK (kd s.2))), some (.imm (.int (i : Nat))), some (.imm (.list (natsD (chI cs i)))), x7.map .imm, x8.map .imm, x9.map .imm]) (by simp [runFn, startE, keepO, keepA, sRet, sRetN, sRetA, sRetNone, sSeq, sIf, sNx, sDrop, sSet, sTg, tN, canSet, sSetN, Md.bind, Md.ret, Md.opt, mVar, mC, mT, m2, m1, mIf, mAndV, mOrV, mNotV, mAndT, mOrT, mNotT, mChain, mCons, mNil, mCall, mCallN, mImm, mOwn, mTup, mLst, mLstN, mItems, mFrz, rs, im, rss, ims, ownD, argOf, argsOf, slotOf, isSlot, cellsBack, backA, mCallA, List.filterMap_cons, List.filterMap_nil, List.findIdx?_cons, List.findIdx?_nil, c1, ga])).trans rfl
    simp only [sSeq, Md.bind, this, Md.ret]
    rfl
  · have q1 : ((chI cs i).all fun j => (valN s.1 j).isSome) = true := by
      cases z : ((chI cs i).all fun j => (valN s.1 j).isSome) with
      | true => rfl
      | false => exact absurd z q1
    rw [if_neg (by rw [q1]; exact Bool.noConfusion)]
    rw [q1] at ga
    have e2 := lcL_ofN (vs := [7]) (tg := tN 7) (elt := x_reckoned_2) (fun j : Nat => PyData.int (j : Nat)) (fun j : Nat => .int ((valN s.1 j).getD 0)) [some (.imm (csD cs)), some (.imm (psD p)), some (.imm (psD q)), some (.own false (.dK (kd s.1))), some (.own false (.dK (kd s.2))), some (.imm (.int (i : Nat))), some (.imm (.list (natsD (chI cs i)))), none, x8.map .imm, x9.map .imm] (chI cs i) lc (fun j m => by
      have sj := List.all_eq_true.mp q1 j m
      obtain ⟨v, hv⟩ := Option.isSome_iff_exists.mp sj
      have gi := gIx_kd hv
      rw [hv]
      refine ⟨[some (.imm (csD cs)), some (.imm (psD p)), some (.imm (psD q)), some (.own false (.dK (kd s.1))), some (.own false (.dK (kd s.2))), some (.imm (.int (i : Nat))), some (.imm (.list (natsD (chI cs i)))), some (.imm (.int (j : Nat))), x8.map .imm, x9.map .imm], by simp [tN, canSet], .dat (.int v), [some (.imm (csD cs)), some (.imm (psD p)), some (.imm (psD q)), some (.own false (.dK (kd s.1))), some (.own false (.dK (kd s.2))), some (.imm (.int (i : Nat))), some (.imm (.list (natsD (chI cs i)))), some (.imm (.int (j : Nat))), x8.map .imm, x9.map .imm], ?_, rfl, rfl, rfl⟩
      generalize kdD s.1 = KD at gi ko
      generalize kd s.1 = KV at ko ⊢
      simp only [ownD] at ko
      simp [x_reckoned_2, runFn, startE, keepO, keepA, sRet, sRetN, sRetA, sRetNone, sSeq, sIf, sNx, sDrop, sSet, sTg, tN, canSet, sSetN, Md.bind, Md.ret, Md.opt, mVar, mC, mT, m2, m1, mIf, mAndV, mOrV, mNotV, mAndT, mOrT, mNotT, mChain, mCons, mNil, mCall, mCallN, mImm, mOwn, mTup, mLst, mLstN, mItems, mFrz, rs, im, rss, ims, ownD, argOf, argsOf, slotOf, isSlot, cellsBack, backA, mCallA, List.filterMap_cons, List.filterMap_nil, List.findIdx?_cons, List.findIdx?_nil, ko, gi])
    have c2 : c_reckoned_2 [some (.imm (csD cs)), some (.imm (psD p)), some (.imm (psD q)), some (.own false (.dK (kd s.1))), some (.own false (.dK (kd s.2))), some (.imm (.int (i : Nat))), some (.imm (.list (natsD (chI cs i)))), x7.map .imm, x8.map .imm, x9.map .imm] = .ok (.lst ((chI cs i).map fun j => .int ((valN s.1 j).getD 0))) [some (.imm (csD cs)), some (.imm (psD p)), some (.imm (psD q)), some (.own false (.dK (kd s.1))), some (.own false (.dK (kd s.2))), some (.imm (.int (i : Nat))), some (.imm (.list (natsD (chI cs i)))), x7.map .imm, x8.map .imm, x9.map .imm] := by
      refine (mLc_eq it na e2).trans ?_
      cases x7 <;> rfl
    have gs : gSum [.list ((chI cs i).map fun j => PyData.int ((valN s.1 j).getD 0))] = some (.int (sumV s.1 (chI cs i))) := by
      have : ((chI cs i).map fun j => PyData.int ((valN s.1 j).getD 0)) = ((chI cs i).map fun j => (valN s.1 j).getD 0).map .int := by rw [List.map_map]; rfl
      rw [this]
      show (intsD _).map (fun ns => PyData.int ns.sum) = _
      rw [intsD_map]
      rfl
    generalize ((chI cs i).map fun j => PyData.int ((valN s.1 j).getD 0)) = is at c2 gs
    have x1 := ixq_ps (p := p) (i := i) (by omega)
    have x2 := ixq_ps (p := q) (i := i) (by omega)
    have x3 := ixP_cs hi
    have x4 : gIx (rwD r) (.int 1) = some (.int r.mn) := rfl
    have lfd : gq p i - gq q i + sumV s.1 (chI cs i) = leftAt cs p q s.1 i := rfl
    rw [mm]
    have hmr := List.all_eq_true.mp (coins_parts' h).1 r (List.mem_of_getElem? hi)
    have mr : 0 ≤ r.mn ∧ r.mn ≤ 9 := by
      unfold rowB at hmr
      rw [Bool.and_eq_true] at hmr
      have := hmr.2
      split at this
      · have := of_decide_eq_true this; omega
      · rw [Bool.and_eq_true, decide_eq_true_eq, decide_eq_true_eq] at this; omega
    generalize leftAt cs p q s.1 i = lf at lfd hb ⊢
    have st7 : sIf (mNotT (mT (mCall gAll (mCons (mFrz c_reckoned_1) mNil)))) (Md.ret .ct) sNx [some (.imm (csD cs)), some (.imm (psD p)), some (.imm (psD q)), some (.own false (.dK (kd s.1))), some (.own false (.dK (kd s.2))), some (.imm (.int (i : Nat))), some (.imm (.list (natsD (chI cs i)))), x7.map .imm, x8.map .imm, x9.map .imm] = .ok .nx [some (.imm (csD cs)), some (.imm (psD p)), some (.imm (psD q)), some (.own false (.dK (kd s.1))), some (.own false (.dK (kd s.2))), some (.imm (.int (i : Nat))), some (.imm (.list (natsD (chI cs i)))), x7.map .imm, x8.map .imm, x9.map .imm] := by simp [runFn, startE, keepO, keepA, sRet, sRetN, sRetA, sRetNone, sSeq, sIf, sNx, sDrop, sSet, sTg, tN, canSet, sSetN, Md.bind, Md.ret, Md.opt, mVar, mC, mT, m2, m1, mIf, mAndV, mOrV, mNotV, mAndT, mOrT, mNotT, mChain, mCons, mNil, mCall, mCallN, mImm, mOwn, mTup, mLst, mLstN, mItems, mFrz, rs, im, rss, ims, ownD, argOf, argsOf, slotOf, isSlot, cellsBack, backA, mCallA, List.filterMap_cons, List.filterMap_nil, List.findIdx?_cons, List.findIdx?_nil, c1, ga]
    have st8 : sSet 8 (m2 gAdd (m2 DV.gSub (m2 gIx (mVar 1) (mVar 5)) (m2 gIx (mVar 2) (mVar 5))) (mCall gSum (mCons (mFrz c_reckoned_2) mNil))) [some (.imm (csD cs)), some (.imm (psD p)), some (.imm (psD q)), some (.own false (.dK (kd s.1))), some (.own false (.dK (kd s.2))), some (.imm (.int (i : Nat))), some (.imm (.list (natsD (chI cs i)))), x7.map .imm, x8.map .imm, x9.map .imm] = .ok .nx [some (.imm (csD cs)), some (.imm (psD p)), some (.imm (psD q)), some (.own false (.dK (kd s.1))), some (.own false (.dK (kd s.2))), some (.imm (.int (i : Nat))), some (.imm (.list (natsD (chI cs i)))), x7.map .imm, some (.imm (.int lf)), x9.map .imm] := by
      refine (set_eq (ρ' := [some (.imm (csD cs)), some (.imm (psD p)), some (.imm (psD q)), some (.own false (.dK (kd s.1))), some (.own false (.dK (kd s.2))), some (.imm (.int (i : Nat))), some (.imm (.list (natsD (chI cs i)))), x7.map .imm, x8.map .imm, x9.map .imm]) (o := .dat (.int lf)) (d := .int lf) ?_ rfl (by cases x8 <;> rfl)).trans rfl
      rw [← lfd]
      generalize psD p = P at *
      generalize psD q = Q at *
      simp [runFn, startE, keepO, keepA, sRet, sRetN, sRetA, sRetNone, sSeq, sIf, sNx, sDrop, sSet, sTg, tN, canSet, sSetN, Md.bind, Md.ret, Md.opt, mVar, mC, mT, m2, m1, mIf, mAndV, mOrV, mNotV, mAndT, mOrT, mNotT, mChain, mCons, mNil, mCall, mCallN, mImm, mOwn, mTup, mLst, mLstN, mItems, mFrz, rs, im, rss, ims, ownD, argOf, argsOf, slotOf, isSlot, cellsBack, backA, mCallA, List.filterMap_cons, List.filterMap_nil, List.findIdx?_cons, List.findIdx?_nil, x1, x2, gSub_int, gAdd_int, c2, gs]
    have st9 : sSet 9 (m2 gIx (m2 gIx (mVar 0) (mVar 5)) (mC (.int 1))) [some (.imm (csD cs)), some (.imm (psD p)), some (.imm (psD q)), some (.own false (.dK (kd s.1))), some (.own false (.dK (kd s.2))), some (.imm (.int (i : Nat))), some (.imm (.list (natsD (chI cs i)))), x7.map .imm, some (.imm (.int lf)), x9.map .imm] = .ok .nx [some (.imm (csD cs)), some (.imm (psD p)), some (.imm (psD q)), some (.own false (.dK (kd s.1))), some (.own false (.dK (kd s.2))), some (.imm (.int (i : Nat))), some (.imm (.list (natsD (chI cs i)))), x7.map .imm, some (.imm (.int lf)), some (.imm (.int r.mn))] := by
      refine (set_eq (ρ' := [some (.imm (csD cs)), some (.imm (psD p)), some (.imm (psD q)), some (.own false (.dK (kd s.1))), some (.own false (.dK (kd s.2))), some (.imm (.int (i : Nat))), some (.imm (.list (natsD (chI cs i)))), x7.map .imm, some (.imm (.int lf)), x9.map .imm]) (o := .dat (.int r.mn)) (d := .int r.mn) ?_ rfl (by cases x9 <;> rfl)).trans rfl
      generalize rwD r = R at x3 x4
      generalize csD cs = C at x3 ⊢
      simp [runFn, startE, keepO, keepA, sRet, sRetN, sRetA, sRetNone, sSeq, sIf, sNx, sDrop, sSet, sTg, tN, canSet, sSetN, Md.bind, Md.ret, Md.opt, mVar, mC, mT, m2, m1, mIf, mAndV, mOrV, mNotV, mAndT, mOrT, mNotT, mChain, mCons, mNil, mCall, mCallN, mImm, mOwn, mTup, mLst, mLstN, mItems, mFrz, rs, im, rss, ims, ownD, argOf, argsOf, slotOf, isSlot, cellsBack, backA, mCallA, List.filterMap_cons, List.filterMap_nil, List.findIdx?_cons, List.findIdx?_nil, x3, x4]
    unfold b_reckoned_1
    by_cases q2 : r.mn = 0 ∧ lf ≠ 0
    · rw [if_pos q2]
      have pk := put_kd (x := lf) h2 n2
      refine ⟨.nx, some (.list (natsD (chI cs i))), some (.int lf), some (.int r.mn), .inl rfl, (sSeq_nx st6).trans ((sSeq_nx st7).trans ((sSeq_nx st8).trans ((sSeq_nx st9).trans ?_)))⟩
      refine (sIf_t (ρ1 := [some (.imm (csD cs)), some (.imm (psD p)), some (.imm (psD q)), some (.own false (.dK (kd s.1))), some (.own false (.dK (kd s.2))), some (.imm (.int (i : Nat))), some (.imm (.list (natsD (chI cs i)))), x7.map .imm, some (.imm (.int lf)), some (.imm (.int r.mn))]) (by simp [runFn, startE, keepO, keepA, sRet, sRetN, sRetA, sRetNone, sSeq, sIf, sNx, sDrop, sSet, sTg, tN, canSet, sSetN, Md.bind, Md.ret, Md.opt, mVar, mC, mT, m2, m1, mIf, mAndV, mOrV, mNotV, mAndT, mOrT, mNotT, mChain, mCons, mNil, mCall, mCallN, mImm, mOwn, mTup, mLst, mLstN, mItems, mFrz, rs, im, rss, ims, ownD, argOf, argsOf, slotOf, isSlot, cellsBack, backA, mCallA, List.filterMap_cons, List.filterMap_nil, List.findIdx?_cons, List.findIdx?_nil, gEq_int, gNe_int, q2.1, q2.2])).trans ?_
      generalize kd s.2 = K2 at pk ⊢
      simp [sPut, runFn, startE, keepO, keepA, sRet, sRetN, sRetA, sRetNone, sSeq, sIf, sNx, sDrop, sSet, sTg, tN, canSet, sSetN, Md.bind, Md.ret, Md.opt, mVar, mC, mT, m2, m1, mIf, mAndV, mOrV, mNotV, mAndT, mOrT, mNotT, mChain, mCons, mNil, mCall, mCallN, mImm, mOwn, mTup, mLst, mLstN, mItems, mFrz, rs, im, rss, ims, ownD, argOf, argsOf, slotOf, isSlot, cellsBack, backA, mCallA, List.filterMap_cons, List.filterMap_nil, List.findIdx?_cons, List.findIdx?_nil, pk]
    · rw [if_neg q2]
      have t1 : ∀ f g, sIf (mAndT (mT (m2 gEq (mVar 9) (mC (.int 0)))) (mT (m2 gNe (mVar 8) (mC (.int 0))))) f g [some (.imm (csD cs)), some (.imm (psD p)), some (.imm (psD q)), some (.own false (.dK (kd s.1))), some (.own false (.dK (kd s.2))), some (.imm (.int (i : Nat))), some (.imm (.list (natsD (chI cs i)))), x7.map .imm, some (.imm (.int lf)), some (.imm (.int r.mn))] = g [some (.imm (csD cs)), some (.imm (psD p)), some (.imm (psD q)), some (.own false (.dK (kd s.1))), some (.own false (.dK (kd s.2))), some (.imm (.int (i : Nat))), some (.imm (.list (natsD (chI cs i)))), x7.map .imm, some (.imm (.int lf)), some (.imm (.int r.mn))] := fun f g => by
        refine sIf_f ?_
        by_cases z : r.mn = 0
        · have z2 : lf = 0 := Classical.byContradiction fun w => q2 ⟨z, w⟩
          simp [runFn, startE, keepO, keepA, sRet, sRetN, sRetA, sRetNone, sSeq, sIf, sNx, sDrop, sSet, sTg, tN, canSet, sSetN, Md.bind, Md.ret, Md.opt, mVar, mC, mT, m2, m1, mIf, mAndV, mOrV, mNotV, mAndT, mOrT, mNotT, mChain, mCons, mNil, mCall, mCallN, mImm, mOwn, mTup, mLst, mLstN, mItems, mFrz, rs, im, rss, ims, ownD, argOf, argsOf, slotOf, isSlot, cellsBack, backA, mCallA, List.filterMap_cons, List.filterMap_nil, List.findIdx?_cons, List.findIdx?_nil, gEq_int, gNe_int, z, z2]
        · simp [runFn, startE, keepO, keepA, sRet, sRetN, sRetA, sRetNone, sSeq, sIf, sNx, sDrop, sSet, sTg, tN, canSet, sSetN, Md.bind, Md.ret, Md.opt, mVar, mC, mT, m2, m1, mIf, mAndV, mOrV, mNotV, mAndT, mOrT, mNotT, mChain, mCons, mNil, mCall, mCallN, mImm, mOwn, mTup, mLst, mLstN, mItems, mFrz, rs, im, rss, ims, ownD, argOf, argsOf, slotOf, isSlot, cellsBack, backA, mCallA, List.filterMap_cons, List.filterMap_nil, List.findIdx?_cons, List.findIdx?_nil, gEq_int, gNe_int, z]
      have gm : 0 < r.mn → gMod (.int lf) (.int r.mn) = some (.int (lf % r.mn)) := fun z => by
        show (if cMod lf r.mn = true then some (PyData.int (lf % r.mn)) else none) = _
        rw [if_pos (show cMod lf r.mn = true from decide_eq_true z)]
      have gd : 0 < r.mn → gDiv (.int lf) (.int r.mn) = some (.int (lf / r.mn)) := fun z => by
        show (if cDiv lf r.mn = true then some (PyData.int (lf / r.mn)) else none) = _
        have : cDiv lf r.mn = true := by
          unfold cDiv
          rw [decide_eq_true z, decide_eq_true (Nat.lt_trans (log2_small (k := 64) (by omega) (by omega) (by decide)) (by decide))]
          rfl
        rw [if_pos this]
      by_cases q3 : 0 < r.mn ∧ lf % r.mn ≠ 0
      · rw [if_pos q3]
        have gm := gm q3.1
        have pk := put_kd (x := lf % r.mn) h2 n2
        refine ⟨.nx, some (.list (natsD (chI cs i))), some (.int lf), some (.int r.mn), .inl rfl, (sSeq_nx st6).trans ((sSeq_nx st7).trans ((sSeq_nx st8).trans ((sSeq_nx st9).trans ((t1 _ _).trans ?_))))⟩
        refine (sIf_t (ρ1 := [some (.imm (csD cs)), some (.imm (psD p)), some (.imm (psD q)), some (.own false (.dK (kd s.1))), some (.own false (.dK (kd s.2))), some (.imm (.int (i : Nat))), some (.imm (.list (natsD (chI cs i)))), x7.map .imm, some (.imm (.int lf)), some (.imm (.int r.mn))]) ?_).trans ?_
        · have g0 : gNe (.int (lf % r.mn)) (.int 0) = some (.bool true) := by rw [gNe_int, decide_eq_false q3.2]; rfl
          generalize lf % r.mn = M at gm g0
          simp [runFn, startE, keepO, keepA, sRet, sRetN, sRetA, sRetNone, sSeq, sIf, sNx, sDrop, sSet, sTg, tN, canSet, sSetN, Md.bind, Md.ret, Md.opt, mVar, mC, mT, m2, m1, mIf, mAndV, mOrV, mNotV, mAndT, mOrT, mNotT, mChain, mCons, mNil, mCall, mCallN, mImm, mOwn, mTup, mLst, mLstN, mItems, mFrz, rs, im, rss, ims, ownD, argOf, argsOf, slotOf, isSlot, cellsBack, backA, mCallA, List.filterMap_cons, List.filterMap_nil, List.findIdx?_cons, List.findIdx?_nil, gGt_int, q3.1, gm, g0]
        · generalize lf % r.mn = M at gm pk ⊢
          generalize kd s.2 = K2 at pk ⊢
          simp [sPut, runFn, startE, keepO, keepA, sRet, sRetN, sRetA, sRetNone, sSeq, sIf, sNx, sDrop, sSet, sTg, tN, canSet, sSetN, Md.bind, Md.ret, Md.opt, mVar, mC, mT, m2, m1, mIf, mAndV, mOrV, mNotV, mAndT, mOrT, mNotT, mChain, mCons, mNil, mCall, mCallN, mImm, mOwn, mTup, mLst, mLstN, mItems, mFrz, rs, im, rss, ims, ownD, argOf, argsOf, slotOf, isSlot, cellsBack, backA, mCallA, List.filterMap_cons, List.filterMap_nil, List.findIdx?_cons, List.findIdx?_nil, gm, pk]
      · rw [if_neg q3]
        have t2 : ∀ f g, sIf (mAndT (mT (m2 gGt (mVar 9) (mC (.int 0)))) (mT (m2 gNe (m2 gMod (mVar 8) (mVar 9)) (mC (.int 0))))) f g [some (.imm (csD cs)), some (.imm (psD p)), some (.imm (psD q)), some (.own false (.dK (kd s.1))), some (.own false (.dK (kd s.2))), some (.imm (.int (i : Nat))), some (.imm (.list (natsD (chI cs i)))), x7.map .imm, some (.imm (.int lf)), some (.imm (.int r.mn))] = g [some (.imm (csD cs)), some (.imm (psD p)), some (.imm (psD q)), some (.own false (.dK (kd s.1))), some (.own false (.dK (kd s.2))), some (.imm (.int (i : Nat))), some (.imm (.list (natsD (chI cs i)))), x7.map .imm, some (.imm (.int lf)), some (.imm (.int r.mn))] := fun f g => by
          refine sIf_f ?_
          by_cases z : 0 < r.mn
          · have gm := gm z
            have z2 : lf % r.mn = 0 := Classical.byContradiction fun w => q3 ⟨z, w⟩
            rw [z2] at gm
            simp [runFn, startE, keepO, keepA, sRet, sRetN, sRetA, sRetNone, sSeq, sIf, sNx, sDrop, sSet, sTg, tN, canSet, sSetN, Md.bind, Md.ret, Md.opt, mVar, mC, mT, m2, m1, mIf, mAndV, mOrV, mNotV, mAndT, mOrT, mNotT, mChain, mCons, mNil, mCall, mCallN, mImm, mOwn, mTup, mLst, mLstN, mItems, mFrz, rs, im, rss, ims, ownD, argOf, argsOf, slotOf, isSlot, cellsBack, backA, mCallA, List.filterMap_cons, List.filterMap_nil, List.findIdx?_cons, List.findIdx?_nil, gGt_int, z, gm, gNe_int]
          · simp [runFn, startE, keepO, keepA, sRet, sRetN, sRetA, sRetNone, sSeq, sIf, sNx, sDrop, sSet, sTg, tN, canSet, sSetN, Md.bind, Md.ret, Md.opt, mVar, mC, mT, m2, m1, mIf, mAndV, mOrV, mNotV, mAndT, mOrT, mNotT, mChain, mCons, mNil, mCall, mCallN, mImm, mOwn, mTup, mLst, mLstN, mItems, mFrz, rs, im, rss, ims, ownD, argOf, argsOf, slotOf, isSlot, cellsBack, backA, mCallA, List.filterMap_cons, List.filterMap_nil, List.findIdx?_cons, List.findIdx?_nil, gGt_int, z]
        refine ⟨.nx, some (.list (natsD (chI cs i))), some (.int lf), some (.int r.mn), .inl rfl, (sSeq_nx st6).trans ((sSeq_nx st7).trans ((sSeq_nx st8).trans ((sSeq_nx st9).trans ((t1 _ _).trans ((t2 _ _).trans ?_)))))⟩
        have pk := put_kd (x := if 0 < r.mn then lf / r.mn else 0) h1 n1
        by_cases z : 0 < r.mn
        · have gd := gd z
          rw [if_pos z] at pk ⊢
          generalize lf / r.mn = M at gd pk ⊢
          generalize kd s.1 = K1 at pk ⊢
          simp [sPut, runFn, startE, keepO, keepA, sRet, sRetN, sRetA, sRetNone, sSeq, sIf, sNx, sDrop, sSet, sTg, tN, canSet, sSetN, Md.bind, Md.ret, Md.opt, mVar, mC, mT, m2, m1, mIf, mAndV, mOrV, mNotV, mAndT, mOrT, mNotT, mChain, mCons, mNil, mCall, mCallN, mImm, mOwn, mTup, mLst, mLstN, mItems, mFrz, rs, im, rss, ims, ownD, argOf, argsOf, slotOf, isSlot, cellsBack, backA, mCallA, List.filterMap_cons, List.filterMap_nil, List.findIdx?_cons, List.findIdx?_nil, gGt_int, z, gd, pk]
        · rw [if_neg z] at pk ⊢
          generalize kd s.1 = K1 at pk ⊢
          simp [sPut, runFn, startE, keepO, keepA, sRet, sRetN, sRetA, sRetNone, sSeq, sIf, sNx, sDrop, sSet, sTg, tN, canSet, sSetN, Md.bind, Md.ret, Md.opt, mVar, mC, mT, m2, m1, mIf, mAndV, mOrV, mNotV, mAndT, mOrT, mNotT, mChain, mCons, mNil, mCall, mCallN, mImm, mOwn, mTup, mLst, mLstN, mItems, mFrz, rs, im, rss, ims, ownD, argOf, argsOf, slotOf, isSlot, cellsBack, backA, mCallA, List.filterMap_cons, List.filterMap_nil, List.findIdx?_cons, List.findIdx?_nil, gGt_int, z, pk]
end DV

set_option Elab.async false
set_option linter.all false
set_option maxRecDepth 100000
set_option maxHeartbeats 4000000
set_option autoImplicit false
/-! MxS3: reckoned, all kinds. -/
namespace DV
open PySem L2
def Bd (k : Nat) : Int := 2 ^ 110 * 16 ^ k
theorem Bd_succ (k : Nat) : Bd (k + 1) = 16 * Bd k := by
  unfold Bd
  rw [Int.pow_succ]
  omega
theorem Bd_pos (k : Nat) : 2 ^ 110 ≤ Bd k := by
  induction k with
  | zero => exact Int.le_refl _
  | succ k ih => rw [Bd_succ]; omega
theorem Bd_le (k : Nat) (h : k ≤ 8) : Bd k ≤ 2 ^ 142 := by
  match k, h with
  | 0, _ => decide
  | 1, _ => decide
  | 2, _ => decide
  | 3, _ => decide
  | 4, _ => decide
  | 5, _ => decide
  | 6, _ => decide
  | 7, _ => decide
  | 8, _ => decide
  | k + 9, h => omega
theorem valN_mem {l : List (Nat × Int)} {j : Nat} {x : Int} (h : valN l j = some x) : (j, x) ∈ l := by
  unfold valN at h
  cases e : l.find? fun p => decide (p.1 = j) with
  | none => rw [e] at h; cases h
  | some p =>
    rw [e] at h
    have h : p.2 = x := Option.some.inj h
    have m := List.mem_of_find?_eq_some e
    have k : p.1 = j := by simpa using List.find?_some e
    rw [← h, ← k]
    exact m
theorem sumV_bd {l : List (Nat × Int)} {B : Int} (h0 : 0 ≤ B) (h : ∀ z ∈ l, -B ≤ z.2 ∧ z.2 ≤ B) : ∀ js : List Nat, -(js.length * B) ≤ sumV l js ∧ sumV l js ≤ js.length * B
  | [] => by simp [sumV]
  | j :: js => by
    have ih := sumV_bd h0 h js
    have e : sumV l (j :: js) = (valN l j).getD 0 + sumV l js := by unfold sumV; rw [List.map_cons, List.sum_cons]
    have v : -B ≤ (valN l j).getD 0 ∧ (valN l j).getD 0 ≤ B := by
      cases q : valN l j with
      | none => exact ⟨by show -B ≤ 0; omega, h0⟩
      | some x => exact h _ (valN_mem q)
    rw [e, List.length_cons]
    push_cast
    rw [Int.add_mul, Int.one_mul]
    omega
theorem div_bd {x m B : Int} (hm : 0 < m) (h1 : -B ≤ x) (h2 : x ≤ B) (h0 : 0 ≤ B) : -B ≤ x / m ∧ x / m ≤ B := by
  constructor
  · have : -B * m ≤ x := by
      have : B * 1 ≤ B * m := Int.mul_le_mul_of_nonneg_left (by omega) h0
      rw [Int.neg_mul]
      omega
    exact Int.le_ediv_of_mul_le hm this
  · have : x < (B + 1) * m := by
      have : (B + 1) * 1 ≤ (B + 1) * m := Int.mul_le_mul_of_nonneg_left (by omega) (by omega)
      omega
    have := Int.ediv_lt_of_lt_mul hm this
    omega
/-- the state behind k kinds -/
structure RecInv (cs : List Rw) (F : List Nat) (k : Nat) (s : List (Nat × Int) × List (Nat × Int)) : Prop where
  l1 : s.1.length ≤ k
  l2 : s.2.length ≤ k
  k1 : ∀ z ∈ s.1, z.1 ∈ F.take k
  k2 : ∀ z ∈ s.2, z.1 ∈ F.take k
  bd : ∀ z ∈ s.1, -(Bd k) ≤ z.2 ∧ z.2 ≤ Bd k
theorem left_bd {cs : List Rw} (h : Coins cs) {p q : List Int} (hp : ∀ i, -(2 ^ 105) ≤ gq p i ∧ gq p i ≤ 2 ^ 105) (hq : ∀ i, -(2 ^ 105) ≤ gq q i ∧ gq q i ≤ 2 ^ 105) {F : List Nat} {k : Nat} {s : List (Nat × Int) × List (Nat × Int)} (I : RecInv cs F k s) (i : Nat) :
    -(Bd (k + 1)) ≤ leftAt cs p q s.1 i ∧ leftAt cs p q s.1 i ≤ Bd (k + 1) := by
  have h8 := (coins_len h).2
  have b0 := Bd_pos k
  have sb := sumV_bd (B := Bd k) (by omega) I.bd (chI cs i)
  have lc := chFrom_len (s := nmAt cs i) cs 0
  have lc : ((chI cs i).length : Int) ≤ 8 := by
    have : (chI cs i).length ≤ cs.length := lc
    omega
  have m8 : ((chI cs i).length : Int) * Bd k ≤ 8 * Bd k := Int.mul_le_mul_of_nonneg_right lc (by omega)
  have a := hp i
  have b := hq i
  unfold leftAt
  rw [Bd_succ]
  omega
theorem RecInv.step {cs : List Rw} (h : Coins cs) {p q : List Int} (hp : ∀ i, -(2 ^ 105) ≤ gq p i ∧ gq p i ≤ 2 ^ 105) (hq : ∀ i, -(2 ^ 105) ≤ gq q i ∧ gq q i ≤ 2 ^ 105) {F : List Nat} {k : Nat} {s : List (Nat × Int) × List (Nat × Int)} (I : RecInv cs F k s) {i : Nat} (hi : F[k]? = some i) : RecInv cs F (k + 1) (recStep cs p q s i) := by
  have lb := left_bd h hp hq I i
  have b0 := Bd_pos k
  have b1 := Bd_succ k
  have tk : F.take (k + 1) = F.take k ++ [i] := by
    obtain ⟨hl, e⟩ := List.getElem?_eq_some_iff.mp hi
    rw [List.take_succ_eq_append_getElem hl, e]
  have up : ∀ {z : Nat}, z ∈ F.take k → z ∈ F.take (k + 1) := fun m => by rw [tk]; exact List.mem_append_left _ m
  have me : i ∈ F.take (k + 1) := by rw [tk]; exact List.mem_append_right _ (.head _)
  have old : RecInv cs F (k + 1) s := ⟨by have := I.l1; omega, by have := I.l2; omega, fun z m => up (I.k1 z m), fun z m => up (I.k2 z m), fun z m => by have := I.bd z m; omega⟩
  have wr : ∀ v, RecInv cs F (k + 1) (s.1, s.2 ++ [(i, v)]) := fun v => ⟨old.l1, by have := I.l2; show (s.2 ++ [(i, v)]).length ≤ k + 1; rw [List.length_append, List.length_singleton]; omega, old.k1, fun z m => by
    rcases List.mem_append.mp m with m | m
    · exact old.k2 z m
    · rw [List.mem_singleton.mp m]; exact me, old.bd⟩
  unfold recStep
  split
  · exact old
  · split
    · exact wr _
    · split
      · exact wr _
      · refine ⟨by have := I.l1; show (s.1 ++ [(i, _)]).length ≤ k + 1; rw [List.length_append, List.length_singleton]; omega, old.l2, fun z m => ?_, old.k2, fun z m => ?_⟩
        · rcases List.mem_append.mp m with m | m
          · exact old.k1 z m
          · rw [List.mem_singleton.mp m]; exact me
        · rcases List.mem_append.mp m with m | m
          · exact old.bd z m
          · rw [List.mem_singleton.mp m]
            show -(Bd (k + 1)) ≤ (if 0 < mnAt cs i then leftAt cs p q s.1 i / mnAt cs i else 0) ∧ (if 0 < mnAt cs i then leftAt cs p q s.1 i / mnAt cs i else 0) ≤ Bd (k + 1)
            split
            · rename_i z
              exact div_bd z lb.1 lb.2 (by omega)
            · omega
def recAll (cs : List Rw) (p q : List Int) (F : List Nat) : List (Nat × Int) × List (Nat × Int) := F.foldl (recStep cs p q) ([], [])
theorem e_reckoned {cs : List Rw} (h : Coins cs) {p q : List Int} (lp : p.length = cs.length) (lq : q.length = cs.length) (hp : ∀ i, -(2 ^ 105) ≤ gq p i ∧ gq p i ≤ 2 ^ 105) (hq : ∀ i, -(2 ^ 105) ≤ gq q i ∧ gq q i ≤ 2 ^ 105) :
    ∃ F : List Nat, Below cs F ∧ F.length = cs.length ∧ m_reckoned [.imm (csD cs), .imm (psD p), .imm (psD q)] = .ok (.imm (.tuple [kdD (recAll cs p q F).1, kdD (recAll cs p q F).2])) [none, none, none, none, none, none, none, none, none, none] := by
  have h8 := (coins_len h).2
  obtain ⟨F, bF, lF, eF⟩ := e_from_below h
  refine ⟨F, bF, lF, ?_⟩
  have run := forL_run (tg := tN 5) (body := b_reckoned_1) (fun k ρ => ∃ (s : List (Nat × Int) × List (Nat × Int)) (x5 x6 x7 x8 x9 : Option D), s = (F.take k).foldl (recStep cs p q) ([], []) ∧ RecInv cs F k s ∧
      ρ = [some (.imm (csD cs)), some (.imm (psD p)), some (.imm (psD q)), some (.own false (.dK (kd s.1))), some (.own false (.dK (kd s.2))), x5.map .imm, x6.map .imm, x7.map .imm, x8.map .imm, x9.map .imm])
    (natsD F) [some (.imm (csD cs)), some (.imm (psD p)), some (.imm (psD q)), some (.own false (.dK [])), some (.own false (.dK [])), none, none, none, none, none]
    ⟨([], []), none, none, none, none, none, rfl, ⟨Nat.le_refl _, Nat.le_refl _, fun z m => absurd m List.not_mem_nil, fun z m => absurd m List.not_mem_nil, fun z m => absurd m List.not_mem_nil⟩, rfl⟩
    (fun k d ρ hd ⟨s, x5, x6, x7, x8, x9, es, I, e⟩ => by
      subst e
      unfold natsD at hd
      rw [List.getElem?_map] at hd
      cases hi : F[k]? with
      | none => rw [hi] at hd; cases hd
      | some i =>
        rw [hi] at hd
        have hd : PyData.int (i : Nat) = d := Option.some.inj hd
        subst hd
        have hk := (List.getElem?_eq_some_iff.mp hi).1
        have im := List.mem_of_getElem? hi
        have ilt := bF.lt i im
        have ei : cs[i]? = some cs[i] := List.getElem?_eq_getElem ilt
        have lb := left_bd h hp hq I i
        have bk := Bd_le (k + 1) (by omega)
        have ni : i ∉ F.take k := fun m => by
          obtain ⟨j, hj⟩ := List.mem_iff_getElem?.mp m
          rw [List.getElem?_take] at hj
          split at hj
          · rename_i hjk
            obtain ⟨a1, a2⟩ := List.getElem?_eq_some_iff.mp hj
            obtain ⟨b1, b2⟩ := List.getElem?_eq_some_iff.mp hi
            exact List.pairwise_iff_getElem.mp bF.nd j k a1 b1 hjk (a2.trans b2.symm)
          · cases hj
        obtain ⟨fl, y6, y8, y9, hfl, eb⟩ := rec_turn h lp lq ei (s := s) (by have := I.l1; omega) (by have := I.l2; omega) (fun z m e => ni (by rw [← e]; exact I.k1 z m)) (fun z m e => ni (by rw [← e]; exact I.k2 z m)) (by omega) (x6 := x6) (x7 := x7) (x8 := x8) (x9 := x9)
        refine ⟨[some (.imm (csD cs)), some (.imm (psD p)), some (.imm (psD q)), some (.own false (.dK (kd s.1))), some (.own false (.dK (kd s.2))), some (.imm (.int (i : Nat))), x6.map .imm, x7.map .imm, x8.map .imm, x9.map .imm], _, by cases x5 <;> simp [tN, canSet], ?_, recStep cs p q s i, some (.int (i : Nat)), y6, x7, y8, y9, ?_, I.step h hp hq hi, rfl⟩
        · rcases hfl with rfl | rfl
          · exact .inl eb
          · exact .inr eb
        · rw [List.take_succ_eq_append_getElem hk, List.foldl_append, ← es, (List.getElem?_eq_some_iff.mp hi).2]
          rfl)
  obtain ⟨ρ', e, s, x5, x6, x7, x8, x9, es, I, er⟩ := run
  have ln : (natsD F).length = F.length := by unfold natsD; rw [List.length_map]
  rw [ln, List.take_length] at es
  have sa : s = recAll cs p q F := es
  have o1 := kd_own s.1
  have o2 := kd_own s.2
  rw [← sa]
  refine run_rt (.imm (.tuple [kdD s.1, kdD s.2])) [some (.imm (csD cs)), some (.imm (psD p)), some (.imm (psD q)), some (.imm (kdD s.1)), some (.imm (kdD s.2)), x5.map .imm, x6.map .imm, x7.map .imm, x8.map .imm, x9.map .imm] ?_ ?_
  · refine seq_nx [some (.imm (csD cs)), some (.imm (psD p)), some (.imm (psD q)), some (.own false (.dK [])), none, none, none, none, none, none] (by simp [runFn, startE, keepO, keepA, sRet, sRetN, sRetA, sRetNone, sSeq, sIf, sNx, sDrop, sSet, sTg, tN, canSet, sSetN, Md.bind, Md.ret, Md.opt, mVar, mC, mT, m2, m1, mIf, mAndV, mOrV, mNotV, mAndT, mOrT, mNotT, mChain, mCons, mNil, mCall, mCallN, mImm, mOwn, mTup, mLst, mLstN, mItems, mFrz, rs, im, rss, ims, ownD, argOf, argsOf, slotOf, isSlot, cellsBack, backA, mCallA, List.filterMap_cons, List.filterMap_nil, List.findIdx?_cons, List.findIdx?_nil, mDict]) ?_
    refine seq_nx [some (.imm (csD cs)), some (.imm (psD p)), some (.imm (psD q)), some (.own false (.dK [])), some (.own false (.dK [])), none, none, none, none, none] (by simp [runFn, startE, keepO, keepA, sRet, sRetN, sRetA, sRetNone, sSeq, sIf, sNx, sDrop, sSet, sTg, tN, canSet, sSetN, Md.bind, Md.ret, Md.opt, mVar, mC, mT, m2, m1, mIf, mAndV, mOrV, mNotV, mAndT, mOrT, mNotT, mChain, mCons, mNil, mCall, mCallN, mImm, mOwn, mTup, mLst, mLstN, mItems, mFrz, rs, im, rss, ims, ownD, argOf, argsOf, slotOf, isSlot, cellsBack, backA, mCallA, List.filterMap_cons, List.filterMap_nil, List.findIdx?_cons, List.findIdx?_nil, mDict]) ?_
    refine seq_nx ρ' ((sFor_eq (ds := natsD F) (ρ1 := [some (.imm (csD cs)), some (.imm (psD p)), some (.imm (psD q)), some (.own false (.dK [])), some (.own false (.dK [])), none, none, none, none, none]) ?_).trans e) ?_
    · generalize natsD F = N at eF ⊢
      simp [mSeq, runFn, startE, keepO, keepA, sRet, sRetN, sRetA, sRetNone, sSeq, sIf, sNx, sDrop, sSet, sTg, tN, canSet, sSetN, Md.bind, Md.ret, Md.opt, mVar, mC, mT, m2, m1, mIf, mAndV, mOrV, mNotV, mAndT, mOrT, mNotT, mChain, mCons, mNil, mCall, mCallN, mImm, mOwn, mTup, mLst, mLstN, mItems, mFrz, rs, im, rss, ims, ownD, argOf, argsOf, slotOf, isSlot, cellsBack, backA, mCallA, List.filterMap_cons, List.filterMap_nil, List.findIdx?_cons, List.findIdx?_nil, eF, items]
    · rw [er]
      generalize kdD s.1 = D1 at o1 ⊢
      generalize kdD s.2 = D2 at o2 ⊢
      generalize kd s.1 = K1 at o1 ⊢
      generalize kd s.2 = K2 at o2 ⊢
      simp only [ownD] at o1 o2
      simp [mFrzV, runFn, startE, keepO, keepA, sRet, sRetN, sRetA, sRetNone, sSeq, sIf, sNx, sDrop, sSet, sTg, tN, canSet, sSetN, Md.bind, Md.ret, Md.opt, mVar, mC, mT, m2, m1, mIf, mAndV, mOrV, mNotV, mAndT, mOrT, mNotT, mChain, mCons, mNil, mCall, mCallN, mImm, mOwn, mTup, mLst, mLstN, mItems, mFrz, rs, im, rss, ims, ownD, argOf, argsOf, slotOf, isSlot, cellsBack, backA, mCallA, List.filterMap_cons, List.filterMap_nil, List.findIdx?_cons, List.findIdx?_nil, o1, o2, lim]
  · simp [keepO, keepA]
end DV

set_option Elab.async false
set_option linter.all false
set_option maxRecDepth 100000
set_option maxHeartbeats 4000000
set_option autoImplicit false
/-! MxT: what is counted, by the balance of each kind. -/
namespace DV
open PySem L2
/-- x changes of each kind lead from p to q -/
structure Sol (cs : List Rw) (p q : List Int) (x : Nat → Int) : Prop where
  eq : ∀ i, i < cs.length → gq p i - gq q i + ((chI cs i).map x).sum = mnAt cs i * x i
  root : ∀ i, i < cs.length → mnAt cs i = 0 → x i = 0
theorem valN_app (l : List (Nat × Int)) (i : Nat) (v : Int) (j : Nat) : valN (l ++ [(i, v)]) j = match valN l j with
    | some x => some x
    | none => if i = j then some v else none := by
  unfold valN
  rw [List.find?_append]
  cases e : l.find? fun p => decide (p.1 = j) with
  | some p => rfl
  | none =>
    by_cases h : i = j
    · simp [h]
    · simp [h]
theorem mn_nonneg {cs : List Rw} (h : Coins cs) {i : Nat} (hi : i < cs.length) : 0 ≤ mnAt cs i := by
  have ei : cs[i]? = some cs[i] := List.getElem?_eq_getElem hi
  have hmr := List.all_eq_true.mp (coins_parts' h).1 cs[i] (List.getElem_mem hi)
  unfold mnAt
  rw [ei]
  show 0 ≤ cs[i].mn
  unfold rowB at hmr
  rw [Bool.and_eq_true] at hmr
  have := hmr.2
  split at this
  · have := of_decide_eq_true this; omega
  · rw [Bool.and_eq_true, decide_eq_true_eq, decide_eq_true_eq] at this; omega
theorem ahead_take {cs : List Rw} {F : List Nat} (b : Below cs F) {k i : Nat} (hi : F[k]? = some i) : ∀ c ∈ chI cs i, c ∈ F.take k := by
  obtain ⟨hl, e⟩ := List.getElem?_eq_some_iff.mp hi
  have : F = F.take k ++ i :: F.drop (k + 1) := by rw [← e, List.getElem_cons_drop, List.take_append_drop]
  exact b.ahead _ _ _ this
theorem take_succ' {F : List Nat} {k i : Nat} (hi : F[k]? = some i) : F.take (k + 1) = F.take k ++ [i] := by
  obtain ⟨hl, e⟩ := List.getElem?_eq_some_iff.mp hi
  rw [List.take_succ_eq_append_getElem hl, e]
theorem sum_vals {l : List (Nat × Int)} {x : Nat → Int} : ∀ {js : List Nat}, (∀ j ∈ js, valN l j = some (x j)) → sumV l js = (js.map x).sum
  | [], _ => rfl
  | j :: js, h => by
    have ih := sum_vals (js := js) fun i m => h i (.tail _ m)
    unfold sumV at ih ⊢
    rw [List.map_cons, List.sum_cons, ih, h j (.head _), List.map_cons, List.sum_cons]
    rfl
/-- where there is an answer it is found -/
theorem sol_found {cs : List Rw} (h : Coins cs) {p q : List Int} {F : List Nat} (b : Below cs F) {x : Nat → Int} (sx : Sol cs p q x) : ∀ k, k ≤ F.length →
    ((F.take k).foldl (recStep cs p q) ([], [])).2 = [] ∧ ∀ j, valN ((F.take k).foldl (recStep cs p q) ([], [])).1 j = if j ∈ F.take k then some (x j) else none
  | 0, _ => by
    refine ⟨by simp, fun j => by simp [valN]⟩
  | k + 1, hk => by
    obtain ⟨h1, h2⟩ := sol_found h b sx k (by omega)
    have hi : F[k]? = some F[k] := List.getElem?_eq_getElem (by omega)
    have tk := take_succ' hi
    have ilt := b.lt F[k] (List.getElem_mem _)
    have ah := ahead_take b hi
    rw [tk, List.foldl_append]
    generalize hs : (F.take k).foldl (recStep cs p q) ([], []) = s at h1 h2
    generalize F[k] = i at hi tk ilt ah
    have ch : ∀ j ∈ chI cs i, valN s.1 j = some (x j) := fun j m => by rw [h2, if_pos (ah j m)]
    have al : ((chI cs i).all fun j => (valN s.1 j).isSome) = true := List.all_eq_true.mpr fun j m => by rw [ch j m]; rfl
    have lf : leftAt cs p q s.1 i = mnAt cs i * x i := by
      unfold leftAt
      rw [sum_vals ch]
      exact sx.eq i ilt
    have mn := mn_nonneg h ilt
    have st : recStep cs p q s i = (s.1 ++ [(i, x i)], s.2) := by
      unfold recStep
      rw [if_neg (by rw [al]; exact Bool.noConfusion), lf]
      by_cases z : mnAt cs i = 0
      · rw [if_neg (fun w => w.2 (by rw [z, Int.zero_mul])), if_neg (fun w => by omega), if_neg (by omega), sx.root i ilt z]
      · have zp : 0 < mnAt cs i := by omega
        rw [if_neg (fun w => z w.1), if_neg (fun w => w.2 (Int.mul_emod_right _ _)), if_pos zp, Int.mul_ediv_cancel_left _ z]
    show (recStep cs p q s i).2 = [] ∧ ∀ j, valN (recStep cs p q s i).1 j = _
    rw [st]
    refine ⟨h1, fun j => ?_⟩
    show valN (s.1 ++ [(i, x i)]) j = _
    rw [valN_app, h2 j]
    by_cases q1 : j ∈ F.take k
    · rw [if_pos q1, if_pos (List.mem_append_left _ q1)]
    · rw [if_neg q1]
      by_cases q2 : i = j
      · subst q2
        rw [if_pos (List.mem_append_right _ (.head _))]
        simp
      · have q3 : ¬ j ∈ F.take k ++ [i] := fun m => by
          rcases List.mem_append.mp m with m | m
          · exact q1 m
          · exact q2 (List.mem_singleton.mp m).symm
        rw [if_neg q3]
        simp [q2]
theorem wr_grows (cs : List Rw) (p q : List Int) (s : List (Nat × Int) × List (Nat × Int)) (i : Nat) : (recStep cs p q s i).2 = [] → s.2 = [] := by
  unfold recStep
  split
  · exact id
  · split
    · intro e; simp at e
    · split
      · intro e; simp at e
      · exact id
theorem wr_fold (cs : List Rw) (p q : List Int) : ∀ (l : List Nat) (s : List (Nat × Int) × List (Nat × Int)), (l.foldl (recStep cs p q) s).2 = [] → s.2 = []
  | [], _, e => e
  | i :: l, s, e => wr_grows cs p q s i (wr_fold cs p q l _ e)
theorem sumV_same {l l' : List (Nat × Int)} : ∀ {js : List Nat}, (∀ j ∈ js, valN l j = valN l' j) → sumV l js = sumV l' js
  | [], _ => rfl
  | j :: js, h => by
    have ih := sumV_same (js := js) fun i m => h i (.tail _ m)
    unfold sumV at ih ⊢
    rw [List.map_cons, List.sum_cons, ih, h j (.head _), List.map_cons, List.sum_cons]
/-- where nothing is wrong, an answer was found -/
theorem found_sol {cs : List Rw} (h : Coins cs) {p q : List Int} {F : List Nat} (b : Below cs F) (w : (recAll cs p q F).2 = []) : ∀ k, k ≤ F.length →
    (∀ i ∈ F.take k, ∃ v, valN ((F.take k).foldl (recStep cs p q) ([], [])).1 i = some v ∧ gq p i - gq q i + sumV ((F.take k).foldl (recStep cs p q) ([], [])).1 (chI cs i) = mnAt cs i * v ∧ (mnAt cs i = 0 → v = 0)) ∧
    ∀ j, j ∉ F.take k → valN ((F.take k).foldl (recStep cs p q) ([], [])).1 j = none
  | 0, _ => by
    refine ⟨fun i m => by simp at m, fun j _ => by simp [valN]⟩
  | k + 1, hk => by
    obtain ⟨h1, h2⟩ := found_sol h b w k (by omega)
    have hi : F[k]? = some F[k] := List.getElem?_eq_getElem (by omega)
    have tk := take_succ' hi
    have ilt := b.lt F[k] (List.getElem_mem _)
    have ah := ahead_take b hi
    have ahT : ∀ i' ∈ F.take (k + 1), ∀ c ∈ chI cs i', c ∈ F.take k := fun i' m c hc => by
      obtain ⟨j, hj⟩ := List.mem_iff_getElem?.mp m
      rw [List.getElem?_take] at hj
      split at hj
      · rename_i hjk
        have := ahead_take b hj c hc
        obtain ⟨t, ht⟩ := List.mem_iff_getElem?.mp this
        rw [List.getElem?_take] at ht
        split at ht
        · exact List.mem_iff_getElem?.mpr ⟨t, by rw [List.getElem?_take, if_pos (by omega)]; exact ht⟩
        · cases ht
      · cases hj
    have w2 : ((F.take (k + 1)).foldl (recStep cs p q) ([], [])).2 = [] := by
      refine wr_fold cs p q (F.drop (k + 1)) _ ?_
      rw [← List.foldl_append, List.take_append_drop]
      exact w
    rw [tk, List.foldl_append] at w2
    have nk : F[k] ∉ F.take k := fun m => by
      obtain ⟨j, hj⟩ := List.mem_iff_getElem?.mp m
      rw [List.getElem?_take] at hj
      split at hj
      · rename_i hjk
        obtain ⟨a1, a2⟩ := List.getElem?_eq_some_iff.mp hj
        exact List.pairwise_iff_getElem.mp b.nd j k a1 (by omega) hjk a2
      · cases hj
    rw [tk] at ahT ⊢
    rw [List.foldl_append]
    generalize hs : (F.take k).foldl (recStep cs p q) ([], []) = s at h1 h2 w2
    generalize F[k] = i at hi tk ilt ah nk ahT w2
    have w2 : (recStep cs p q s i).2 = [] := w2
    have ch : ∀ j ∈ chI cs i, ∃ v, valN s.1 j = some v := fun j m => by
      obtain ⟨v, e, _⟩ := h1 j (ah j m)
      exact ⟨v, e⟩
    have al : ((chI cs i).all fun j => (valN s.1 j).isSome) = true := List.all_eq_true.mpr fun j m => by
      obtain ⟨v, e⟩ := ch j m
      rw [e]; rfl
    have mn := mn_nonneg h ilt
    have ni := h2 i nk
    obtain ⟨v, st, bal, rt⟩ : ∃ v, recStep cs p q s i = (s.1 ++ [(i, v)], s.2) ∧ leftAt cs p q s.1 i = mnAt cs i * v ∧ (mnAt cs i = 0 → v = 0) := by
      unfold recStep at w2 ⊢
      rw [if_neg (by rw [al]; exact Bool.noConfusion)] at w2 ⊢
      by_cases c1 : mnAt cs i = 0 ∧ leftAt cs p q s.1 i ≠ 0
      · rw [if_pos c1] at w2; simp at w2
      · rw [if_neg c1] at w2 ⊢
        by_cases c2 : 0 < mnAt cs i ∧ leftAt cs p q s.1 i % mnAt cs i ≠ 0
        · rw [if_pos c2] at w2; simp at w2
        · rw [if_neg c2]
          refine ⟨_, rfl, ?_, fun z => if_neg (by omega)⟩
          by_cases z : 0 < mnAt cs i
          · rw [if_pos z]
            have : leftAt cs p q s.1 i % mnAt cs i = 0 := Classical.byContradiction fun y => c2 ⟨z, y⟩
            exact (Int.mul_ediv_cancel' (Int.dvd_of_emod_eq_zero this)).symm
          · have z0 : mnAt cs i = 0 := by omega
            have : leftAt cs p q s.1 i = 0 := Classical.byContradiction fun y => c1 ⟨z0, y⟩
            rw [this, z0, Int.zero_mul]
    show (∀ j ∈ F.take k ++ [i], ∃ v, valN (recStep cs p q s i).1 j = some v ∧ gq p j - gq q j + sumV (recStep cs p q s i).1 (chI cs j) = mnAt cs j * v ∧ (mnAt cs j = 0 → v = 0)) ∧ ∀ j, j ∉ F.take k ++ [i] → valN (recStep cs p q s i).1 j = none
    rw [st]
    have same : ∀ j ∈ F.take k, valN (s.1 ++ [(i, v)]) j = valN s.1 j := fun j m => by
      obtain ⟨u, e, _⟩ := h1 j m
      rw [valN_app, e]
    have sums : ∀ j ∈ F.take k ++ [i], sumV (s.1 ++ [(i, v)]) (chI cs j) = sumV s.1 (chI cs j) := fun j m => sumV_same fun c hc => same c (ahT j m c hc)
    refine ⟨fun j m => ?_, fun j m => ?_⟩
    · show ∃ u, valN (s.1 ++ [(i, v)]) j = some u ∧ gq p j - gq q j + sumV (s.1 ++ [(i, v)]) (chI cs j) = mnAt cs j * u ∧ (mnAt cs j = 0 → u = 0)
      rw [sums j m]
      rcases List.mem_append.mp m with m | m
      · rw [same j m]
        exact h1 j m
      · rw [List.mem_singleton.mp m]
        refine ⟨v, ?_, bal, rt⟩
        rw [valN_app, ni]
        simp
    · show valN (s.1 ++ [(i, v)]) j = none
      rw [valN_app, h2 j fun z => m (List.mem_append_left _ z)]
      have : ¬ i = j := fun e => m (by rw [← e]; exact List.mem_append_right _ (.head _))
      simp [this]
end DV

set_option Elab.async false
set_option linter.all false
set_option maxRecDepth 100000
set_option maxHeartbeats 4000000
set_option autoImplicit false
/-! MyA: the defs known by their mirrors, as plain functions. -/
namespace DV
open PySem L2
def DkL (n : Int) (l : List D) : Prop := Dk n (.lst l)
theorem DkL.mono {n m : Int} {l : List D} (h : DkL n l) (q : n ≤ m) : DkL m l := Dk.mono h q
theorem Dk.lst {n : Int} {o : Own} (h : Dk n o) : ∃ l, o = .lst l ∧ DkL n l := by
  obtain ⟨a, b, t, e, q⟩ := h
  exact ⟨_, e, a, b, t, rfl, q⟩
theorem y_deck (cell turn : Int) (ht : 0 ≤ turn) : ∃ l, DkL turn l ∧ p__law_deck (.int cell) (.int turn) = .ok l := by
  obtain ⟨o, d, e⟩ := e_deck cell turn ht
  obtain ⟨l, rfl, dl⟩ := d.lst
  exact ⟨l, dl, by unfold p__law_deck; rw [e]; rfl⟩
theorem y_pick {n : Int} {l : List D} {s : Int} (hd : DkL n l) (hn : n ≤ 100000000000) (hs : 0 < s) (hl : s < 2 ^ 200) : ∃ r l', 0 ≤ r ∧ r < s ∧ DkL (n + 1) l' ∧ p__law_pick l (.int s) = .ok (.int r, l') := by
  obtain ⟨r, o', h0, h1, d, e⟩ := e_pick hd hn hs hl
  obtain ⟨l', rfl, dl⟩ := d.lst
  exact ⟨r, l', h0, h1, dl, by unfold p__law_pick; rw [e]; rfl⟩
theorem y_one {n : Int} {l : List D} {ds : List D} (hd : DkL n l) (hn : n ≤ 100000000000) (hs : ds ≠ []) (hl : ds.length ≤ 4000000) : ∃ (i : Nat) (d : D) (l' : List D), ds[i]? = some d ∧ DkL (n + 1) l' ∧ p__law_one l (.list ds) = .ok (d, l') := by
  obtain ⟨i, d, o', hi, dk, e⟩ := e_one hd hn hs hl
  obtain ⟨l', rfl, dl⟩ := dk.lst
  exact ⟨i, d, l', hi, dl, by unfold p__law_one; rw [e]; rfl⟩
theorem y_coins {n : Int} {l : List D} {m : Int} (hd : DkL n l) (hn : n ≤ 100000000) (h1 : 1 ≤ m) (h8 : m ≤ 8) : ∃ (cs : List Rw) (l' : List D), Coins cs ∧ (cs.length : Int) ≤ m ∧ DkL (n + 50) l' ∧ p__law_coins l (.int m) = .ok (csD cs, l') := by
  obtain ⟨cs, o', h, hl, dk, e⟩ := e_coins hd hn h1 h8
  obtain ⟨l', rfl, dl⟩ := dk.lst
  exact ⟨cs, l', h, hl, dl, by unfold p__law_coins; rw [e]; rfl⟩
theorem y_purse {n : Int} {l : List D} {cs : List Rw} {h : Int} (c : Coins cs) (hd : DkL n l) (hn : n ≤ 1000000000) (h0 : 0 ≤ h) (h1 : h < 2 ^ 150) : ∃ (p : List Int) (l' : List D), Purse cs (max 1 h) p ∧ DkL (n + 24) l' ∧ p__law_purse l (csD cs) (.int h) = .ok (psD p, l') := by
  obtain ⟨p, o', hp, dk, e⟩ := e_purse c hd hn h0 h1
  obtain ⟨l', rfl, dl⟩ := dk.lst
  exact ⟨p, l', hp, dl, by unfold p__law_purse; rw [e]; rfl⟩
theorem y_row {cs : List Rw} (h : Coins cs) {n : Int} {l : List D} (hd : DkL n l) (hn : n ≤ 1000000000) {p : List Int} (hp : p.length = cs.length) (hp0 : ∀ x ∈ p, 0 ≤ x) {am far : Int} (m0 : 0 ≤ am) (m1 : am ≤ 60) (h1 : 1 ≤ far) (h2 : far < 2 ^ 150) :
    ∃ (L : List (Nat × Int)) (q : List Int) (l' : List D), FarRow cs far L ∧ (L.length : Int) ≤ am ∧ doneO cs (some p) L = some q ∧ DkL (n + 122) l' ∧
      p__law_row l (csD cs) (psD p) (.int am) (.int far) = .ok (L.map (chD cs), l') := by
  obtain ⟨L, q, o', hf, hl, hq, dk, e⟩ := e_row h hd hn hp hp0 m0 m1 h1 h2
  obtain ⟨l', rfl, dl⟩ := dk.lst
  exact ⟨L, q, l', hf, hl, hq, dl, by unfold p__law_row; rw [e]; rfl⟩
theorem y_ldone {cs : List Rw} (h : Coins cs) {L : List (Nat × Int)} {o : Option (List Int)} (hr : OkRow cs L) (hp : OkP cs o) : p__law_done (csD cs) (oD o) (rowsD cs L) = .ok (oD (doneO cs o L)) := by
  unfold p__law_done; rw [e_ldone h hr hp]; rfl
theorem y_need_purse {cs : List Rw} {p : List Int} (c : Coins cs) (h : Purse cs (10 ^ 30) p) : p_need_purse (csD cs) (psD p) = .ok .none := by
  unfold p_need_purse; rw [e_need_purse c h]; rfl
theorem y_is_stock {cs : List Rw} {d : D} (h : goodD d = true) : p_is_stock (csD cs) d = .ok (.bool (numsB cs.length (10 ^ 30) d)) := by
  unfold p_is_stock; rw [e_is_stock h]; rfl
theorem y_stock {cs : List Rw} {p : List Int} (c : Coins cs) (h : Purse cs (10 ^ 30) p) : p_is_stock (csD cs) (psD p) = .ok (.bool true) := by
  rw [y_is_stock (h.good c), h.nums]
theorem y_lesser {cs : List Rw} (h : Coins cs) {i : Nat} (hi : i < cs.length) : p_lesser (csD cs) (.int (i : Nat)) = .ok (natsD (chI cs i)) := by
  unfold p_lesser; rw [e_lesser h (List.getElem?_eq_getElem hi)]; rfl
theorem y_from_below {cs : List Rw} (h : Coins cs) : ∃ F : List Nat, Below cs F ∧ F.length = cs.length ∧ p_from_below (csD cs) = .ok (natsD F) := by
  obtain ⟨F, b, l, e⟩ := e_from_below h
  exact ⟨F, b, l, by unfold p_from_below; rw [e]; rfl⟩
/-! places -/
theorem ix_int {cs : List Rw} {i : Nat} (hi : i < cs.length) : gIx (csD cs) (.int (i : Nat)) = some (rwD cs[i]) := ix_cs (List.getElem?_eq_getElem hi)
theorem mn_get {cs : List Rw} {i : Nat} (hi : i < cs.length) : cs[i].mn = mnAt cs i := by unfold mnAt; rw [List.getElem?_eq_getElem hi]
theorem ix_mn {cs : List Rw} {i : Nat} (hi : i < cs.length) : gIx (rwD cs[i]) (.int 1) = some (.int (mnAt cs i)) := by rw [ix_rw1, mn_get hi]
theorem items_nats (F : List Nat) : items (.list (natsD F)) = some (natsD F) := rfl
theorem nats_map (F : List Nat) : natsD F = F.map fun j : Nat => PyData.int ((j : Nat) : Int) := rfl
theorem getL_int {p : List Int} {i : Nat} (h : i < p.length) : getL (p.map .int) (.int (i : Nat)) = some (.int (gq p i)) := atI_at (gq_get h)
theorem putL_int {p : List Int} {i : Nat} (x : Int) (h : i < p.length) : putL (p.map .int) (.int (i : Nat)) (.int x) = some ((p.set i x).map .int) := by
  have := putO_at (es := p.map PyData.int) (i := i) (.int x) (by rw [List.length_map]; exact h)
  unfold putL
  have e : ixN (p.map PyData.int).length ((i : Nat) : Int) = some i := by unfold ixN; rw [List.length_map]; simp [h]
  simp only [e, Option.map_some]
  rw [List.map_set]
theorem ixl_int {p : List Int} {i : Nat} (h : i < p.length) : gIx (.list (p.map .int)) (.int (i : Nat)) = some (.int (gq p i)) := atI_at (gq_get h)
theorem gq_set_same {p : List Int} {i : Nat} {x : Int} (h : i < p.length) : gq (p.set i x) i = x := gp_set_same h
theorem gq_set_ne {p : List Int} {i j : Nat} {x : Int} (h : i ≠ j) : gq (p.set i x) j = gq p j := gp_set_ne h
theorem gDiv_int {i j : Int} (h : 0 < j) (h2 : j < 2 ^ 200) : gDiv (.int i) (.int j) = some (.int (i / j)) := by
  show (if cDiv i j = true then some (PyData.int (i / j)) else none) = _
  have : j.natAbs.log2 < 9000 := Nat.lt_trans (log2_small (by omega) h2 (by decide)) (by decide)
  have c : cDiv i j = true := by unfold cDiv; rw [decide_eq_true h, decide_eq_true this]; rfl
  rw [if_pos c]
theorem gMod_int {i j : Int} (h : 0 < j) : gMod (.int i) (.int j) = some (.int (i % j)) := by
  show (if cMod i j = true then some (PyData.int (i % j)) else none) = _
  have c : cMod i j = true := by unfold cMod; exact decide_eq_true h
  rw [if_pos c]
theorem list_ext_gq {p q : List Int} (hl : p.length = q.length) (h : ∀ i, i < p.length → gq p i = gq q i) : p = q := by
  refine List.ext_getElem hl fun i h1 h2 => ?_
  have := h i h1
  unfold gq at this
  rw [List.getD_eq_getElem?_getD, List.getD_eq_getElem?_getD, List.getElem?_eq_getElem h1, List.getElem?_eq_getElem h2] at this
  exact this
end DV

set_option Elab.async false
set_option linter.all false
set_option maxRecDepth 100000
set_option maxHeartbeats 4000000
set_option autoImplicit false
/-! MyB: balances. -/
namespace DV
open PySem L2
theorem sum_add (x y : Nat → Int) : ∀ l : List Nat, (l.map fun i => x i + y i).sum = (l.map x).sum + (l.map y).sum
  | [] => rfl
  | i :: l => by simp only [List.map_cons, List.sum_cons, sum_add x y l]; omega
theorem sum_neg (x : Nat → Int) : ∀ l : List Nat, (l.map fun i => - x i).sum = - (l.map x).sum
  | [] => rfl
  | i :: l => by simp only [List.map_cons, List.sum_cons, sum_neg x l]; omega
theorem sum_zero {x : Nat → Int} : ∀ {l : List Nat}, (∀ i ∈ l, x i = 0) → (l.map x).sum = 0
  | [], _ => rfl
  | i :: l, h => by simp only [List.map_cons, List.sum_cons, h i (.head _), sum_zero (l := l) fun j m => h j (.tail _ m)]; omega
theorem sum_same {x y : Nat → Int} {l : List Nat} (h : ∀ i ∈ l, x i = y i) : (l.map x).sum = (l.map y).sum := by rw [List.map_congr_left h]
theorem sum_one (i : Nat) (t : Int) : ∀ {l : List Nat}, l.Nodup → (l.map fun j => if j = i then t else 0).sum = if i ∈ l then t else 0
  | [], _ => rfl
  | j :: l, nd => by
    obtain ⟨n1, n2⟩ := List.nodup_cons.mp nd
    simp only [List.map_cons, List.sum_cons, sum_one i t n2]
    by_cases h : j = i
    · subst h
      rw [if_pos rfl, if_neg n1, if_pos (.head _)]; omega
    · rw [if_neg h]
      by_cases q : i ∈ l
      · rw [if_pos q, if_pos (.tail _ q)]; omega
      · rw [if_neg q, if_neg fun z => by rcases List.mem_cons.mp z with e | m; exact h e.symm; exact q m]; omega
theorem Sol.refl (cs : List Rw) (p : List Int) : Sol cs p p (fun _ => 0) := ⟨fun i _ => by rw [sum_zero (fun _ _ => rfl), Int.mul_zero]; omega, fun _ _ _ => rfl⟩
theorem Sol.neg {cs : List Rw} {p q : List Int} {x : Nat → Int} (h : Sol cs p q x) : Sol cs q p (fun i => - x i) :=
  ⟨fun i hi => by have := h.eq i hi; rw [sum_neg, Int.mul_neg]; omega, fun i hi z => by rw [h.root i hi z]; rfl⟩
theorem Sol.add {cs : List Rw} {p q r : List Int} {x y : Nat → Int} (h : Sol cs p q x) (g : Sol cs q r y) : Sol cs p r (fun i => x i + y i) :=
  ⟨fun i hi => by have := h.eq i hi; have := g.eq i hi; rw [sum_add, Int.mul_add]; omega, fun i hi z => by rw [h.root i hi z, g.root i hi z]; rfl⟩
theorem Sol.congr {cs : List Rw} {p q : List Int} {x y : Nat → Int} (h : Sol cs p q x) (e : ∀ i, i < cs.length → x i = y i) : Sol cs p q y :=
  ⟨fun i hi => by rw [← sum_same (x := x) (y := y) fun j m => e j (ch_lt m), ← e i hi]; exact h.eq i hi, fun i hi z => by rw [← e i hi]; exact h.root i hi z⟩
/-- only what lies between counts -/
theorem Sol.shift {cs : List Rw} {p q p' q' : List Int} {x : Nat → Int} (h : Sol cs p q x) (e : ∀ i, i < cs.length → gq p' i - gq q' i = gq p i - gq q i) : Sol cs p' q' x :=
  ⟨fun i hi => by rw [e i hi]; exact h.eq i hi, h.root⟩
theorem mn_pos {cs : List Rw} (h : Coins cs) {i : Nat} (hi : i < cs.length) : mnAt cs i = 0 ∨ 2 ≤ mnAt cs i := by
  have m : cs[i] ∈ cs := List.getElem_mem hi
  have := coins_mn h m
  rw [mn_get hi] at this
  by_cases u : cs[i].up = ""
  · exact .inl (this.2.2.2 u)
  · exact .inr (this.2.2.1 u)
theorem mn_nine {cs : List Rw} (h : Coins cs) {i : Nat} (hi : i < cs.length) : 0 ≤ mnAt cs i ∧ mnAt cs i ≤ 9 := by
  have m : cs[i] ∈ cs := List.getElem_mem hi
  have := coins_mn h m
  rw [mn_get hi] at this
  exact ⟨this.1, this.2.1⟩
theorem nm_at {cs : List Rw} {i : Nat} {r : Rw} (h : cs[i]? = some r) : nmAt cs i = r.nm := by unfold nmAt; rw [h]
theorem mem_ch {cs : List Rw} {i j : Nat} : j ∈ chI cs i ↔ ∃ r, cs[j]? = some r ∧ r.up = nmAt cs i := by
  unfold chI
  rw [mem_chFrom, Nat.sub_zero]
  exact ⟨fun h => h.2, fun h => ⟨Nat.zero_le _, h⟩⟩
theorem ch_nodup (cs : List Rw) (i : Nat) : (chI cs i).Nodup := chFrom_nodup cs 0
/-- one greater kind -/
theorem ch_one {cs : List Rw} (h : Coins cs) {i j c : Nat} (hi : i < cs.length) (hj : j < cs.length) (h1 : c ∈ chI cs i) (h2 : c ∈ chI cs j) : i = j := by
  obtain ⟨r, e1, u1⟩ := mem_ch.mp h1
  obtain ⟨r', e2, u2⟩ := mem_ch.mp h2
  rw [e1] at e2; cases e2
  have a : cs[i]? = some cs[i] := List.getElem?_eq_getElem hi
  have b : cs[j]? = some cs[j] := List.getElem?_eq_getElem hj
  rw [nm_at a] at u1
  rw [nm_at b] at u2
  exact at_uniq (coins_nodup h) a b (u1.symm.trans u2)
theorem ch_mn {cs : List Rw} (h : Coins cs) {i c : Nat} (hi : i < cs.length) (h1 : c ∈ chI cs i) : 2 ≤ mnAt cs c ∧ mnAt cs c ≤ 9 := by
  obtain ⟨r, e1, u1⟩ := mem_ch.mp h1
  have m := List.mem_of_getElem? e1
  have a : cs[i]? = some cs[i] := List.getElem?_eq_getElem hi
  rw [nm_at a] at u1
  have ne : r.up ≠ "" := by rw [u1]; exact coins_nm_ne h (List.getElem_mem hi)
  have q := coins_mn h m
  have e : mnAt cs c = r.mn := by unfold mnAt; rw [e1]
  rw [e]
  exact ⟨q.2.2.1 ne, q.2.1⟩
theorem ch_lone {cs : List Rw} (h : Coins cs) {i c : Nat} (hi : i < cs.length) (h1 : c ∈ chI cs i) : c ≠ i := fun e => by
  subst e
  have := rk_child h hi h1
  omega
/-- a change's balance -/
theorem sol_step {cs : List Rw} (h : Coins cs) {p : List Int} (hp : p.length = cs.length) {c : Nat × Int} {r : Rw} {a : Nat} (hc : Chg cs c r a) : Sol cs p (stepP r.mn c.1 a p c.2) (fun i => if i = c.1 then c.2 else 0) := by
  obtain ⟨i, t⟩ := c
  have hi := (List.getElem?_eq_some_iff.mp hc.at_).1
  obtain ⟨r2, ha, hr2⟩ := hc.above
  have hal := (List.getElem?_eq_some_iff.mp ha).1
  have ne : a ≠ i := hc.ne
  have hia : i ∈ chI cs a := mem_ch.mpr ⟨r, hc.at_, by rw [nm_at ha, hr2]⟩
  have mni : mnAt cs i = r.mn := by unfold mnAt; rw [show cs[i]? = some r from hc.at_]
  have m2 := ch_mn h hal hia
  refine ⟨fun j hj => ?_, fun j hj z => ?_⟩
  · have gj : gq (stepP r.mn i a p t) j = if j = a then gq p a + t else if j = i then gq p i - r.mn * t else gq p j := by
      unfold stepP
      by_cases e1 : j = a
      · subst e1
        rw [if_pos rfl, gq_set_same (by rw [List.length_set, hp]; exact hj)]
        have : gp (p.set i (gp p i - r.mn * t)) j = gp p j := gp_set_ne (fun z => ne z.symm)
        rw [this]; rfl
      · rw [if_neg e1, gq_set_ne (fun z => e1 z.symm)]
        by_cases e2 : j = i
        · subst e2
          rw [if_pos rfl, gq_set_same (by rw [hp]; exact hj)]; rfl
        · rw [if_neg e2, gq_set_ne (fun z => e2 z.symm)]
    show gq p j - gq (stepP r.mn i a p t) j + ((chI cs j).map fun k => if k = i then t else 0).sum = mnAt cs j * if j = i then t else 0
    rw [gj, sum_one i t (ch_nodup cs j)]
    by_cases e1 : j = a
    · subst e1
      rw [if_pos rfl, if_pos hia, if_neg ne, Int.mul_zero]; omega
    · rw [if_neg e1, if_neg (fun z => e1 (ch_one h hj hal z hia))]
      by_cases e2 : j = i
      · subst e2
        rw [if_pos rfl, if_pos rfl, mni]; omega
      · rw [if_neg e2, if_neg e2, Int.mul_zero]; omega
  · show (if j = i then t else 0) = 0
    by_cases e2 : j = i
    · subst e2; omega
    · rw [if_neg e2]
theorem sol_chg {cs : List Rw} (h : Coins cs) {p q : List Int} (hp : p.length = cs.length) {c : Nat × Int} {r : Rw} {a : Nat} (hc : Chg cs c r a) (e : chgO cs p c = some q) : Sol cs p q (fun i => if i = c.1 then c.2 else 0) := by
  rw [chgO_eq h hc] at e
  unfold chgP at e
  split at e
  · cases e
    exact sol_step h hp hc
  · cases e
theorem sol_done {cs : List Rw} (h : Coins cs) : ∀ (L : List (Nat × Int)) {p q : List Int}, p.length = cs.length → (∀ x ∈ p, 0 ≤ x) → (∀ c ∈ L, ∃ r a, Chg cs c r a) → doneO cs (some p) L = some q → ∃ x, Sol cs p q x
  | [], p, q, _, _, _, e => by
    cases e
    exact ⟨_, Sol.refl cs p⟩
  | c :: L, p, q, hp, hp0, hL, e => by
    obtain ⟨r, a, hc⟩ := hL c (.head _)
    have e' : doneO cs (chgO cs p c) L = some q := e
    cases e1 : chgO cs p c with
    | none => rw [e1, doneO_none] at e'; cases e'
    | some p1 =>
      rw [e1] at e'
      obtain ⟨l1, n1⟩ := chgO_ok hp p1 e1
      obtain ⟨x, sx⟩ := sol_done h L l1 n1 (fun c m => hL c (.tail _ m)) e'
      exact ⟨_, (sol_chg h hp hc e1).add sx⟩
/-- how far a change goes -/
theorem chg_high {cs : List Rw} (h : Coins cs) {p q : List Int} {hi f : Int} (hp : Purse cs hi p) {c : Nat × Int} {r : Rw} {a : Nat} (hc : Chg cs c r a) (hf : -f ≤ c.2 ∧ c.2 ≤ f) (e : chgO cs p c = some q) : Purse cs (hi + 9 * f) q := by
  obtain ⟨i, t⟩ := c
  obtain ⟨l1, n1⟩ := chgO_ok hp.len q e
  refine ⟨l1, n1, fun x m => ?_⟩
  have hil := (List.getElem?_eq_some_iff.mp hc.at_).1
  obtain ⟨r2, ha, hr2⟩ := hc.above
  have hal := (List.getElem?_eq_some_iff.mp ha).1
  have mm := coins_mn h (List.mem_of_getElem? hc.at_)
  rw [chgO_eq h hc] at e
  unfold chgP at e
  split at e
  · cases e
    obtain ⟨j, hj, rfl⟩ := List.mem_iff_getElem.mp m
    have hj' : j < cs.length := by rw [← l1]; exact hj
    have sj := (sol_step h (p := p) hp.len hc).eq j hj'
    have gx : (stepP r.mn i a p t)[j] = gq (stepP r.mn i a p t) j := by
      unfold gq
      rw [List.getD_eq_getElem?_getD, List.getElem?_eq_getElem hj]; rfl
    rw [gx]
    have pj : gq p j ≤ hi := by
      have hjp : j < p.length := by rw [hp.len]; exact hj'
      exact hp.high _ (gp_mem hjp)
    rw [sum_one i t (ch_nodup cs j)] at sj
    have f0 : 0 ≤ f := by have := hf.1; have := hf.2; omega
    have t1 : -f ≤ t := hf.1
    have t2 : t ≤ f := hf.2
    have sj : gq p j - gq (stepP r.mn i a p t) j + (if i ∈ chI cs j then t else 0) = mnAt cs j * (if j = i then t else 0) := sj
    by_cases e2 : j = i
    · subst e2
      have : ¬ j ∈ chI cs j := fun z => ch_lone h hj' z rfl
      rw [if_neg this, if_pos rfl] at sj
      have mj : mnAt cs j = r.mn := by unfold mnAt; rw [show cs[j]? = some r from hc.at_]
      rw [mj] at sj
      have k1 : -(9 * f) ≤ r.mn * t := by
        have a1 : r.mn * (-f) ≤ r.mn * t := Int.mul_le_mul_of_nonneg_left t1 mm.1
        have a2 : r.mn * f ≤ 9 * f := Int.mul_le_mul_of_nonneg_right mm.2.1 f0
        rw [Int.mul_neg] at a1
        omega
      omega
    · rw [if_neg e2, Int.mul_zero] at sj
      split at sj <;> omega
  · cases e
theorem done_high {cs : List Rw} (h : Coins cs) {f : Int} (f0 : 0 ≤ f) : ∀ (L : List (Nat × Int)) {p q : List Int} {hi : Int}, Purse cs hi p → FarRow cs f L → doneO cs (some p) L = some q → Purse cs (hi + L.length * (9 * f)) q
  | [], p, q, hi, hp, _, e => by
    cases e
    simpa using hp
  | c :: L, p, q, hi, hp, hL, e => by
    obtain ⟨⟨r, a, hc⟩, _, f1, f2⟩ := hL c (.head _)
    have e' : doneO cs (chgO cs p c) L = some q := e
    cases e1 : chgO cs p c with
    | none => rw [e1, doneO_none] at e'; cases e'
    | some p1 =>
      rw [e1] at e'
      have p1' := chg_high h hp hc ⟨f1, f2⟩ e1
      have := done_high h f0 L p1' (fun c m => hL c (.tail _ m)) e'
      have ee : hi + 9 * f + (L.length : Int) * (9 * f) = hi + ((c :: L).length : Int) * (9 * f) := by
        rw [List.length_cons]; push_cast; rw [Int.add_mul, Int.one_mul]; omega
      rw [ee] at this
      exact this
theorem Purse.mono {cs : List Rw} {a b : Int} {p : List Int} (h : Purse cs a p) (l : a ≤ b) : Purse cs b p := ⟨h.len, h.low, fun x m => Int.le_trans (h.high x m) l⟩
theorem Purse.bd {cs : List Rw} {p : List Int} (h : Purse cs (10 ^ 30) p) : ∀ i, -(2 ^ 105) ≤ gq p i ∧ gq p i ≤ 2 ^ 105 := fun i => by
  by_cases hi : i < p.length
  · have a := h.low _ (gp_mem hi)
    have b := h.high _ (gp_mem hi)
    have a : 0 ≤ gq p i := a
    have b : gq p i ≤ 10 ^ 30 := b
    omega
  · have : gq p i = 0 := by
      unfold gq
      rw [List.getD_eq_getElem?_getD, List.getElem?_eq_none (by omega)]; rfl
    rw [this]; omega
end DV

set_option Elab.async false
set_option linter.all false
set_option maxRecDepth 100000
set_option maxHeartbeats 4000000
set_option autoImplicit false
/-! MyC: count, fee. -/
namespace DV
open PySem L2
theorem sol_unique {cs : List Rw} (h : Coins cs) {p q : List Int} {x y : Nat → Int} (sx : Sol cs p q x) (sy : Sol cs p q y) : ∀ i, i < cs.length → x i = y i := fun i hi => by
  obtain ⟨F, b, l, _⟩ := e_from_below h
  have f1 := (sol_found h b sx F.length (Nat.le_refl _)).2 i
  have f2 := (sol_found h b sy F.length (Nat.le_refl _)).2 i
  have m : i ∈ F.take F.length := by rw [List.take_length]; exact full_of_len b.nd b.lt (by omega) i hi
  rw [if_pos m] at f1 f2
  rw [f1] at f2
  exact Option.some.inj f2
theorem below_all {cs : List Rw} {F : List Nat} (b : Below cs F) (l : F.length = cs.length) : ∀ i, i < cs.length → i ∈ F := full_of_len b.nd b.lt (by omega)
theorem rec_inv {cs : List Rw} (h : Coins cs) {p q : List Int} (hp : ∀ i, -(2 ^ 105) ≤ gq p i ∧ gq p i ≤ 2 ^ 105) (hq : ∀ i, -(2 ^ 105) ≤ gq q i ∧ gq q i ≤ 2 ^ 105) {F : List Nat} (hl : F.length ≤ 8) : ∀ k, k ≤ F.length → RecInv cs F k ((F.take k).foldl (recStep cs p q) ([], []))
  | 0, _ => by
    refine ⟨Nat.le_refl _, Nat.le_refl _, fun z m => ?_, fun z m => ?_, fun z m => ?_⟩ <;> (simp at m)
  | k + 1, hk => by
    have ih := rec_inv h hp hq hl k (by omega)
    have hi : F[k]? = some F[k] := List.getElem?_eq_getElem (by omega)
    rw [take_succ' hi, List.foldl_append]
    exact ih.step h hp hq hi
/-- res is the count from p to q -/
structure IsCnt (cs : List Rw) (p q : List Int) (res : Option (List Int)) : Prop where
  len : ∀ xs, res = some xs → xs.length = cs.length
  sol : ∀ xs, res = some xs → Sol cs p q (gq xs)
  bd : ∀ xs, res = some xs → ∀ i, -(2 ^ 142) ≤ gq xs i ∧ gq xs i ≤ 2 ^ 142
  none : res = none → ∀ x, ¬ Sol cs p q x
theorem gq_out {p : List Int} {i : Nat} (h : p.length ≤ i) : gq p i = 0 := by
  unfold gq
  rw [List.getD_eq_getElem?_getD, List.getElem?_eq_none h]; rfl
theorem IsCnt.of_sol {cs : List Rw} (h : Coins cs) {p q : List Int} {res : Option (List Int)} (c : IsCnt cs p q res) {x : Nat → Int} (s : Sol cs p q x) : ∃ xs, res = some xs ∧ xs.length = cs.length ∧ ∀ i, i < cs.length → gq xs i = x i := by
  cases res with
  | none => exact absurd s (c.none rfl x)
  | some xs => exact ⟨xs, rfl, c.len xs rfl, sol_unique h (c.sol xs rfl) s⟩
/-- one count alone -/
theorem IsCnt.one {cs : List Rw} (h : Coins cs) {p q : List Int} {r s : Option (List Int)} (c : IsCnt cs p q r) (d : IsCnt cs p q s) : r = s := by
  cases r with
  | none =>
    cases s with
    | none => rfl
    | some ys => exact absurd (d.sol ys rfl) (c.none rfl _)
  | some xs =>
    obtain ⟨ys, e, l, f⟩ := d.of_sol h (c.sol xs rfl)
    rw [e]
    congr 1
    exact list_ext_gq (by rw [l, c.len xs rfl]) fun i hi => (f i (by rw [← c.len xs rfl]; exact hi)).symm
def valsL (n : Nat) (l : List (Nat × Int)) : List Int := (List.range n).map fun i => (valN l i).getD 0
theorem gq_valsL {n : Nat} {l : List (Nat × Int)} {i : Nat} (h : i < n) : gq (valsL n l) i = (valN l i).getD 0 := by
  unfold gq valsL
  rw [List.getD_eq_getElem?_getD, List.getElem?_map, List.getElem?_range h]
  rfl
theorem isEmp_kd (l : List (Nat × Int)) : isEmpD (kdD l) = some (decide (l = [])) := by
  cases l <;> simp [kdD, isEmpD]
theorem rng_eq {n : Nat} (h : n ≤ 1000) : rng1 [.int (n : Nat)] = some ((List.range n).map fun i : Nat => PyData.int (i : Nat)) := by
  show (if small62 ((n : Nat) : Int) = true then some (rangeD 0 (n : Nat)) else none) = _
  rw [if_pos (small62_nat h)]
  unfold rangeD
  rw [show ((n : Nat) : Int) - 0 = (n : Nat) by omega, Int.toNat_natCast]
  congr 1
  exact List.map_congr_left fun i _ => by rw [Int.zero_add]
theorem lim1000 {n : Nat} (h : n ≤ 1000) : n ≤ lim := Nat.le_trans h (by decide)
theorem y_reckoned {cs : List Rw} (h : Coins cs) {p q : List Int} (lp : p.length = cs.length) (lq : q.length = cs.length) (hp : ∀ i, -(2 ^ 105) ≤ gq p i ∧ gq p i ≤ 2 ^ 105) (hq : ∀ i, -(2 ^ 105) ≤ gq q i ∧ gq q i ≤ 2 ^ 105) :
    ∃ F : List Nat, Below cs F ∧ F.length = cs.length ∧ p_reckoned (csD cs) (psD p) (psD q) = .ok (.tuple [kdD (recAll cs p q F).1, kdD (recAll cs p q F).2]) := by
  obtain ⟨F, b, l, e⟩ := e_reckoned h lp lq hp hq
  exact ⟨F, b, l, by unfold p_reckoned; rw [e]; rfl⟩
/-- what was found, by places -/
structure Fnd (cs : List Rw) (p q : List Int) (l : List (Nat × Int)) : Prop where
  at_ : ∀ i, i < cs.length → ∃ v, valN l i = some v ∧ gq p i - gq q i + sumV l (chI cs i) = mnAt cs i * v ∧ (mnAt cs i = 0 → v = 0) ∧ -(2 ^ 142) ≤ v ∧ v ≤ 2 ^ 142
theorem fnd_of {cs : List Rw} (h : Coins cs) {p q : List Int} (hp : ∀ i, -(2 ^ 105) ≤ gq p i ∧ gq p i ≤ 2 ^ 105) (hq : ∀ i, -(2 ^ 105) ≤ gq q i ∧ gq q i ≤ 2 ^ 105) {F : List Nat} (b : Below cs F) (lF : F.length = cs.length) (w : (recAll cs p q F).2 = []) : Fnd cs p q (recAll cs p q F).1 := by
  have h8 := (coins_len h).2
  have full := below_all b lF
  have fs := found_sol h b w F.length (Nat.le_refl _)
  have ri := rec_inv h hp hq (F := F) (by omega) F.length (Nat.le_refl _)
  rw [List.take_length] at fs ri
  have b8 := Bd_le F.length (by omega)
  have rb : ∀ z ∈ (recAll cs p q F).1, -(Bd F.length) ≤ z.2 ∧ z.2 ≤ Bd F.length := ri.bd
  have fs1 : ∀ i ∈ F, ∃ v, valN (recAll cs p q F).1 i = some v ∧ gq p i - gq q i + sumV (recAll cs p q F).1 (chI cs i) = mnAt cs i * v ∧ (mnAt cs i = 0 → v = 0) := fs.1
  refine ⟨fun i hi => ?_⟩
  obtain ⟨v, e1, e2, e3⟩ := fs1 i (full i hi)
  have := rb _ (valN_mem e1)
  generalize Bd F.length = B at b8 this
  exact ⟨v, e1, e2, e3, Int.le_trans (Int.neg_le_neg b8) this.1, Int.le_trans this.2 b8⟩
theorem cnt_comp {cs : List Rw} (h : Coins cs) {p q : List Int} {l : List (Nat × Int)} (f : Fnd cs p q l) (X : D) : compP (pc_counted_1 (kdD l, X)) ((List.range cs.length).map fun i : Nat => PyData.int (i : Nat)) [] = .ok ((valsL cs.length l).map .int) := by
  have h8 := (coins_len h).2
  have := compP_map (b := pc_counted_1 (kdD l, X)) (fun i : Nat => PyData.int (i : Nat)) (fun i : Nat => .int ((valN l i).getD 0)) (List.range cs.length) [] (by rw [List.length_range, List.length_nil, Nat.zero_add]; exact lim1000 (by omega)) (fun i m => by
    obtain ⟨v, ev, _⟩ := f.at_ i (List.mem_range.mp m)
    unfold pc_counted_1
    rw [gIx_kd ev, ev]
    rfl)
  rw [this]
  unfold valsL
  rw [List.map_map]
  rfl
theorem fnd_cnt {cs : List Rw} {p q : List Int} {l : List (Nat × Int)} (f : Fnd cs p q l) : IsCnt cs p q (some (valsL cs.length l)) := by
  refine ⟨fun xs ex => ?_, fun xs ex => ?_, fun xs ex i => ?_, fun z => by cases z⟩
  · cases ex; unfold valsL; rw [List.length_map, List.length_range]
  · cases ex
    refine ⟨fun i hi => ?_, fun i hi z => ?_⟩
    · obtain ⟨v, ev, bal, _⟩ := f.at_ i hi
      rw [gq_valsL hi, ev]
      have : ((chI cs i).map (gq (valsL cs.length l))).sum = sumV l (chI cs i) := by
        unfold sumV
        congr 1
        exact List.map_congr_left fun j hj => gq_valsL (ch_lt hj)
      rw [this]
      exact bal
    · obtain ⟨v, ev, _, rt, _⟩ := f.at_ i hi
      rw [gq_valsL hi, ev]
      exact rt z
  · cases ex
    by_cases hi : i < cs.length
    · obtain ⟨v, ev, _, _, b⟩ := f.at_ i hi
      rw [gq_valsL hi, ev]
      exact b
    · rw [gq_out (by unfold valsL; rw [List.length_map, List.length_range]; omega)]
      exact ⟨by decide, by decide⟩
theorem cnt_run {cs : List Rw} (h : Coins cs) {p q : List Int} {l m : List (Nat × Int)} (e : p_reckoned (csD cs) (psD p) (psD q) = .ok (.tuple [kdD l, kdD m])) (f : m = [] → Fnd cs p q l) : p_counted (csD cs) (psD p) (psD q) = .ok (oD (if m = [] then some (valsL cs.length l) else none)) := by
  have h8 := (coins_len h).2
  have emp := isEmp_kd m
  unfold p_counted
  rw [e]
  by_cases w : m = []
  · rw [decide_eq_true w] at emp
    have c := cnt_comp h (f w) (kdD m)
    rw [if_pos w]
    have r := rng_eq (n := cs.length) (by omega)
    have gt : gTuple [.list ((valsL cs.length l).map .int)] = some (psD (valsL cs.length l)) := rfl
    have gl := gLen_cs cs
    generalize (List.range cs.length).map (fun i : Nat => PyData.int (i : Nat)) = R at r c
    generalize (valsL cs.length l).map PyData.int = V at c gt
    simp only [Px.bind_ok, ofO_some, asB_bool, un2_eq, un3_eq, unL2_eq, emp, Bool.false_xor, if_true, gl, r, c, gt]
    rfl
  · rw [decide_eq_false w] at emp
    rw [if_neg w]
    simp only [Px.bind_ok, ofO_some, asB_bool, un2_eq, un3_eq, unL2_eq, emp, Bool.false_xor, Bool.false_eq_true, if_false]
    rfl
theorem y_counted {cs : List Rw} (h : Coins cs) {p q : List Int} (lp : p.length = cs.length) (lq : q.length = cs.length) (hp : ∀ i, -(2 ^ 105) ≤ gq p i ∧ gq p i ≤ 2 ^ 105) (hq : ∀ i, -(2 ^ 105) ≤ gq q i ∧ gq q i ≤ 2 ^ 105) :
    ∃ res : Option (List Int), p_counted (csD cs) (psD p) (psD q) = .ok (oD res) ∧ IsCnt cs p q res := by
  obtain ⟨F, b, lF, e⟩ := y_reckoned h lp lq hp hq
  have f := fnd_of h hp hq b lF
  refine ⟨_, cnt_run h e f, ?_⟩
  by_cases w : (recAll cs p q F).2 = []
  · rw [if_pos w]; exact fnd_cnt (f w)
  · rw [if_neg w]
    refine ⟨fun xs ex => (by cases ex), fun xs ex => (by cases ex), fun xs ex => (by cases ex), fun _ x sx => ?_⟩
    have := (sol_found h b sx F.length (Nat.le_refl _)).1
    rw [List.take_length] at this
    exact w this
theorem y_need_two {cs : List Rw} (h : Coins cs) {p q : List Int} (hp : Purse cs (10 ^ 30) p) (hq : Purse cs (10 ^ 30) q) : p_need_two (csD cs) (psD p) (psD q) = .ok .none := by
  unfold p_need_two
  rw [y_need_purse h hp, Px.bind_ok, y_stock h hq]
  rfl
theorem y_count {cs : List Rw} (h : Coins cs) {p q : List Int} (hp : Purse cs (10 ^ 30) p) (hq : Purse cs (10 ^ 30) q) :
    ∃ res : Option (List Int), p_count (csD cs) (psD p) (psD q) = .ok (oD res) ∧ IsCnt cs p q res := by
  obtain ⟨res, e, c⟩ := y_counted h hp.len hq.len hp.bd hq.bd
  refine ⟨res, ?_, c⟩
  unfold p_count
  rw [y_need_two h hp hq, Px.bind_ok, e]
  rfl
/-! the fee -/
def feeL (f xs : List Int) : Int := ((f.zip xs).map fun z => z.1 * ab z.2).sum
theorem ab_bd {t : Int} (h : -(2 ^ 142) ≤ t ∧ t ≤ 2 ^ 142) : (ab t).natAbs < 2 ^ 200 := by
  unfold ab
  have : (2 : Int) ^ 142 < 2 ^ 200 := by decide
  split <;> omega
theorem mem_gq {p : List Int} {x : Int} (h : x ∈ p) : ∃ i, i < p.length ∧ x = gq p i := by
  obtain ⟨i, hi, rfl⟩ := List.mem_iff_getElem.mp h
  exact ⟨i, hi, by unfold gq; rw [List.getD_eq_getElem?_getD, List.getElem?_eq_getElem hi]; rfl⟩
def feeD (f : List Int) : Option (List Int) → D
  | some xs => .int (feeL f xs)
  | none => .none
/-- fees by places -/
theorem feeL_eq : ∀ (f xs : List Int), f.length = xs.length → feeL f xs = ((List.range xs.length).map fun i => gq f i * ab (gq xs i)).sum
  | [], [], _ => rfl
  | a :: f, x :: xs, hl => by
    have ih := feeL_eq f xs (by simpa using hl)
    have e : feeL (a :: f) (x :: xs) = a * ab x + feeL f xs := by unfold feeL; rw [List.zip_cons_cons, List.map_cons, List.sum_cons]
    rw [e, ih, List.length_cons, List.range_succ_eq_map, List.map_cons, List.sum_cons, List.map_map]
    rfl
end DV

set_option Elab.async false
set_option linter.all false
set_option maxRecDepth 100000
set_option maxHeartbeats 4000000
set_option autoImplicit false
/-! MyD: gathered, fewest. -/
namespace DV
open PySem L2
/-- what comes together at a kind, from below -/
def vv (cs : List Rw) (p : List Int) : Nat → Nat → Int
  | 0, _ => 0
  | n + 1, i => gq p i + ((chI cs i).map fun c => vv cs p n c / mnAt cs c).sum
theorem vv_stable {cs : List Rw} (h : Coins cs) (p : List Int) : ∀ (n i : Nat), i < cs.length → cs.length - rk cs i < n → vv cs p n i = vv cs p (n + 1) i
  | 0, i, _, hn => by omega
  | n + 1, i, hi, hn => by
    show gq p i + ((chI cs i).map fun c => vv cs p n c / mnAt cs c).sum = gq p i + ((chI cs i).map fun c => vv cs p (n + 1) c / mnAt cs c).sum
    rw [sum_same (x := fun c => vv cs p n c / mnAt cs c) (y := fun c => vv cs p (n + 1) c / mnAt cs c) fun c m => by
      have r := rk_child h hi m
      have l := rk_le cs c
      show vv cs p n c / mnAt cs c = vv cs p (n + 1) c / mnAt cs c
      rw [vv_stable h p n c (ch_lt m) (by omega)]]
def V (cs : List Rw) (p : List Int) (i : Nat) : Int := vv cs p (cs.length + 1) i
theorem V_eq {cs : List Rw} (h : Coins cs) (p : List Int) {i : Nat} (hi : i < cs.length) : V cs p i = gq p i + ((chI cs i).map fun c => V cs p c / mnAt cs c).sum := by
  unfold V
  show gq p i + ((chI cs i).map fun c => vv cs p cs.length c / mnAt cs c).sum = _
  rw [sum_same (x := fun c => vv cs p cs.length c / mnAt cs c) (y := fun c => vv cs p (cs.length + 1) c / mnAt cs c) fun c m => by
    have r := rk_child h hi m
    have l := rk_le cs c
    show vv cs p cs.length c / mnAt cs c = vv cs p (cs.length + 1) c / mnAt cs c
    rw [vv_stable h p cs.length c (ch_lt m) (by omega)]]
/-- the lesser ones, what is left of them -/
def restL (cs : List Rw) (g : List Int) (l : List Nat) : List Int := l.foldl (fun s c => s.set c (gq s c % mnAt cs c)) g
theorem restL_len (cs : List Rw) : ∀ (l : List Nat) (g : List Int), (restL cs g l).length = g.length
  | [], _ => rfl
  | c :: l, g => by
    show (restL cs (g.set c _) l).length = _
    rw [restL_len cs l, List.length_set]
theorem restL_gq (cs : List Rw) : ∀ (l : List Nat) (g : List Int), l.Nodup → (∀ c ∈ l, c < g.length) → ∀ j, gq (restL cs g l) j = if j ∈ l then gq g j % mnAt cs j else gq g j
  | [], g, _, _, j => by simp [restL]
  | c :: l, g, nd, hl, j => by
    obtain ⟨n1, n2⟩ := List.nodup_cons.mp nd
    show gq (restL cs (g.set c (gq g c % mnAt cs c)) l) j = _
    rw [restL_gq cs l _ n2 (fun d m => by rw [List.length_set]; exact hl d (.tail _ m)) j]
    by_cases e : j = c
    · subst e
      rw [if_neg n1, if_pos (.head _), gq_set_same (hl j (.head _))]
    · rw [gq_set_ne (fun z => e z.symm)]
      by_cases q : j ∈ l
      · rw [if_pos q, if_pos (.tail _ q)]
      · rw [if_neg q, if_neg fun z => by rcases List.mem_cons.mp z with z | z; exact e z; exact q z]
def upP (cs : List Rw) (g : List Int) (i : Nat) : List Int := g.set i (gq g i + ((chI cs i).map fun c => gq g c / mnAt cs c).sum)
def gStep (cs : List Rw) (g : List Int) (i : Nat) : List Int := restL cs (upP cs g i) (chI cs i)
theorem gStep_len (cs : List Rw) (g : List Int) (i : Nat) : (gStep cs g i).length = g.length := by
  unfold gStep upP
  rw [restL_len, List.length_set]
theorem small9 {m : Int} (h : 2 ≤ m ∧ m ≤ 9) : 0 < m ∧ m < 2 ^ 200 := ⟨by omega, by
  have : (9 : Int) < 2 ^ 200 := by decide
  omega⟩
theorem y_rest {cs : List Rw} (h : Coins cs) {i : Nat} (hi : i < cs.length) {g : List Int} (hg : g.length = cs.length) : loopP (pb_gathered_2 (csD cs)) (natsD (chI cs i)) (g.map .int) = .ok ((restL cs g (chI cs i)).map .int) := by
  have gen : ∀ (l : List Nat) (g : List Int), (∀ c ∈ l, c < cs.length ∧ 2 ≤ mnAt cs c ∧ mnAt cs c ≤ 9) → g.length = cs.length → loopP (pb_gathered_2 (csD cs)) (natsD l) (g.map .int) = .ok ((restL cs g l).map .int) := fun l => by
    induction l with
    | nil => intro g _ _; rfl
    | cons c l ih =>
      intro g hl hg
      obtain ⟨c1, c2, c3⟩ := hl c (.head _)
      show (pb_gathered_2 (csD cs) (g.map .int) (.int (c : Nat))).bind (fun s' => loopP (pb_gathered_2 (csD cs)) (natsD l) s') = _
      have e : pb_gathered_2 (csD cs) (g.map .int) (.int (c : Nat)) = .ok ((g.set c (gq g c % mnAt cs c)).map .int) := by
        unfold pb_gathered_2
        simp only [getL_int (show c < g.length by omega), Px.bind_ok, ofO_some, asB_bool, un2_eq, un3_eq, unL2_eq, ix_int c1, ix_mn c1, gMod_int (i := gq g c) (show 0 < mnAt cs c by omega), putL_int (gq g c % mnAt cs c) (show c < g.length by omega)]
      rw [e, Px.bind_ok, ih _ (fun d m => hl d (.tail _ m)) (by rw [List.length_set]; exact hg)]
      rfl
  exact gen _ g (fun c m => ⟨ch_lt m, ch_mn h hi m⟩) hg
theorem y_gturn {cs : List Rw} (h : Coins cs) {i : Nat} (hi : i < cs.length) {g : List Int} (hg : g.length = cs.length) : pb_gathered_1 (csD cs) (g.map .int) (.int (i : Nat)) = .ok ((gStep cs g i).map .int) := by
  have h8 := (coins_len h).2
  have lc : (chI cs i).length ≤ 1000 := by
    have : (chI cs i).length ≤ cs.length := chFrom_len (s := nmAt cs i) cs 0
    omega
  have c := compP_map (b := pc_gathered_1 (g.map .int) (csD cs)) (fun j : Nat => PyData.int (j : Nat)) (fun j : Nat => .int (gq g j / mnAt cs j)) (chI cs i) [] (lim1000 (by rw [List.length_nil]; omega)) (fun c m => by
    have c1 := ch_lt m
    have c2 := small9 (ch_mn h hi m)
    unfold pc_gathered_1
    simp only [ixl_int (show c < g.length by omega), Px.bind_ok, ofO_some, asB_bool, un2_eq, un3_eq, unL2_eq, ix_int c1, ix_mn c1, gDiv_int (i := gq g c) c2.1 c2.2])
  rw [show (chI cs i).map (fun j : Nat => PyData.int (j : Nat)) = natsD (chI cs i) from rfl] at c
  have s := gSum_ints ((chI cs i).map fun c => gq g c / mnAt cs c)
  rw [List.map_map] at s
  have s' : gSum [.list ([] ++ (chI cs i).map fun j : Nat => PyData.int (gq g j / mnAt cs j))] = some (.int ((chI cs i).map fun c => gq g c / mnAt cs c).sum) := s
  have pl := putL_int (p := g) (i := i) (gq g i + ((chI cs i).map fun c => gq g c / mnAt cs c).sum) (by omega)
  have r := y_rest h hi (g := upP cs g i) (by unfold upP; rw [List.length_set]; exact hg)
  unfold upP at r
  unfold pb_gathered_1
  rw [getL_int (show i < g.length by omega), ofO_some, Px.bind_ok, y_lesser h hi, Px.bind_ok, items_nats, ofO_some, Px.bind_ok, c, Px.bind_ok, s', ofO_some, Px.bind_ok, gAddI_int, ofO_some, Px.bind_ok, pl, ofO_some, Px.bind_ok, Px.bind_ok]
  rw [items_nats, ofO_some, Px.bind_ok, r]
  rfl
/-- is a greater kind of i in S -/
def lowB (cs : List Rw) (S : List Nat) (i : Nat) : Bool := S.any fun j => (chI cs j).contains i
theorem lowB_iff {cs : List Rw} {S : List Nat} {i : Nat} : lowB cs S i = true ↔ ∃ j ∈ S, i ∈ chI cs j := by
  unfold lowB
  rw [List.any_eq_true]
  constructor
  · rintro ⟨j, m, c⟩; exact ⟨j, m, by simpa using c⟩
  · rintro ⟨j, m, c⟩; exact ⟨j, m, by simpa using c⟩
def gth (cs : List Rw) (p : List Int) (S : List Nat) (i : Nat) : Int := if lowB cs S i = true then V cs p i % mnAt cs i else if i ∈ S then V cs p i else gq p i
theorem gth_step {cs : List Rw} (h : Coins cs) {p g : List Int} {S : List Nat} {i : Nat} (hi : i < cs.length) (hS : ∀ j ∈ S, j < cs.length) (hg : g.length = cs.length) (nS : i ∉ S) (cS : ∀ c ∈ chI cs i, c ∈ S) (cl : ∀ j ∈ S, ∀ c ∈ chI cs j, c ∈ S) (I : ∀ j, j < cs.length → gq g j = gth cs p S j) :
    ∀ j, j < cs.length → gq (gStep cs g i) j = gth cs p (S ++ [i]) j := fun j hj => by
  have lowc : ∀ c ∈ chI cs i, lowB cs S c = false := fun c m => by
    cases e : lowB cs S c with
    | false => rfl
    | true =>
      obtain ⟨k, mk, ck⟩ := lowB_iff.mp e
      exact absurd mk (by rw [← ch_one h hi (hS k mk) m ck]; exact nS)
  have lowi : lowB cs S i = false := by
    cases e : lowB cs S i with
    | false => rfl
    | true =>
      obtain ⟨k, mk, ck⟩ := lowB_iff.mp e
      exact absurd (cl k mk i ck) nS
  have valc : ∀ c ∈ chI cs i, gq g c = V cs p c := fun c m => by
    rw [I c (ch_lt m)]
    unfold gth
    rw [if_neg (by rw [lowc c m]; exact Bool.false_ne_true), if_pos (cS c m)]
  have vali : gq g i = gq p i := by
    rw [I i hi]
    unfold gth
    rw [if_neg (by rw [lowi]; exact Bool.false_ne_true), if_neg nS]
  have sm : ((chI cs i).map fun c => gq g c / mnAt cs c).sum = ((chI cs i).map fun c => V cs p c / mnAt cs c).sum := sum_same fun c m => by
    show gq g c / mnAt cs c = V cs p c / mnAt cs c
    rw [valc c m]
  have ni : i ∉ chI cs i := fun m => ch_lone h hi m rfl
  have lowS : lowB cs (S ++ [i]) j = (lowB cs S j || (chI cs i).contains j) := by
    unfold lowB
    rw [List.any_append, List.any_cons, List.any_nil, Bool.or_false]
  unfold gStep
  rw [restL_gq cs (chI cs i) _ (ch_nodup cs i) (fun c m => by unfold upP; rw [List.length_set, hg]; exact ch_lt m) j]
  unfold upP gth
  rw [lowS]
  by_cases e1 : j ∈ chI cs i
  · have ne : j ≠ i := fun z => ni (by subst z; exact e1)
    rw [if_pos e1, gq_set_ne (fun z => ne z.symm), valc j e1]
    have : (chI cs i).contains j = true := by simpa using e1
    rw [this, Bool.or_true, if_pos rfl]
  · rw [if_neg e1]
    have : (chI cs i).contains j = false := by simpa using e1
    rw [this, Bool.or_false]
    by_cases e2 : j = i
    · subst e2
      rw [gq_set_same (by omega), if_neg (by rw [lowi]; exact Bool.false_ne_true), if_pos (List.mem_append_right _ (.head _)), sm, vali, V_eq h p hj]
    · rw [gq_set_ne (fun z => e2 z.symm), I j hj]
      unfold gth
      by_cases e3 : lowB cs S j = true
      · rw [if_pos e3, if_pos e3]
      · rw [if_neg e3, if_neg e3]
        by_cases e4 : j ∈ S
        · rw [if_pos e4, if_pos (List.mem_append_left _ e4)]
        · rw [if_neg e4, if_neg fun z => by
            rcases List.mem_append.mp z with z | z
            · exact e4 z
            · exact e2 (List.mem_singleton.mp z)]
theorem gth_all {cs : List Rw} (h : Coins cs) {p : List Int} (hp : p.length = cs.length) {F : List Nat} (b : Below cs F) : ∀ k, k ≤ F.length → ((F.take k).foldl (gStep cs) p).length = cs.length ∧ ∀ j, j < cs.length → gq ((F.take k).foldl (gStep cs) p) j = gth cs p (F.take k) j
  | 0, _ => ⟨by simpa using hp, fun j _ => by
    unfold gth
    simp [lowB]⟩
  | k + 1, hk => by
    obtain ⟨l, ih⟩ := gth_all h hp b k (by omega)
    have hi : F[k]? = some F[k] := List.getElem?_eq_getElem (by omega)
    have ilt := b.lt F[k] (List.getElem_mem _)
    rw [take_succ' hi, List.foldl_append]
    have ni : F[k] ∉ F.take k := fun m => by
      obtain ⟨j, hj⟩ := List.mem_iff_getElem?.mp m
      rw [List.getElem?_take] at hj
      split at hj
      · rename_i hjk
        obtain ⟨a1, a2⟩ := List.getElem?_eq_some_iff.mp hj
        exact List.pairwise_iff_getElem.mp b.nd j k a1 (by omega) hjk a2
      · cases hj
    refine ⟨by show (gStep cs _ F[k]).length = _; rw [gStep_len]; exact l, ?_⟩
    exact gth_step h ilt (fun j m => b.lt j (List.mem_of_mem_take m)) l ni (ahead_take b hi) (fun j m c hc => by
      obtain ⟨t, ht⟩ := List.mem_iff_getElem?.mp m
      rw [List.getElem?_take] at ht
      split at ht
      · rename_i hlt
        have := ahead_take b ht c hc
        obtain ⟨u, hu⟩ := List.mem_iff_getElem?.mp this
        rw [List.getElem?_take] at hu
        split at hu
        · exact List.mem_iff_getElem?.mpr ⟨u, by rw [List.getElem?_take, if_pos (by omega)]; exact hu⟩
        · cases hu
      · cases ht) ih
/-- what is gathered -/
def gat (cs : List Rw) (p : List Int) : List Int := (List.range cs.length).map fun i => if mnAt cs i = 0 then V cs p i else V cs p i % mnAt cs i
theorem gat_len (cs : List Rw) (p : List Int) : (gat cs p).length = cs.length := by unfold gat; rw [List.length_map, List.length_range]
theorem gat_gq {cs : List Rw} {p : List Int} {i : Nat} (hi : i < cs.length) : gq (gat cs p) i = if mnAt cs i = 0 then V cs p i else V cs p i % mnAt cs i := by
  unfold gq gat
  rw [List.getD_eq_getElem?_getD, List.getElem?_map, List.getElem?_range hi]
  rfl
theorem low_full {cs : List Rw} (h : Coins cs) {F : List Nat} (b : Below cs F) (l : F.length = cs.length) {i : Nat} (hi : i < cs.length) : lowB cs F i = true ↔ mnAt cs i ≠ 0 := by
  rw [lowB_iff]
  constructor
  · rintro ⟨j, m, c⟩
    have := ch_mn h (b.lt j m) c
    omega
  · intro hm
    have mi : cs[i] ∈ cs := List.getElem_mem hi
    have e := coins_mn h mi
    rw [mn_get hi] at e
    have hu : cs[i].up ≠ "" := fun z => hm (e.2.2.2 z)
    obtain ⟨a, r2, ha, hn, _⟩ := coins_up h mi hu
    exact ⟨a, below_all b l a (List.getElem?_eq_some_iff.mp ha).1, mem_ch.mpr ⟨cs[i], List.getElem?_eq_getElem hi, by rw [nm_at ha, hn]⟩⟩
theorem gat_fold {cs : List Rw} (h : Coins cs) {p : List Int} (hp : p.length = cs.length) {F : List Nat} (b : Below cs F) (l : F.length = cs.length) : F.foldl (gStep cs) p = gat cs p := by
  obtain ⟨l1, e⟩ := gth_all h hp b F.length (Nat.le_refl _)
  rw [List.take_length] at l1 e
  refine list_ext_gq (by rw [l1, gat_len]) fun i hi => ?_
  have hi : i < cs.length := by rw [← l1]; exact hi
  rw [e i hi, gat_gq hi]
  unfold gth
  by_cases z : mnAt cs i = 0
  · rw [if_pos z, if_neg (fun q => (low_full h b l hi).mp q z), if_pos (below_all b l i hi)]
  · rw [if_neg z, if_pos ((low_full h b l hi).mpr z)]
theorem y_gathered {cs : List Rw} (h : Coins cs) {p : List Int} (hp : p.length = cs.length) : p_gathered (csD cs) (psD p) = .ok (psD (gat cs p)) := by
  obtain ⟨F, b, l, e⟩ := y_from_below h
  have gl : lstO (gList [psD p]) = some (p.map .int) := rfl
  have run : ∀ (F : List Nat) (g : List Int), (∀ i ∈ F, i < cs.length) → g.length = cs.length → loopP (pb_gathered_1 (csD cs)) (natsD F) (g.map .int) = .ok ((F.foldl (gStep cs) g).map .int) := fun F => by
    induction F with
    | nil => intro g _ _; rfl
    | cons i F ih =>
      intro g hF hg
      show (pb_gathered_1 (csD cs) (g.map .int) (.int (i : Nat))).bind (fun s' => loopP (pb_gathered_1 (csD cs)) (natsD F) s') = _
      rw [y_gturn h (hF i (.head _)) hg, Px.bind_ok, ih _ (fun j m => hF j (.tail _ m)) (by rw [gStep_len]; exact hg)]
      rfl
  unfold p_gathered
  rw [gl, ofO_some, Px.bind_ok, e, Px.bind_ok, items_nats, ofO_some, Px.bind_ok, run F p b.lt hp, Px.bind_ok, gat_fold h hp b l]
  rfl
theorem y_fewest {cs : List Rw} (h : Coins cs) {p : List Int} (hp : Purse cs (10 ^ 30) p) : p_fewest (csD cs) (psD p) = .ok (psD (gat cs p)) := by
  unfold p_fewest
  rw [y_need_purse h hp, Px.bind_ok, y_gathered h hp.len]
  rfl
/-- how many changes go up from each kind -/
def upsV (cs : List Rw) (p : List Int) (i : Nat) : Int := if mnAt cs i = 0 then 0 else V cs p i / mnAt cs i
theorem gat_sol {cs : List Rw} (h : Coins cs) (p : List Int) : Sol cs p (gat cs p) (upsV cs p) := by
  refine ⟨fun i hi => ?_, fun i _ z => by unfold upsV; rw [if_pos z]⟩
  have e := V_eq h p hi
  have s : ((chI cs i).map (upsV cs p)).sum = ((chI cs i).map fun c => V cs p c / mnAt cs c).sum := sum_same fun c m => by
    have := ch_mn h hi m
    unfold upsV
    rw [if_neg (by omega)]
  rw [s, gat_gq hi]
  unfold upsV
  by_cases z : mnAt cs i = 0
  · rw [if_pos z, if_pos z, z, Int.zero_mul]; omega
  · rw [if_neg z, if_neg z]
    have := Int.mul_ediv_add_emod (V cs p i) (mnAt cs i)
    omega
/-- fewer than many of each kind with a greater one -/
def NF (cs : List Rw) (g : List Int) : Prop := ∀ i, i < cs.length → mnAt cs i ≠ 0 → 0 ≤ gq g i ∧ gq g i < mnAt cs i
theorem gat_nf {cs : List Rw} (h : Coins cs) (p : List Int) : NF cs (gat cs p) := fun i hi z => by
  rw [gat_gq hi, if_neg z]
  have := mn_pos h hi
  exact ⟨Int.emod_nonneg _ z, Int.emod_lt_of_pos _ (by omega)⟩
theorem nf_zero {cs : List Rw} (h : Coins cs) {g g' : List Int} (n1 : NF cs g) (n2 : NF cs g') {z : Nat → Int} (s : Sol cs g g' z) : ∀ (n i : Nat), i < cs.length → cs.length - rk cs i < n → z i = 0
  | 0, i, _, hn => by omega
  | n + 1, i, hi, hn => by
    have ih : ((chI cs i).map z).sum = 0 := sum_zero fun c m => by
      have r := rk_child h hi m
      have l := rk_le cs c
      exact nf_zero h n1 n2 s n c (ch_lt m) (by omega)
    have e := s.eq i hi
    rw [ih] at e
    by_cases q : mnAt cs i = 0
    · exact s.root i hi q
    · have a := n1 i hi q
      have b := n2 i hi q
      have mp := mn_pos h hi
      have c1 : ¬ 1 ≤ z i := fun w => by
        have : mnAt cs i * 1 ≤ mnAt cs i * z i := Int.mul_le_mul_of_nonneg_left w (by omega)
        omega
      have c2 : ¬ z i ≤ -1 := fun w => by
        have : mnAt cs i * z i ≤ mnAt cs i * (-1) := Int.mul_le_mul_of_nonneg_left w (by omega)
        omega
      omega
theorem nf_same {cs : List Rw} (h : Coins cs) {g g' : List Int} (l1 : g.length = cs.length) (l2 : g'.length = cs.length) (n1 : NF cs g) (n2 : NF cs g') {z : Nat → Int} (s : Sol cs g g' z) : g = g' :=
  list_ext_gq (by rw [l1, l2]) fun i hi => by
    have hi : i < cs.length := by rw [← l1]; exact hi
    have z0 : ∀ j, j < cs.length → z j = 0 := fun j hj => nf_zero h n1 n2 s (cs.length + 1) j hj (by omega)
    have e := s.eq i hi
    rw [sum_zero fun c m => z0 c (ch_lt m), z0 i hi, Int.mul_zero] at e
    omega
/-- two purses come to one another just where their fewest are one -/
theorem gat_iff {cs : List Rw} (h : Coins cs) {p q : List Int} : gat cs p = gat cs q ↔ ∃ x, Sol cs p q x := by
  constructor
  · intro e
    have a := gat_sol h p
    have b := gat_sol h q
    rw [← e] at b
    exact ⟨_, a.add b.neg⟩
  · rintro ⟨x, s⟩
    exact nf_same h (gat_len cs p) (gat_len cs q) (gat_nf h p) (gat_nf h q) ((gat_sol h p).neg.add (s.add (gat_sol h q)))
end DV

set_option Elab.async false
set_option linter.all false
set_option maxRecDepth 100000
set_option maxHeartbeats 4000000
set_option autoImplicit false
/-! MyE: what laws share. -/
namespace DV
open PySem L2
theorem script_add (ns : List Int) (hn : ns.length ≤ 1000) : gAdd (.list [.int 0]) (.list (ns.map .int)) = some (.list ((0 :: ns).map .int)) := by
  show (if [PyData.int 0].length + (ns.map PyData.int).length ≤ lim then some (PyData.list ([PyData.int 0] ++ ns.map .int)) else none) = _
  rw [if_pos (by rw [List.length_map]; exact Nat.le_trans (show 1 + ns.length ≤ 2000 by omega) (by decide))]
  rfl
theorem script_cut (ns : List Int) (k : Nat) : gSl (.list (ns.map .int)) none (some (k : Nat)) = some (.list ((ns.take k).map .int)) := by
  show some (PyData.list (cutG (ns.map .int) none (some (k : Nat)))) = _
  rw [cut_to, List.map_take]
theorem oD_some (xs : List Int) : oD (some xs) = psD xs := rfl
theorem oD_none : oD none = .none := rfl
theorem cnt_of {cs : List Rw} (h : Coins cs) {p q : List Int} (hp : Purse cs (10 ^ 30) p) (hq : Purse cs (10 ^ 30) q) {x : Nat → Int} (s : Sol cs p q x) :
    ∃ xs, p_count (csD cs) (psD p) (psD q) = .ok (psD xs) ∧ xs.length = cs.length ∧ (∀ i, i < cs.length → gq xs i = x i) ∧ IsCnt cs p q (some xs) := by
  obtain ⟨res, e, c⟩ := y_count h hp hq
  obtain ⟨xs, er, l, f⟩ := c.of_sol h s
  subst er
  exact ⟨xs, e, l, f, c⟩
theorem zip_ps (xs ys : List Int) : zipO [psD xs, psD ys] = some ((xs.zip ys).map fun z => .tuple [.int z.1, .int z.2]) := by
  show some (zipD (xs.map .int) (ys.map .int)) = _
  unfold zipD
  rw [List.zip_map, List.map_map]
  rfl
def addL (xs ys : List Int) : List Int := (xs.zip ys).map fun z => z.1 + z.2
theorem addL_len {xs ys : List Int} (h : xs.length = ys.length) : (addL xs ys).length = xs.length := by
  unfold addL
  rw [List.length_map, List.length_zip, h, Nat.min_self]
theorem addL_gq {xs ys : List Int} (h : xs.length = ys.length) {i : Nat} (hi : i < xs.length) : gq (addL xs ys) i = gq xs i + gq ys i := by
  unfold gq addL
  rw [List.getD_eq_getElem?_getD, List.getD_eq_getElem?_getD, List.getD_eq_getElem?_getD, List.getElem?_map, List.getElem?_eq_getElem hi, List.getElem?_eq_getElem (show i < ys.length by omega), List.getElem?_eq_getElem (by rw [List.length_zip]; omega), List.getElem_zip]
  rfl
theorem tup_list (l : List Int) : gTuple [.list (l.map .int)] = some (psD l) := rfl
theorem tup_nil (l : List D) : gTuple [.list ([] ++ l)] = some (.tuple l) := rfl
theorem items_cs (cs : List Rw) : items (csD cs) = some (cs.map rwD) := rfl
theorem items_ps (p : List Int) : items (psD p) = some (p.map .int) := rfl
theorem gNe_ps (x y : List Int) : gNe (psD x) (psD y) = some (.bool (!decide (x = y))) := gNe_tupI x y
theorem gEq_ps (x y : List Int) : gEq (psD x) (psD y) = some (.bool (decide (x = y))) := gEq_tupI x y
theorem gIsN_ps (x : List Int) : gIsN (psD x) .none = some (.bool false) := rfl
theorem gNotN_ps (x : List Int) : gNotN (psD x) .none = some (.bool true) := rfl
theorem gNotN_none : gNotN .none .none = some (.bool false) := rfl
theorem gIsN_none : gIsN .none .none = some (.bool true) := rfl
theorem gNe_bool (a b : Bool) : gNe (.bool a) (.bool b) = some (.bool (a != b)) := by cases a <;> cases b <;> rfl
theorem gMax2_int (a b : Int) : gMax2 [.int a, .int b] = some (.int (max a b)) := by
  show some (PyData.int (if b > a then b else a)) = _
  congr 2
  split <;> omega
/-- draws, one for each item -/
theorem draws {α : Type} (s : Int) (hs : 0 < s) (hl : s < 2 ^ 200) (g : α → D) {b : List D → D → Px (Option D × List D)} (hb : ∀ l x, b l (g x) = (p__law_pick l (.int s)).bind fun r => .ok (some r.1, r.2)) (xs : List α) {n : Int} {l : List D} (hd : DkL n l) (hn : n ≤ 1000000000) (hx : xs.length ≤ 1000) :
    ∃ (f : List Int) (l' : List D), f.length = xs.length ∧ (∀ x ∈ f, 0 ≤ x ∧ x < s) ∧ DkL (n + xs.length) l' ∧ compS b (xs.map g) [] l = .ok (f.map .int, l') := by
  obtain ⟨acc, l', e, f, ef, lf, bf, df⟩ := compS_run (b := b) (fun k acc l => ∃ f : List Int, acc = f.map .int ∧ f.length = k ∧ (∀ x ∈ f, 0 ≤ x ∧ x < s) ∧ DkL (n + (k : Nat)) l) g xs 0 [] l (lim1000 (by rw [List.length_nil]; omega)) ⟨[], rfl, rfl, fun x m => absurd m List.not_mem_nil, by simpa using hd⟩ (fun i x acc l hx' ⟨f, ef, lf, bf, df⟩ => by
    have hi := (List.getElem?_eq_some_iff.mp hx').1
    rw [Nat.zero_add] at df lf
    obtain ⟨r, l', r0, r1, dl, ep⟩ := y_pick df (by omega) hs hl
    refine ⟨.int r, l', ?_, f ++ [r], by rw [ef, List.map_append]; rfl, by rw [List.length_append, lf, List.length_singleton]; omega, fun y m => ?_, by rw [Nat.zero_add]; push_cast; rw [← Int.add_assoc]; exact dl⟩
    · rw [hb l x, ep]; rfl
    · rcases List.mem_append.mp m with m | m
      · exact bf y m
      · rw [List.mem_singleton.mp m]; exact ⟨r0, r1⟩)
  rw [Nat.zero_add] at df lf
  exact ⟨f, l', lf, bf, df, by rw [e, ef]⟩
theorem ab_neg (t : Int) : ab (-t) = ab t := by unfold ab; split <;> split <;> omega
theorem ab_add (s t : Int) : ab (s + t) ≤ ab s + ab t := by unfold ab; split <;> split <;> split <;> omega
theorem ab_nonneg (t : Int) : 0 ≤ ab t := by unfold ab; split <;> omega
theorem sum_le {x y : Nat → Int} : ∀ {l : List Nat}, (∀ i ∈ l, x i ≤ y i) → (l.map x).sum ≤ (l.map y).sum
  | [], _ => Int.le_refl _
  | i :: l, h => by
    have := h i (.head _)
    have ih := sum_le (l := l) fun j m => h j (.tail _ m)
    simp only [List.map_cons, List.sum_cons]
    omega
theorem gq_nonneg {cs : List Rw} {hi : Int} {p : List Int} (h : Purse cs hi p) (i : Nat) : 0 ≤ gq p i := by
  by_cases q : i < p.length
  · exact h.low _ (gp_mem q)
  · rw [gq_out (by omega)]; exact Int.le_refl _
/-- the first kind of draw: a list of three numbers -/
theorem draw3 {n : Int} {l : List D} (hd : DkL n l) (hn : n ≤ 1000000000) (a b c lo hi : Int) (ha : lo ≤ a ∧ a ≤ hi) (hb : lo ≤ b ∧ b ≤ hi) (hc : lo ≤ c ∧ c ≤ hi) : ∃ (v : Int) (l' : List D), lo ≤ v ∧ v ≤ hi ∧ DkL (n + 1) l' ∧ p__law_one l (.list [.int a, .int b, .int c]) = .ok (.int v, l') := by
  obtain ⟨i, d, l', hi', dk, e⟩ := y_one hd (by omega) (ds := [.int a, .int b, .int c]) (by simp) (by simp)
  match i, hi' with
  | 0, hi' => cases hi'; exact ⟨a, l', ha.1, ha.2, dk, e⟩
  | 1, hi' => cases hi'; exact ⟨b, l', hb.1, hb.2, dk, e⟩
  | 2, hi' => cases hi'; exact ⟨c, l', hc.1, hc.2, dk, e⟩
  | k + 3, hi' => simp at hi'
/-- a row and what is behind it -/
theorem row_there {cs : List Rw} (h : Coins cs) {n : Int} {l : List D} (hd : DkL n l) (hn : n ≤ 1000000000) {p : List Int} {hi : Int} (hp : Purse cs hi p) {am far : Int} (m0 : 0 ≤ am) (m1 : am ≤ 60) (h1 : 1 ≤ far) (h2 : far ≤ 10 ^ 30) :
    ∃ (L : List (Nat × Int)) (q : List Int) (l' : List D) (x : Nat → Int), p__law_row l (csD cs) (psD p) (.int am) (.int far) = .ok (L.map (chD cs), l') ∧ DkL (n + 122) l' ∧ p__law_done (csD cs) (psD p) (.list (L.map (chD cs))) = .ok (psD q) ∧ Purse cs (hi + am * (9 * far)) q ∧ Sol cs p q x ∧ FarRow cs far L ∧ (L.length : Int) ≤ am ∧ doneO cs (some p) L = some q := by
  have fb : far < 2 ^ 150 := by
    have : (10 : Int) ^ 30 < 2 ^ 150 := by decide
    omega
  obtain ⟨L, q, l', hf, hl, hq, dk, e⟩ := y_row h hd hn hp.len hp.low m0 m1 h1 fb
  have ok : OkRow cs L := fun c m => by
    obtain ⟨a, b, f1, f2⟩ := hf c m
    refine ⟨a, ?_⟩
    have : (2 : Int) ^ 150 < 2 ^ 200 := by decide
    omega
  have op : OkP cs (some p) := fun p' e => by cases e; exact ⟨hp.len, hp.low⟩
  have ed := y_ldone h ok op
  rw [hq] at ed
  obtain ⟨x, sx⟩ := sol_done h L hp.len hp.low (fun c m => (hf c m).1) hq
  have pq := done_high h (by omega) L hp hf hq
  have : (L.length : Int) * (9 * far) ≤ am * (9 * far) := Int.mul_le_mul_of_nonneg_right hl (by omega)
  exact ⟨L, q, l', x, e, dk, ed, pq.mono (by omega), sx, hf, hl, hq⟩
end DV

set_option Elab.async false
set_option linter.all false
set_option maxRecDepth 100000
set_option maxHeartbeats 4000000
set_option autoImplicit false
/-! MyF: sums over kinds, the most coins. -/
namespace DV
open PySem L2
theorem sum_swap (f : Nat → Nat → Int) (l m : List Nat) : (l.map fun i => (m.map fun j => f i j).sum).sum = (m.map fun j => (l.map fun i => f i j).sum).sum := by
  induction l with
  | nil => simp only [List.map_nil, List.sum_nil]; exact (sum_zero fun _ _ => rfl).symm
  | cons i l ih => simp only [List.map_cons, List.sum_cons, ih, sum_add]
theorem sum_mul (k : Int) (x : Nat → Int) : ∀ l : List Nat, (l.map fun i => k * x i).sum = k * (l.map x).sum
  | [] => by simp
  | i :: l => by simp only [List.map_cons, List.sum_cons, sum_mul k x l, Int.mul_add]
/-- a sum over some places, over all -/
theorem sum_ind {f : Nat → Int} {m : List Nat} : ∀ {l : List Nat}, l.Nodup → (∀ i ∈ l, i ∈ m) → m.Nodup → (l.map f).sum = (m.map fun j => if j ∈ l then f j else 0).sum
  | [], _, _, _ => by simp only [List.map_nil, List.sum_nil]; exact (sum_zero fun _ _ => by simp).symm
  | i :: l, nd, hm, ndm => by
    obtain ⟨n1, n2⟩ := List.nodup_cons.mp nd
    have ih := sum_ind (f := f) (l := l) n2 (fun j q => hm j (.tail _ q)) ndm
    have s := sum_one i (f i) ndm
    rw [if_pos (hm i (.head _))] at s
    rw [List.map_cons, List.sum_cons, ih, ← s, ← sum_add]
    refine sum_same fun j _ => ?_
    show (if j = i then f i else 0) + (if j ∈ l then f j else 0) = if j ∈ i :: l then f j else 0
    by_cases e : j = i
    · subst e
      rw [if_pos rfl, if_neg n1, if_pos (.head _)]; omega
    · rw [if_neg e]
      by_cases q : j ∈ l
      · rw [if_pos q, if_pos (.tail _ q)]; omega
      · rw [if_neg q, if_neg fun z => by rcases List.mem_cons.mp z with z | z; exact e z; exact q z]; omega
/-- what the kinds with a greater one give, by their greater kinds -/
theorem sum_up {cs : List Rw} (h : Coins cs) {f : Nat → Int} (hf : ∀ i, i < cs.length → mnAt cs i = 0 → f i = 0) : ((List.range cs.length).map f).sum = ((List.range cs.length).map fun i => ((chI cs i).map f).sum).sum := by
  have e1 : ((List.range cs.length).map fun i => ((chI cs i).map f).sum) = (List.range cs.length).map fun i => ((List.range cs.length).map fun j => if j ∈ chI cs i then f j else 0).sum :=
    List.map_congr_left fun i _ => sum_ind (ch_nodup cs i) (fun j m => List.mem_range.mpr (ch_lt m)) List.nodup_range
  rw [e1, sum_swap]
  refine sum_same fun j m => ?_
  have hj := List.mem_range.mp m
  show f j = ((List.range cs.length).map fun i => if j ∈ chI cs i then f j else 0).sum
  by_cases z : mnAt cs j = 0
  · rw [hf j hj z, sum_zero]
    intro i _
    show (if j ∈ chI cs i then (0 : Int) else 0) = 0
    split <;> rfl
  · have mj : cs[j] ∈ cs := List.getElem_mem hj
    have e := coins_mn h mj
    rw [mn_get hj] at e
    have hu : cs[j].up ≠ "" := fun q => z (e.2.2.2 q)
    obtain ⟨a, r2, ha, hn, _⟩ := coins_up h mj hu
    have hal := (List.getElem?_eq_some_iff.mp ha).1
    have ja : j ∈ chI cs a := mem_ch.mpr ⟨cs[j], List.getElem?_eq_getElem hj, by rw [nm_at ha, hn]⟩
    have s := sum_one a (f j) (List.nodup_range (n := cs.length))
    rw [if_pos (List.mem_range.mpr hal)] at s
    refine s.symm.trans (sum_same fun i mi => ?_)
    show (if i = a then f j else 0) = if j ∈ chI cs i then f j else 0
    by_cases q : i = a
    · subst q; rw [if_pos rfl, if_pos ja]
    · rw [if_neg q, if_neg fun w => q (ch_one h (List.mem_range.mp mi) hal w ja)]
/-! weights -/
def mx1 (l : List Int) : Int := l.foldl max 1
theorem mx1_ge (l : List Int) : 1 ≤ mx1 l := (foldl_max_le l 1).1
theorem mx1_mem {l : List Int} {x : Int} (h : x ∈ l) : x ≤ mx1 l := (foldl_max_le l 1).2.1 x h
theorem mx1_le {l : List Int} {b : Int} (h1 : 1 ≤ b) (h : ∀ x ∈ l, x ≤ b) : mx1 l ≤ b := by
  rcases (foldl_max_le l 1).2.2 with e | m
  · unfold mx1; rw [e]; exact h1
  · exact h _ m
def ww (cs : List Rw) : Nat → Nat → Int
  | 0, _ => 1
  | n + 1, i => mx1 ((chI cs i).map fun c => mnAt cs c * ww cs n c)
theorem ww_stable {cs : List Rw} (h : Coins cs) : ∀ (n i : Nat), i < cs.length → cs.length - rk cs i < n → ww cs n i = ww cs (n + 1) i
  | 0, i, _, hn => by omega
  | n + 1, i, hi, hn => by
    show mx1 ((chI cs i).map fun c => mnAt cs c * ww cs n c) = mx1 ((chI cs i).map fun c => mnAt cs c * ww cs (n + 1) c)
    rw [List.map_congr_left fun c m => by
      have r := rk_child h hi m
      have l := rk_le cs c
      show mnAt cs c * ww cs n c = mnAt cs c * ww cs (n + 1) c
      rw [ww_stable h n c (ch_lt m) (by omega)]]
def W (cs : List Rw) (i : Nat) : Int := ww cs (cs.length + 1) i
theorem W_eq {cs : List Rw} (h : Coins cs) {i : Nat} (hi : i < cs.length) : W cs i = mx1 ((chI cs i).map fun c => mnAt cs c * W cs c) := by
  unfold W
  show mx1 ((chI cs i).map fun c => mnAt cs c * ww cs cs.length c) = _
  rw [List.map_congr_left fun c m => by
    have r := rk_child h hi m
    have l := rk_le cs c
    show mnAt cs c * ww cs cs.length c = mnAt cs c * ww cs (cs.length + 1) c
    rw [ww_stable h cs.length c (ch_lt m) (by omega)]]
theorem ww_bd {cs : List Rw} (h : Coins cs) : ∀ (n i : Nat), i < cs.length → 1 ≤ ww cs n i ∧ ww cs n i ≤ 9 ^ n
  | 0, i, _ => ⟨Int.le_refl _, Int.le_refl _⟩
  | n + 1, i, hi => by
    refine ⟨mx1_ge _, mx1_le ?_ fun x m => ?_⟩
    · have : (0 : Int) < 9 ^ (n + 1) := Int.pow_pos (by decide)
      omega
    · obtain ⟨c, mc, rfl⟩ := List.mem_map.mp m
      have a := ch_mn h hi mc
      have b := ww_bd h n c (ch_lt mc)
      have : mnAt cs c * ww cs n c ≤ 9 * 9 ^ n := Int.le_trans (Int.mul_le_mul_of_nonneg_right a.2 (by omega)) (Int.mul_le_mul_of_nonneg_left b.2 (by decide))
      rw [Int.pow_succ, Int.mul_comm (9 ^ n) 9]
      exact this
theorem nine_pow {n : Nat} (h : n ≤ 9) : (9 : Int) ^ n ≤ 9 ^ 9 := by
  have := Nat.pow_le_pow_right (n := 9) (by decide) h
  exact_mod_cast this
theorem W_bd {cs : List Rw} (h : Coins cs) {i : Nat} (hi : i < cs.length) : 1 ≤ W cs i ∧ W cs i ≤ 9 ^ 9 := by
  have a := ww_bd h (cs.length + 1) i hi
  have h8 := (coins_len h).2
  have : (9 : Int) ^ (cs.length + 1) ≤ 9 ^ 9 := by
    exact nine_pow (by omega)
  exact ⟨a.1, Int.le_trans a.2 this⟩
theorem W_ge {cs : List Rw} (h : Coins cs) {i c : Nat} (hi : i < cs.length) (m : c ∈ chI cs i) : mnAt cs c * W cs c ≤ W cs i := by
  rw [W_eq h hi]
  exact mx1_mem (List.mem_map.mpr ⟨c, m, rfl⟩)
/-! what comes together is no more than so much -/
theorem sum_bd {x : Nat → Int} {B : Int} : ∀ {l : List Nat}, (∀ i ∈ l, 0 ≤ x i ∧ x i ≤ B) → 0 ≤ (l.map x).sum ∧ (l.map x).sum ≤ l.length * B
  | [], _ => by simp
  | i :: l, h => by
    have a := h i (.head _)
    have ih := sum_bd (l := l) fun j m => h j (.tail _ m)
    rw [List.map_cons, List.sum_cons, List.length_cons]
    push_cast
    rw [Int.add_mul, Int.one_mul]
    omega
theorem vv_bd {cs : List Rw} (h : Coins cs) {p : List Int} {B : Int} (hp : ∀ i, 0 ≤ gq p i ∧ gq p i ≤ B) : ∀ (n i : Nat), i < cs.length → 0 ≤ vv cs p n i ∧ vv cs p n i ≤ B * 9 ^ n
  | 0, i, _ => by
    have := hp i
    exact ⟨Int.le_refl _, by rw [Int.pow_zero, Int.mul_one]; show (0 : Int) ≤ B; omega⟩
  | n + 1, i, hi => by
    have a := hp i
    have h8 := (coins_len h).2
    have lc : ((chI cs i).length : Int) ≤ 8 := by
      have : (chI cs i).length ≤ cs.length := chFrom_len (s := nmAt cs i) cs 0
      omega
    have s := sum_bd (x := fun c => vv cs p n c / mnAt cs c) (B := B * 9 ^ n) (l := chI cs i) fun c m => by
      have b := vv_bd h hp n c (ch_lt m)
      have k := ch_mn h hi m
      exact ⟨Int.ediv_nonneg b.1 (by omega), Int.le_trans (Int.ediv_le_self _ b.1) b.2⟩
    have B0 : 0 ≤ B := by omega
    have p1 : (1 : Int) ≤ 9 ^ n := by
      have : (0 : Int) < 9 ^ n := Int.pow_pos (by decide)
      omega
    have k1 : B * 1 ≤ B * 9 ^ n := Int.mul_le_mul_of_nonneg_left p1 B0
    have k2 : ((chI cs i).length : Int) * (B * 9 ^ n) ≤ 8 * (B * 9 ^ n) := Int.mul_le_mul_of_nonneg_right lc (by omega)
    show 0 ≤ gq p i + ((chI cs i).map fun c => vv cs p n c / mnAt cs c).sum ∧ gq p i + ((chI cs i).map fun c => vv cs p n c / mnAt cs c).sum ≤ B * 9 ^ (n + 1)
    rw [Int.pow_succ, ← Int.mul_assoc]
    omega
theorem V_bd {cs : List Rw} (h : Coins cs) {p : List Int} (hp : Purse cs (10 ^ 30) p) {i : Nat} (hi : i < cs.length) : 0 ≤ V cs p i ∧ V cs p i ≤ 10 ^ 30 * 9 ^ 9 := by
  have hb : ∀ i, 0 ≤ gq p i ∧ gq p i ≤ 10 ^ 30 := fun i => by
    refine ⟨gq_nonneg hp i, ?_⟩
    by_cases q : i < p.length
    · exact hp.high _ (gp_mem q)
    · rw [gq_out (by omega)]; decide
  have a := vv_bd h hb (cs.length + 1) i hi
  have h8 := (coins_len h).2
  have : (9 : Int) ^ (cs.length + 1) ≤ 9 ^ 9 := nine_pow (by omega)
  exact ⟨a.1, Int.le_trans a.2 (Int.mul_le_mul_of_nonneg_left this (by decide))⟩
theorem gat_bd {cs : List Rw} (h : Coins cs) {p : List Int} (hp : Purse cs (10 ^ 30) p) (i : Nat) : 0 ≤ gq (gat cs p) i ∧ gq (gat cs p) i ≤ 10 ^ 30 * 9 ^ 9 := by
  by_cases hi : i < cs.length
  · have v := V_bd h hp hi
    rw [gat_gq hi]
    split
    · exact v
    · rename_i z
      have m := mn_nine h hi
      have a := Int.emod_lt_of_pos (V cs p i) (show 0 < mnAt cs i by omega)
      have b := Int.emod_nonneg (V cs p i) z
      have : (9 : Int) ≤ 10 ^ 30 * 9 ^ 9 := by decide
      omega
  · rw [gq_out (by rw [gat_len]; omega)]
    exact ⟨by decide, by decide⟩
/-! the most -/
def mostV (cs : List Rw) (g : List Int) : Int := ((List.range cs.length).map fun i => gq g i * W cs i).sum
theorem dkD_kd (l : List (Nat × Int)) : dkD (kd l) = kdD l := by
  have := kd_own l
  exact Option.some.inj this
theorem putK_kd {l : List (Nat × Int)} {j : Nat} {x : Int} (hl : l.length ≤ 1000) (hn : ∀ p ∈ l, p.1 ≠ j) : putK (kd l) (.int (j : Nat)) (.int x) = some (kd (l ++ [(j, x)])) := by
  have := put_kd (x := x) hl hn
  have e := kK.hput (kd l) (.int (j : Nat)) (.int x)
  have e' : putO (.dK (kd l)) (.int (j : Nat)) (.int x) = (putK (kd l) (.int (j : Nat)) (.int x)).map .dK := e
  rw [this] at e'
  cases q : putK (kd l) (.int (j : Nat)) (.int x) with
  | none => rw [q] at e'; cases e'
  | some t =>
    rw [q] at e'
    have := Own.dK.inj (Option.some.inj e')
    rw [this]
theorem gMax_1 (ys : List Int) : gMax [.list ([PyData.int 1] ++ ys.map .int)] = some (.int (mx1 ys)) := by
  show (do let ns ← intsD ((1 :: ys).map PyData.int); let m ← maxL ns; pure (PyData.int m) : Option D) = _
  rw [intsD_map]
  rfl
theorem gAdd_lists {xs ys : List D} (h : xs.length + ys.length ≤ 1000) : gAdd (.list xs) (.list ys) = some (.list (xs ++ ys)) := by
  show (if xs.length + ys.length ≤ lim then some (PyData.list (xs ++ ys)) else none) = _
  rw [if_pos (lim1000 h)]
theorem small_W {cs : List Rw} (h : Coins cs) {i : Nat} (hi : i < cs.length) : (W cs i).natAbs < 2 ^ 200 := by
  have := W_bd h hi
  have : (9 : Int) ^ 9 < 2 ^ 200 := by decide
  omega
/-- the weights that are written so far -/
structure WInv (cs : List Rw) (F : List Nat) (k : Nat) (l : List (Nat × Int)) : Prop where
  len : l.length = k
  keys : ∀ z ∈ l, z.1 ∈ F.take k
  val : ∀ i ∈ F.take k, valN l i = some (W cs i)
theorem y_mturn {cs : List Rw} (h : Coins cs) {F : List Nat} (b : Below cs F) (lF : F.length ≤ 8) {k i : Nat} (hi : F[k]? = some i) {l : List (Nat × Int)} (I : WInv cs F k l) : pb_most_of_1 (csD cs) (kd l) (.int (i : Nat)) = .ok (kd (l ++ [(i, W cs i)])) ∧ WInv cs F (k + 1) (l ++ [(i, W cs i)]) := by
  have hk := (List.getElem?_eq_some_iff.mp hi).1
  have ilt := b.lt i (List.mem_of_getElem? hi)
  have h8 := (coins_len h).2
  have lc : (chI cs i).length ≤ 8 := by
    have : (chI cs i).length ≤ cs.length := chFrom_len (s := nmAt cs i) cs 0
    omega
  have ah := ahead_take b hi
  have ni : i ∉ F.take k := fun m => by
    obtain ⟨j, hj⟩ := List.mem_iff_getElem?.mp m
    rw [List.getElem?_take] at hj
    split at hj
    · rename_i hjk
      obtain ⟨a1, a2⟩ := List.getElem?_eq_some_iff.mp hj
      obtain ⟨b1, b2⟩ := List.getElem?_eq_some_iff.mp hi
      exact List.pairwise_iff_getElem.mp b.nd j k a1 b1 hjk (a2.trans b2.symm)
    · cases hj
  have c := compP_map (b := pc_most_of_1 (csD cs) (kd l)) (fun j : Nat => PyData.int (j : Nat)) (fun j : Nat => .int (mnAt cs j * W cs j)) (chI cs i) [] (lim1000 (by rw [List.length_nil]; omega)) (fun c m => by
    have c1 := ch_lt m
    have c2 := ch_mn h ilt m
    have m9 : (mnAt cs c).natAbs < 2 ^ 200 := by
      have : (9 : Int) < 2 ^ 200 := by decide
      omega
    unfold pc_most_of_1
    simp only [Px.bind_ok, ofO_some, asB_bool, un2_eq, un3_eq, unL2_eq, ix_int c1, ix_mn c1, dkD_kd, gIx_kd (I.val c (ah c m)), gMul_small m9 (small_W h c1)])
  rw [show (chI cs i).map (fun j : Nat => PyData.int (j : Nat)) = natsD (chI cs i) from rfl] at c
  have gm := gMax_1 ((chI cs i).map fun c => mnAt cs c * W cs c)
  rw [List.map_map] at gm
  have ga := gAdd_lists (xs := [PyData.int 1]) (ys := [] ++ (chI cs i).map fun j : Nat => PyData.int (mnAt cs j * W cs j)) (by simp; omega)
  have gm' : gMax [.list ([PyData.int 1] ++ ([] ++ (chI cs i).map fun j : Nat => PyData.int (mnAt cs j * W cs j)))] = some (.int (W cs i)) := by
    rw [W_eq h ilt]
    exact gm
  have pk := putK_kd (l := l) (j := i) (x := W cs i) (by rw [I.len]; omega) (fun p m e => ni (by rw [← e]; exact I.keys p m))
  refine ⟨?_, ?_⟩
  · unfold pb_most_of_1
    rw [y_lesser h ilt, Px.bind_ok, items_nats, ofO_some, Px.bind_ok, c, Px.bind_ok, ga, ofO_some, Px.bind_ok, gm', ofO_some, Px.bind_ok, pk, ofO_some, Px.bind_ok]
  · have tk := take_succ' hi
    refine ⟨by rw [List.length_append, I.len]; rfl, fun z m => ?_, fun j m => ?_⟩
    · rw [tk]
      rcases List.mem_append.mp m with m | m
      · exact List.mem_append_left _ (I.keys z m)
      · rw [List.mem_singleton.mp m]; exact List.mem_append_right _ (.head _)
    · rw [valN_app]
      rw [tk] at m
      rcases List.mem_append.mp m with m | m
      · rw [I.val j m]
      · have : j = i := List.mem_singleton.mp m
        subst this
        have : valN l j = none := by
          unfold valN
          rw [Option.map_eq_none_iff, List.find?_eq_none]
          intro z mz e
          exact ni (by rw [← of_decide_eq_true e]; exact I.keys z mz)
        rw [this]
        simp
theorem enum_ps (g : List Int) : ∀ k : Nat, enumD k (g.map .int) = (List.range g.length).map fun i => .tuple [.int ((k + i : Nat) : Int), .int (gq g i)] := by
  induction g with
  | nil => intro k; rfl
  | cons x g ih =>
    intro k
    show PyData.tuple [.int (k : Nat), .int x] :: enumD (k + 1) (g.map .int) = _
    rw [ih (k + 1), List.length_cons, List.range_succ_eq_map, List.map_cons, List.map_map]
    congr 1
    refine List.map_congr_left fun i _ => ?_
    show PyData.tuple [.int ((k + 1 + i : Nat) : Int), .int (gq g i)] = PyData.tuple [.int ((k + (i + 1) : Nat) : Int), .int (gq (x :: g) (i + 1))]
    rw [show k + 1 + i = k + (i + 1) by omega]
    rfl
theorem sum_range (g : List Int) : g.sum = ((List.range g.length).map (gq g)).sum := by
  induction g with
  | nil => rfl
  | cons x g ih =>
    rw [List.sum_cons, ih, List.length_cons, List.range_succ_eq_map, List.map_cons, List.sum_cons, List.map_map]
    rfl
theorem y_most_of {cs : List Rw} (h : Coins cs) {p : List Int} (hp : Purse cs (10 ^ 30) p) : p_most_of (csD cs) (psD p) = .ok (.int (mostV cs (gat cs p))) := by
  have h8 := (coins_len h).2
  obtain ⟨F, b, l, e⟩ := y_from_below h
  have full := below_all b l
  obtain ⟨s, es, t, et, I⟩ := loopP_run (b := pb_most_of_1 (csD cs)) (fun k s => ∃ t, s = kd t ∧ WInv cs F k t) (natsD F) 0 [] ⟨[], rfl, rfl, fun z m => absurd m List.not_mem_nil, fun i m => by simp at m⟩ (fun k d s hd ⟨t, et, I⟩ => by
    rw [Nat.zero_add] at I ⊢
    unfold natsD at hd
    rw [List.getElem?_map] at hd
    cases hi : F[k]? with
    | none => rw [hi] at hd; cases hd
    | some i =>
      rw [hi] at hd
      have hd : PyData.int (i : Nat) = d := Option.some.inj hd
      subst hd
      subst et
      obtain ⟨a, b⟩ := y_mturn h b (by omega) hi I
      exact ⟨_, a, _, rfl, b⟩)
  have ln : 0 + (natsD F).length = F.length := by unfold natsD; rw [List.length_map, Nat.zero_add]
  rw [ln] at I
  have val : ∀ i, i < cs.length → valN t i = some (W cs i) := fun i hi => I.val i (by rw [List.take_length]; exact full i hi)
  have en : enumO [psD (gat cs p)] = some ((List.range cs.length).map fun i => .tuple [.int ((i : Nat) : Int), .int (gq (gat cs p) i)]) := by
    show some (enumD 0 ((gat cs p).map .int)) = _
    rw [enum_ps, gat_len]
    congr 1
    exact List.map_congr_left fun i _ => by rw [Nat.zero_add]
  have c := compP_map (b := pc_most_of_2 s) (fun i : Nat => PyData.tuple [.int ((i : Nat) : Int), .int (gq (gat cs p) i)]) (fun i : Nat => .int (gq (gat cs p) i * W cs i)) (List.range cs.length) [] (lim1000 (by rw [List.length_range, List.length_nil]; omega)) (fun i m => by
    have hi := List.mem_range.mp m
    have gb := gat_bd h hp i
    have g2 : (gq (gat cs p) i).natAbs < 2 ^ 200 := by
      have : (10 : Int) ^ 30 * 9 ^ 9 < 2 ^ 200 := by decide
      omega
    unfold pc_most_of_2
    simp only [Px.bind_ok, ofO_some, asB_bool, un2_eq, un3_eq, unL2_eq, et, dkD_kd, gIx_kd (val i hi), gMul_small g2 (small_W h hi)])
  have gs := gSum_ints ((List.range cs.length).map fun i => gq (gat cs p) i * W cs i)
  rw [List.map_map] at gs
  have gs' : gSum [.list ([] ++ (List.range cs.length).map fun i => PyData.int (gq (gat cs p) i * W cs i))] = some (.int (mostV cs (gat cs p))) := gs
  unfold p_most_of
  rw [e, Px.bind_ok, items_nats, ofO_some, Px.bind_ok, es, Px.bind_ok, y_gathered h hp.len, Px.bind_ok, en, ofO_some, Px.bind_ok, c, Px.bind_ok, gs', ofO_some, Px.bind_ok]
theorem y_most {cs : List Rw} (h : Coins cs) {p : List Int} (hp : Purse cs (10 ^ 30) p) : p_most (csD cs) (psD p) = .ok (.int (mostV cs (gat cs p))) := by
  unfold p_most
  rw [y_need_purse h hp, Px.bind_ok, y_most_of h hp]
  rfl
/-! fewest and most among all that come -/
theorem upsV_nonneg {cs : List Rw} (h : Coins cs) {p : List Int} (hp : ∀ i, 0 ≤ gq p i) {i : Nat} (hi : i < cs.length) : 0 ≤ upsV cs p i := by
  unfold upsV
  split
  · exact Int.le_refl _
  · have m := mn_nine h hi
    have v : ∀ (n i : Nat), i < cs.length → 0 ≤ vv cs p n i := fun n => by
      induction n with
      | zero => intro i _; exact Int.le_refl _
      | succ n ih =>
        intro i hi
        have s : 0 ≤ ((chI cs i).map fun c => vv cs p n c / mnAt cs c).sum := by
          have z := sum_le (x := fun _ => 0) (y := fun c => vv cs p n c / mnAt cs c) (l := chI cs i) fun c m => by
            have := ch_mn h hi m
            exact Int.ediv_nonneg (ih c (ch_lt m)) (by omega)
          rw [sum_zero (fun _ _ => rfl)] at z
          exact z
        have := hp i
        show 0 ≤ gq p i + ((chI cs i).map fun c => vv cs p n c / mnAt cs c).sum
        omega
    exact Int.ediv_nonneg (v _ i hi) m.1
theorem sum_sub (x y : Nat → Int) (l : List Nat) : (l.map fun i => x i - y i).sum = (l.map x).sum - (l.map y).sum := by
  have : (fun i => x i - y i) = fun i => x i + - y i := by funext i; omega
  rw [this, sum_add, sum_neg]; omega
/-- what p has more than the fewest -/
theorem few_diff {cs : List Rw} (h : Coins cs) {p g : List Int} (lp : p.length = cs.length) (lg : g.length = cs.length) {x : Nat → Int} (s : Sol cs p g x) : p.sum - g.sum = ((List.range cs.length).map fun i => if mnAt cs i = 0 then 0 else (mnAt cs i - 1) * x i).sum := by
  have u := sum_up h (f := x) s.root
  rw [sum_range p, sum_range g, lp, lg, ← sum_sub]
  have : ((List.range cs.length).map fun i => gq p i - gq g i) = (List.range cs.length).map fun i => mnAt cs i * x i - ((chI cs i).map x).sum := List.map_congr_left fun i m => by
    have := s.eq i (List.mem_range.mp m)
    omega
  rw [this, sum_sub, ← u, ← sum_sub]
  refine sum_same fun i m => ?_
  show mnAt cs i * x i - x i = if mnAt cs i = 0 then 0 else (mnAt cs i - 1) * x i
  split
  · rename_i z; rw [s.root i (List.mem_range.mp m) z]; omega
  · rw [Int.sub_mul, Int.one_mul]
theorem few_le {cs : List Rw} (h : Coins cs) {p : List Int} {hi : Int} (hp : Purse cs hi p) : (gat cs p).sum ≤ p.sum ∧ (p.sum = (gat cs p).sum → p = gat cs p) := by
  have s := gat_sol h p
  have d := few_diff h hp.len (gat_len cs p) s
  have nn : ∀ i ∈ List.range cs.length, 0 ≤ (if mnAt cs i = 0 then (0 : Int) else (mnAt cs i - 1) * upsV cs p i) := fun i m => by
    have hi := List.mem_range.mp m
    split
    · exact Int.le_refl _
    · have a := mn_pos h hi
      exact Int.mul_nonneg (by omega) (upsV_nonneg h (gq_nonneg hp) hi)
  have z := sum_le (x := fun _ => 0) (y := fun i => if mnAt cs i = 0 then (0 : Int) else (mnAt cs i - 1) * upsV cs p i) (l := List.range cs.length) nn
  rw [sum_zero (fun _ _ => rfl)] at z
  refine ⟨by omega, fun e => ?_⟩
  -- all the ups are none
  have all0 : ∀ l : List Nat, (∀ i ∈ l, 0 ≤ (if mnAt cs i = 0 then (0 : Int) else (mnAt cs i - 1) * upsV cs p i)) → (l.map fun i => if mnAt cs i = 0 then (0 : Int) else (mnAt cs i - 1) * upsV cs p i).sum = 0 → ∀ i ∈ l, (if mnAt cs i = 0 then (0 : Int) else (mnAt cs i - 1) * upsV cs p i) = 0 := fun l => by
    induction l with
    | nil => intro _ _ i m; cases m
    | cons j l ih =>
      intro hn hs i m
      rw [List.map_cons, List.sum_cons] at hs
      have a := hn j (.head _)
      have b := sum_le (x := fun _ => 0) (y := fun i => if mnAt cs i = 0 then (0 : Int) else (mnAt cs i - 1) * upsV cs p i) (l := l) fun k mk => hn k (.tail _ mk)
      rw [sum_zero (fun _ _ => rfl)] at b
      rcases List.mem_cons.mp m with rfl | m
      · omega
      · exact ih (fun k mk => hn k (.tail _ mk)) (by omega) i m
  have x0 : ∀ i, i < cs.length → upsV cs p i = 0 := fun i hi => by
    have q := all0 _ nn (by omega) i (List.mem_range.mpr hi)
    split at q
    · rename_i z; exact s.root i hi z
    · have a := mn_pos h hi
      have b := upsV_nonneg h (gq_nonneg hp) hi
      rcases Int.mul_eq_zero.mp q with c | c
      · omega
      · exact c
  refine list_ext_gq (by rw [hp.len, gat_len]) fun i hi => ?_
  have hi : i < cs.length := by rw [← hp.len]; exact hi
  have q := s.eq i hi
  rw [sum_zero fun c m => x0 c (ch_lt m), x0 i hi, Int.mul_zero] at q
  omega
theorem most_ge {cs : List Rw} (h : Coins cs) {p : List Int} {hi : Int} (hp : Purse cs hi p) : p.sum ≤ mostV cs (gat cs p) := by
  have s := gat_sol h p
  have a1 : p.sum ≤ mostV cs p := by
    rw [sum_range p, hp.len]
    exact sum_le fun i m => by
      have w := W_bd h (List.mem_range.mp m)
      have g := gq_nonneg hp i
      have : gq p i * 1 ≤ gq p i * W cs i := Int.mul_le_mul_of_nonneg_left w.1 g
      omega
  have u := sum_up h (f := fun i => mnAt cs i * upsV cs p i * W cs i) fun i _ z => by
    show mnAt cs i * upsV cs p i * W cs i = 0
    rw [z, Int.zero_mul, Int.zero_mul]
  have a2 : mostV cs p - mostV cs (gat cs p) ≤ 0 := by
    unfold mostV
    rw [← sum_sub]
    have e : ((List.range cs.length).map fun i => gq p i * W cs i - gq (gat cs p) i * W cs i) = (List.range cs.length).map fun i => mnAt cs i * upsV cs p i * W cs i - W cs i * ((chI cs i).map (upsV cs p)).sum := List.map_congr_left fun i m => by
      have q := s.eq i (List.mem_range.mp m)
      have : gq p i - gq (gat cs p) i = mnAt cs i * upsV cs p i - ((chI cs i).map (upsV cs p)).sum := by omega
      rw [← Int.sub_mul, this, Int.sub_mul, Int.mul_comm (W cs i)]
    rw [e, sum_sub, u, ← sum_sub]
    have z := sum_le (x := fun i => ((chI cs i).map fun j => mnAt cs j * upsV cs p j * W cs j).sum - W cs i * ((chI cs i).map (upsV cs p)).sum) (y := fun _ => 0) (l := List.range cs.length) fun i m => by
      have hi := List.mem_range.mp m
      show ((chI cs i).map fun j => mnAt cs j * upsV cs p j * W cs j).sum - W cs i * ((chI cs i).map (upsV cs p)).sum ≤ 0
      rw [← sum_mul, ← sum_sub]
      have := sum_le (x := fun j => mnAt cs j * upsV cs p j * W cs j - W cs i * upsV cs p j) (y := fun _ => 0) (l := chI cs i) fun j mj => by
        have w := W_ge h hi mj
        have n := upsV_nonneg h (gq_nonneg hp) (ch_lt mj)
        have e2 : mnAt cs j * upsV cs p j * W cs j = (mnAt cs j * W cs j) * upsV cs p j := by rw [Int.mul_assoc, Int.mul_comm (upsV cs p j), ← Int.mul_assoc]
        have : (mnAt cs j * W cs j) * upsV cs p j ≤ W cs i * upsV cs p j := Int.mul_le_mul_of_nonneg_right w n
        show mnAt cs j * upsV cs p j * W cs j - W cs i * upsV cs p j ≤ 0
        omega
      rw [sum_zero (x := fun _ => 0) (fun _ _ => rfl)] at this
      exact this
    rw [sum_zero (x := fun _ => 0) (fun _ _ => rfl)] at z
    exact z
  omega
end DV

set_option Elab.async false
set_option linter.all false
set_option maxRecDepth 100000
set_option maxHeartbeats 4000000
set_option autoImplicit false
/-! MyG: a row that leads from a purse to another one. -/
namespace DV
open PySem L2
theorem gq_step {m : Int} {i a : Nat} {p : List Int} {t : Int} {n : Nat} (hp : p.length = n) (hi : i < n) (ha : a < n) (ne : a ≠ i) (j : Nat) : gq (stepP m i a p t) j = if j = a then gq p a + t else if j = i then gq p i - m * t else gq p j := by
  unfold stepP
  by_cases e1 : j = a
  · subst e1
    rw [if_pos rfl, gq_set_same (by rw [List.length_set, hp]; exact ha)]
    have : gp (p.set i (gp p i - m * t)) j = gp p j := gp_set_ne (fun z => ne z.symm)
    rw [this]; rfl
  · rw [if_neg e1, gq_set_ne (fun z => e1 z.symm)]
    by_cases e2 : j = i
    · subst e2
      rw [if_pos rfl, gq_set_same (by rw [hp]; exact hi)]; rfl
    · rw [if_neg e2, gq_set_ne (fun z => e2 z.symm)]
/-- a kind with a greater one has a change -/
theorem up_of {cs : List Rw} (h : Coins cs) {i : Nat} (hi : i < cs.length) (hm : mnAt cs i ≠ 0) (t : Int) : ∃ a, Chg cs (i, t) cs[i] a ∧ a < cs.length ∧ i ∈ chI cs a := by
  have mi : cs[i] ∈ cs := List.getElem_mem hi
  have e := coins_mn h mi
  rw [mn_get hi] at e
  have hu : cs[i].up ≠ "" := fun q => hm (e.2.2.2 q)
  obtain ⟨a, hc⟩ := chg_of h (c := (i, t)) (List.getElem?_eq_getElem hi) hu
  obtain ⟨r2, ha, hr2⟩ := hc.above
  exact ⟨a, hc, (List.getElem?_eq_some_iff.mp ha).1, mem_ch.mpr ⟨cs[i], List.getElem?_eq_getElem hi, by rw [nm_at ha, hr2]⟩⟩
/-- one change of a row: p becomes q -/
theorem chg_to {cs : List Rw} (h : Coins cs) {p q : List Int} (lp : p.length = cs.length) (lq : q.length = cs.length) {i a : Nat} {t : Int} (hi : i < cs.length) (hc : Chg cs (i, t) cs[i] a) (ha : a < cs.length) (nn : ∀ j, j < cs.length → 0 ≤ gq q j)
    (e : ∀ j, j < cs.length → gq q j = if j = a then gq p a + t else if j = i then gq p i - mnAt cs i * t else gq p j) : chgO cs p (i, t) = some q := by
  rw [chgO_eq h hc]
  have eq : stepP cs[i].mn i a p t = q := list_ext_gq (by rw [stepP_len, lp, lq]) fun j hj => by
    have hj : j < cs.length := by rw [stepP_len, lp] at hj; exact hj
    rw [gq_step lp hi ha hc.ne j, mn_get hi, e j hj]
  unfold chgP
  show (if posB (stepP cs[i].mn i a p t) = true then _ else _) = _
  rw [eq, if_pos]
  rw [posB_iff]
  intro x m
  obtain ⟨j, hj, rfl⟩ := mem_gq m
  exact nn j (by rw [← lq]; exact hj)
def pl (t : Int) : Int := if 0 < t then t else 0
def mi (t : Int) : Int := if t < 0 then -t else 0
theorem pl_mi (t : Int) : pl t - mi t = t := by unfold pl mi; split <;> split <;> omega
theorem pl_nonneg (t : Int) : 0 ≤ pl t := by unfold pl; split <;> omega
theorem mi_nonneg (t : Int) : 0 ≤ mi t := by unfold mi; split <;> omega
def listOf (n : Nat) (f : Nat → Int) : List Int := (List.range n).map f
theorem listOf_len (n : Nat) (f : Nat → Int) : (listOf n f).length = n := by unfold listOf; rw [List.length_map, List.length_range]
theorem listOf_gq {n : Nat} {f : Nat → Int} {i : Nat} (h : i < n) : gq (listOf n f) i = f i := by
  unfold gq listOf
  rw [List.getD_eq_getElem?_getD, List.getElem?_map, List.getElem?_range h]
  rfl
theorem listOf_gqp {n : Nat} {p : List Int} (h : p.length = n) : listOf n (gq p) = p := list_ext_gq (by rw [listOf_len, h]) fun i hi => by rw [listOf_gq (by rw [listOf_len] at hi; exact hi)]
/-- what came up to j from the places in S -/
def inS (cs : List Rw) (S : List Nat) (f : Nat → Int) (j : Nat) : Int := ((chI cs j).map fun c => if c ∈ S then f c else 0).sum
theorem inS_add {cs : List Rw} (h : Coins cs) {S T : List Nat} {i a : Nat} (hi : i ∉ S) (hT : ∀ c, c ∈ T ↔ (c ∈ S ∨ c = i)) (ha : a < cs.length) (hia : i ∈ chI cs a) (f : Nat → Int) {j : Nat} (hj : j < cs.length) : inS cs T f j = inS cs S f j + if j = a then f i else 0 := by
  unfold inS
  have s := sum_one i (f i) (ch_nodup cs j)
  have m : (if i ∈ chI cs j then f i else 0) = if j = a then f i else 0 := by
    by_cases e : j = a
    · subst e; rw [if_pos hia, if_pos rfl]
    · rw [if_neg e, if_neg fun w => e (ch_one h hj ha w hia)]
  rw [← m, ← s, ← sum_add]
  refine sum_same fun c _ => ?_
  show (if c ∈ T then f c else 0) = (if c ∈ S then f c else 0) + (if c = i then f i else 0)
  by_cases e : c = i
  · subst e
    rw [if_pos ((hT c).mpr (.inr rfl)), if_neg hi, if_pos rfl]; omega
  · rw [if_neg e]
    by_cases q : c ∈ S
    · rw [if_pos q, if_pos ((hT c).mpr (.inl q))]; omega
    · rw [if_neg q, if_neg fun w => by
        rcases (hT c).mp w with w | w
        · exact q w
        · exact e w]; omega
theorem inS_root {cs : List Rw} (h : Coins cs) {S T : List Nat} {i : Nat} (hT : ∀ c, c ∈ T ↔ (c ∈ S ∨ c = i)) {f : Nat → Int} (hf : f i = 0) {j : Nat} : inS cs T f j = inS cs S f j := by
  unfold inS
  refine sum_same fun c _ => ?_
  show (if c ∈ T then f c else 0) = if c ∈ S then f c else 0
  by_cases q : c ∈ S
  · rw [if_pos q, if_pos ((hT c).mpr (.inl q))]
  · rw [if_neg q]
    by_cases w : c ∈ T
    · rw [if_pos w]
      rcases (hT c).mp w with w | w
      · exact absurd w q
      · rw [w, hf]
    · rw [if_neg w]
theorem inS_le {cs : List Rw} {S : List Nat} {f : Nat → Int} (hf : ∀ c, 0 ≤ f c) (j : Nat) : 0 ≤ inS cs S f j ∧ inS cs S f j ≤ ((chI cs j).map f).sum := by
  have a := sum_le (x := fun _ => 0) (y := fun c => if c ∈ S then f c else 0) (l := chI cs j) fun c _ => by show (0 : Int) ≤ if c ∈ S then f c else 0; split; exact hf c; exact Int.le_refl _
  rw [sum_zero (fun _ _ => rfl)] at a
  exact ⟨a, sum_le fun c _ => by show (if c ∈ S then f c else 0) ≤ f c; split; exact Int.le_refl _; exact hf c⟩
theorem inS_all {cs : List Rw} {S : List Nat} {f : Nat → Int} {j : Nat} (h : ∀ c ∈ chI cs j, c ∈ S) : inS cs S f j = ((chI cs j).map f).sum := sum_same fun c m => if_pos (h c m)
section
variable {cs : List Rw} {p q : List Int} {x : Nat → Int} {F : List Nat}
/-- behind the ups of the places in S -/
def upSt (cs : List Rw) (p : List Int) (x : Nat → Int) (S : List Nat) (j : Nat) : Int := gq p j + inS cs S (fun c => pl (x c)) j - if j ∈ S then mnAt cs j * pl (x j) else 0
/-- .. and of the downs of the places in D -/
def dnSt (cs : List Rw) (p : List Int) (x : Nat → Int) (D : List Nat) (j : Nat) : Int := gq p j + ((chI cs j).map fun c => pl (x c)).sum - mnAt cs j * pl (x j) - inS cs D (fun c => mi (x c)) j + if j ∈ D then mnAt cs j * mi (x j) else 0
theorem up_one (h : Coins cs) (hp : ∀ j, 0 ≤ gq p j) (hq : ∀ j, 0 ≤ gq q j) (s : Sol cs p q x) (b : Below cs F) {k i : Nat} (hi : F[k]? = some i) : 0 ≤ upSt cs p x (F.take k) i - mnAt cs i * pl (x i) := by
  have ilt := b.lt i (List.mem_of_getElem? hi)
  have ah := ahead_take b hi
  have ni : i ∉ F.take k := fun m => by
    obtain ⟨j, hj⟩ := List.mem_iff_getElem?.mp m
    rw [List.getElem?_take] at hj
    split at hj
    · rename_i hjk
      obtain ⟨a1, a2⟩ := List.getElem?_eq_some_iff.mp hj
      obtain ⟨b1, b2⟩ := List.getElem?_eq_some_iff.mp hi
      exact List.pairwise_iff_getElem.mp b.nd j k a1 b1 hjk (a2.trans b2.symm)
    · cases hj
  unfold upSt
  rw [inS_all ah, if_neg ni]
  have e := s.eq i ilt
  have m9 := mn_nine h ilt
  have ge := sum_le (x := x) (y := fun c => pl (x c)) (l := chI cs i) fun c _ => by show x c ≤ pl (x c); unfold pl; split <;> omega
  have s0 := sum_le (x := fun _ => 0) (y := fun c => pl (x c)) (l := chI cs i) fun c _ => pl_nonneg _
  rw [sum_zero (fun _ _ => rfl)] at s0
  have p0 := hp i
  have q0 := hq i
  by_cases w : 0 < x i
  · have : pl (x i) = x i := if_pos w
    rw [this]; omega
  · have : pl (x i) = 0 := if_neg w
    rw [this, Int.mul_zero]; omega
theorem ups_run (h : Coins cs) (lp : p.length = cs.length) (hp : ∀ j, 0 ≤ gq p j) (hq : ∀ j, 0 ≤ gq q j) (s : Sol cs p q x) (b : Below cs F) : ∀ k, k ≤ F.length →
    doneO cs (some p) (((F.take k).filter fun i => decide (0 < x i)).map fun i => (i, x i)) = some (listOf cs.length (upSt cs p x (F.take k))) ∧ ∀ j, j < cs.length → 0 ≤ upSt cs p x (F.take k) j
  | 0, _ => by
    refine ⟨?_, fun j hj => ?_⟩
    · rw [List.take_zero]
      show some p = _
      congr 1
      refine list_ext_gq (by rw [listOf_len, lp]) fun i hi => ?_
      rw [listOf_gq (by omega)]
      unfold upSt inS
      rw [sum_zero (fun c _ => by simp)]
      simp
    · unfold upSt inS
      rw [sum_zero (fun c _ => by simp)]
      simpa using hp j
  | k + 1, hk => by
    obtain ⟨ih, nn⟩ := ups_run h lp hp hq s b k (by omega)
    have hi : F[k]? = some F[k] := List.getElem?_eq_getElem (by omega)
    have ilt := b.lt F[k] (List.getElem_mem _)
    have one := up_one h hp hq s b hi
    have tk := take_succ' hi
    generalize F[k] = i at hi ilt one tk
    have ni : i ∉ F.take k := fun m => by
      obtain ⟨j, hj⟩ := List.mem_iff_getElem?.mp m
      rw [List.getElem?_take] at hj
      split at hj
      · rename_i hjk
        obtain ⟨a1, a2⟩ := List.getElem?_eq_some_iff.mp hj
        obtain ⟨b1, b2⟩ := List.getElem?_eq_some_iff.mp hi
        exact List.pairwise_iff_getElem.mp b.nd j k a1 b1 hjk (a2.trans b2.symm)
      · cases hj
    have hT : ∀ c, c ∈ F.take (k + 1) ↔ (c ∈ F.take k ∨ c = i) := fun c => by rw [tk, List.mem_append, List.mem_singleton]
    by_cases w : 0 < x i
    · have z : mnAt cs i ≠ 0 := fun z => by have := s.root i ilt z; omega
      obtain ⟨a, hc, ha, hia⟩ := up_of h ilt z (x i)
      have pw : pl (x i) = x i := if_pos w
      have m9 := mn_nine h ilt
      have st : ∀ j, j < cs.length → upSt cs p x (F.take (k + 1)) j = if j = a then upSt cs p x (F.take k) a + x i else if j = i then upSt cs p x (F.take k) i - mnAt cs i * x i else upSt cs p x (F.take k) j := fun j hj => by
        unfold upSt
        rw [inS_add h ni hT ha hia (fun c => pl (x c)) hj]
        by_cases e1 : j = a
        · subst e1
          have : j ≠ i := fun e => ch_lone h hj (show j ∈ chI cs j by rw [← e] at hia; exact hia) rfl
          rw [if_pos rfl, if_pos rfl]
          show gq p j + (inS cs (F.take k) (fun c => pl (x c)) j + pl (x i)) - _ = _
          rw [pw]
          by_cases q1 : j ∈ F.take k
          · rw [if_pos ((hT j).mpr (.inl q1)), if_pos q1]; omega
          · rw [if_neg (fun v => by rcases (hT j).mp v with v | v; exact q1 v; exact this v), if_neg q1]; omega
        · rw [if_neg e1, if_neg e1]
          by_cases e2 : j = i
          · subst e2
            rw [if_pos rfl, if_pos ((hT j).mpr (.inr rfl)), if_neg ni, pw]; omega
          · rw [if_neg e2]
            by_cases q1 : j ∈ F.take k
            · rw [if_pos ((hT j).mpr (.inl q1)), if_pos q1]; omega
            · rw [if_neg (fun v => by rcases (hT j).mp v with v | v; exact q1 v; exact e2 v), if_neg q1]; omega
      have nn2 : ∀ j, j < cs.length → 0 ≤ upSt cs p x (F.take (k + 1)) j := fun j hj => by
        rw [st j hj]
        have := nn j hj
        split
        · have := nn a ha; omega
        · split
          · rw [pw] at one; exact one
          · exact this
      refine ⟨?_, nn2⟩
      rw [tk, List.filter_append, List.map_append]
      have : ([i].filter fun i => decide (0 < x i)).map (fun i => (i, x i)) = [(i, x i)] := by rw [List.filter_cons_of_pos (by exact decide_eq_true w)]; rfl
      rw [this, doneO_snoc, ih]
      show chgO cs _ (i, x i) = _
      rw [← tk]
      refine chg_to h (listOf_len _ _) (listOf_len _ _) ilt hc ha (fun j hj => by rw [listOf_gq hj]; exact nn2 j hj) fun j hj => ?_
      rw [listOf_gq hj, listOf_gq ha, listOf_gq ilt, listOf_gq hj]
      exact st j hj
    · have pw : pl (x i) = 0 := if_neg w
      have st : ∀ j, upSt cs p x (F.take (k + 1)) j = upSt cs p x (F.take k) j := fun j => by
        unfold upSt
        rw [inS_root h hT (f := fun c => pl (x c)) pw]
        by_cases q1 : j ∈ F.take k
        · rw [if_pos ((hT j).mpr (.inl q1)), if_pos q1]
        · rw [if_neg q1]
          by_cases q2 : j ∈ F.take (k + 1)
          · rw [if_pos q2]
            have : j = i := ((hT j).mp q2).resolve_left q1
            rw [this, pw, Int.mul_zero]
          · rw [if_neg q2]
      refine ⟨?_, fun j hj => by rw [st]; exact nn j hj⟩
      rw [tk, List.filter_append, List.map_append]
      have : ([i].filter fun i => decide (0 < x i)) = [] := by rw [List.filter_cons_of_neg (by simpa using w)]; rfl
      rw [this, List.map_nil, List.append_nil, ih, ← tk]
      congr 1
      exact list_ext_gq (by rw [listOf_len, listOf_len]) fun j hj => by
        rw [listOf_len] at hj
        rw [listOf_gq hj, listOf_gq hj, st]
/-- the greater ones ahead -/
theorem above_take (b : Below cs F) {k i a : Nat} (hi : F.reverse[k]? = some i) (ha : a ∈ F) (hia : i ∈ chI cs a) : a ∈ F.reverse.take k := by
  obtain ⟨hk, e⟩ := List.getElem?_eq_some_iff.mp hi
  rw [List.length_reverse] at hk
  rw [List.getElem_reverse] at e
  obtain ⟨u, hu⟩ := List.mem_iff_getElem?.mp ha
  have aa := ahead_take b hu i hia
  obtain ⟨t, ht⟩ := List.mem_iff_getElem?.mp aa
  rw [List.getElem?_take] at ht
  have ul := (List.getElem?_eq_some_iff.mp hu).1
  split at ht
  · rename_i htu
    obtain ⟨tl, te⟩ := List.getElem?_eq_some_iff.mp ht
    have tk : t = F.length - 1 - k := by
      have nd := b.nd
      refine Classical.byContradiction fun ne => ?_
      rcases Nat.lt_or_gt_of_ne ne with lt | gt
      · exact List.pairwise_iff_getElem.mp nd t _ tl (by omega) lt (te.trans e.symm)
      · exact List.pairwise_iff_getElem.mp nd _ t (by omega) tl gt (e.trans te.symm)
    refine List.mem_iff_getElem?.mpr ⟨F.length - 1 - u, ?_⟩
    rw [List.getElem?_take, if_pos (by omega), List.getElem?_reverse (by omega)]
    rw [show F.length - 1 - (F.length - 1 - u) = u by omega]
    exact hu
  · cases ht
theorem downs_run (h : Coins cs) (lp : p.length = cs.length) (hp : ∀ j, 0 ≤ gq p j) (hq : ∀ j, 0 ≤ gq q j) (s : Sol cs p q x) (b : Below cs F) (full : ∀ i, i < cs.length → i ∈ F) (n0 : ∀ j, j < cs.length → 0 ≤ dnSt cs p x [] j) : ∀ k, k ≤ F.length →
    doneO cs (some (listOf cs.length (dnSt cs p x []))) (((F.reverse.take k).filter fun i => decide (x i < 0)).map fun i => (i, x i)) = some (listOf cs.length (dnSt cs p x (F.reverse.take k))) ∧ ∀ j, j < cs.length → 0 ≤ dnSt cs p x (F.reverse.take k) j
  | 0, _ => ⟨rfl, n0⟩
  | k + 1, hk => by
    obtain ⟨ih, nn⟩ := downs_run h lp hp hq s b full n0 k (by omega)
    have hi : F.reverse[k]? = some (F.reverse[k]'(by rw [List.length_reverse]; omega)) := List.getElem?_eq_getElem (by rw [List.length_reverse]; omega)
    have im : F.reverse[k]'(by rw [List.length_reverse]; omega) ∈ F := List.mem_reverse.mp (List.getElem_mem _)
    have tk := take_succ' hi
    generalize F.reverse[k]'(by rw [List.length_reverse]; omega) = i at hi im tk
    have ilt := b.lt i im
    have ndr : F.reverse.Nodup := (List.reverse_perm F).nodup_iff.mpr b.nd
    have ni : i ∉ F.reverse.take k := fun m => by
      obtain ⟨j, hj⟩ := List.mem_iff_getElem?.mp m
      rw [List.getElem?_take] at hj
      split at hj
      · rename_i hjk
        obtain ⟨a1, a2⟩ := List.getElem?_eq_some_iff.mp hj
        obtain ⟨b1, b2⟩ := List.getElem?_eq_some_iff.mp hi
        exact List.pairwise_iff_getElem.mp ndr j k a1 b1 hjk (a2.trans b2.symm)
      · cases hj
    have hT : ∀ c, c ∈ F.reverse.take (k + 1) ↔ (c ∈ F.reverse.take k ∨ c = i) := fun c => by rw [tk, List.mem_append, List.mem_singleton]
    by_cases w : x i < 0
    · have z : mnAt cs i ≠ 0 := fun z => by have := s.root i ilt z; omega
      obtain ⟨a, hc, ha, hia⟩ := up_of h ilt z (x i)
      have am := above_take b hi (full a ha) hia
      have mw : mi (x i) = - x i := if_pos w
      have m9 := mn_nine h ilt
      have st : ∀ j, j < cs.length → dnSt cs p x (F.reverse.take (k + 1)) j = if j = a then dnSt cs p x (F.reverse.take k) a + x i else if j = i then dnSt cs p x (F.reverse.take k) i - mnAt cs i * x i else dnSt cs p x (F.reverse.take k) j := fun j hj => by
        unfold dnSt
        rw [inS_add h ni hT ha hia (fun c => mi (x c)) hj]
        by_cases e1 : j = a
        · subst e1
          rw [if_pos rfl, if_pos rfl, if_pos ((hT j).mpr (.inl am)), if_pos am]
          show _ - (inS cs (F.reverse.take k) (fun c => mi (x c)) j + mi (x i)) + _ = _
          rw [mw]; omega
        · rw [if_neg e1, if_neg e1]
          by_cases e2 : j = i
          · subst e2
            rw [if_pos rfl, if_pos ((hT j).mpr (.inr rfl)), if_neg ni, mw, Int.mul_neg]; omega
          · rw [if_neg e2]
            by_cases q1 : j ∈ F.reverse.take k
            · rw [if_pos ((hT j).mpr (.inl q1)), if_pos q1]; omega
            · rw [if_neg (fun v => by rcases (hT j).mp v with v | v; exact q1 v; exact e2 v), if_neg q1]; omega
      -- the greater kind has so many
      have one : ∀ S : List Nat, a ∈ S → 0 ≤ dnSt cs p x S a := fun S aS => by
        unfold dnSt
        rw [if_pos aS]
        have e := s.eq a ha
        have l := (inS_le (cs := cs) (S := S) (f := fun c => mi (x c)) (fun c => mi_nonneg _) a).2
        have sp : ((chI cs a).map x).sum = ((chI cs a).map fun c => pl (x c)).sum - ((chI cs a).map fun c => mi (x c)).sum := by
          rw [← sum_sub]
          exact sum_same fun c _ => (pl_mi (x c)).symm
        have xm : mnAt cs a * x a = mnAt cs a * pl (x a) - mnAt cs a * mi (x a) := by rw [← Int.mul_sub, pl_mi]
        have q0 := hq a
        omega
      have nn2 : ∀ j, j < cs.length → 0 ≤ dnSt cs p x (F.reverse.take (k + 1)) j := fun j hj => by
        by_cases e1 : j = a
        · subst e1; exact one _ ((hT j).mpr (.inl am))
        · rw [st j hj, if_neg e1]
          split
          · rename_i e2
            have := nn i ilt
            have : mnAt cs i * x i ≤ mnAt cs i * 0 := Int.mul_le_mul_of_nonneg_left (by omega) m9.1
            omega
          · exact nn j hj
      refine ⟨?_, nn2⟩
      rw [tk, List.filter_append, List.map_append]
      have : ([i].filter fun i => decide (x i < 0)).map (fun i => (i, x i)) = [(i, x i)] := by rw [List.filter_cons_of_pos (by exact decide_eq_true w)]; rfl
      rw [this, doneO_snoc, ih]
      show chgO cs _ (i, x i) = _
      rw [← tk]
      refine chg_to h (listOf_len _ _) (listOf_len _ _) ilt hc ha (fun j hj => by rw [listOf_gq hj]; exact nn2 j hj) fun j hj => ?_
      rw [listOf_gq hj, listOf_gq ha, listOf_gq ilt, listOf_gq hj]
      exact st j hj
    · have mw : mi (x i) = 0 := if_neg w
      have st : ∀ j, dnSt cs p x (F.reverse.take (k + 1)) j = dnSt cs p x (F.reverse.take k) j := fun j => by
        unfold dnSt
        rw [inS_root h hT (f := fun c => mi (x c)) mw]
        by_cases q1 : j ∈ F.reverse.take k
        · rw [if_pos ((hT j).mpr (.inl q1)), if_pos q1]
        · rw [if_neg q1]
          by_cases q2 : j ∈ F.reverse.take (k + 1)
          · rw [if_pos q2]
            have : j = i := ((hT j).mp q2).resolve_left q1
            rw [this, mw, Int.mul_zero]
          · rw [if_neg q2]
      refine ⟨?_, fun j hj => by rw [st]; exact nn j hj⟩
      rw [tk, List.filter_append, List.map_append]
      have : ([i].filter fun i => decide (x i < 0)) = [] := by rw [List.filter_cons_of_neg (by simpa using w)]; rfl
      rw [this, List.map_nil, List.append_nil, ih, ← tk]
      congr 1
      exact list_ext_gq (by rw [listOf_len, listOf_len]) fun j hj => by
        rw [listOf_len] at hj
        rw [listOf_gq hj, listOf_gq hj, st]
/-- the row that is told -/
def rowL (F : List Nat) (x : Nat → Int) : List (Nat × Int) := (F.filter fun i => decide (0 < x i)).map (fun i => (i, x i)) ++ (F.reverse.filter fun i => decide (x i < 0)).map fun i => (i, x i)
theorem doneO_app (cs : List Rw) (o : Option (List Int)) (A B : List (Nat × Int)) : doneO cs o (A ++ B) = doneO cs (doneO cs o A) B := by
  unfold doneO
  rw [List.foldl_append]
theorem rowL_done (h : Coins cs) (lp : p.length = cs.length) (lq : q.length = cs.length) (hp : ∀ j, 0 ≤ gq p j) (hq : ∀ j, 0 ≤ gq q j) (s : Sol cs p q x) (b : Below cs F) (lF : F.length = cs.length) : doneO cs (some p) (rowL F x) = some q := by
  have full := below_all b lF
  obtain ⟨u1, u2⟩ := ups_run h lp hp hq s b F.length (Nat.le_refl _)
  rw [List.take_length] at u1 u2
  have mid : ∀ j, j < cs.length → upSt cs p x F j = dnSt cs p x [] j := fun j hj => by
    unfold upSt dnSt
    rw [inS_all (fun c m => full c (ch_lt m)), if_pos (full j hj), if_neg List.not_mem_nil]
    have : inS cs [] (fun c => mi (x c)) j = 0 := by unfold inS; exact sum_zero fun c _ => by simp
    rw [this]; omega
  obtain ⟨d1, d2⟩ := downs_run h lp hp hq s b full (fun j hj => by rw [← mid j hj]; exact u2 j hj) F.length (Nat.le_refl _)
  have tl : F.reverse.take F.length = F.reverse := List.take_of_length_le (by rw [List.length_reverse]; exact Nat.le_refl _)
  rw [tl] at d1 d2
  unfold rowL
  rw [doneO_app, u1]
  have e1 : listOf cs.length (upSt cs p x F) = listOf cs.length (dnSt cs p x []) := list_ext_gq (by rw [listOf_len, listOf_len]) fun j hj => by
    rw [listOf_len] at hj
    rw [listOf_gq hj, listOf_gq hj, mid j hj]
  rw [e1, d1]
  congr 1
  refine list_ext_gq (by rw [listOf_len, lq]) fun j hj => ?_
  rw [listOf_len] at hj
  rw [listOf_gq hj]
  unfold dnSt
  rw [inS_all (fun c m => List.mem_reverse.mpr (full c (ch_lt m))), if_pos (List.mem_reverse.mpr (full j hj))]
  have e := s.eq j hj
  have sp : ((chI cs j).map x).sum = ((chI cs j).map fun c => pl (x c)).sum - ((chI cs j).map fun c => mi (x c)).sum := by
    rw [← sum_sub]
    exact sum_same fun c _ => (pl_mi (x c)).symm
  have xm : mnAt cs j * x j = mnAt cs j * pl (x j) - mnAt cs j * mi (x j) := by rw [← Int.mul_sub, pl_mi]
  omega
theorem rowL_ok (h : Coins cs) (s : Sol cs p q x) (b : Below cs F) (hb : ∀ i, -(2 ^ 142) ≤ x i ∧ x i ≤ 2 ^ 142) : OkRow cs (rowL F x) := fun c m => by
  have key : ∀ i ∈ F, x i ≠ 0 → (∃ r a, Chg cs (i, x i) r a) ∧ (x i).natAbs < 2 ^ 200 := fun i mi nz => by
    have ilt := b.lt i mi
    obtain ⟨a, hc, _⟩ := up_of h ilt (fun z => nz (s.root i ilt z)) (x i)
    refine ⟨⟨_, a, hc⟩, ?_⟩
    have := hb i
    have : (2 : Int) ^ 142 < 2 ^ 200 := by decide
    omega
  unfold rowL at m
  rcases List.mem_append.mp m with m | m
  · obtain ⟨i, mi, rfl⟩ := List.mem_map.mp m
    obtain ⟨a1, a2⟩ := List.mem_filter.mp mi
    exact key i a1 (by have := of_decide_eq_true a2; omega)
  · obtain ⟨i, mi, rfl⟩ := List.mem_map.mp m
    obtain ⟨a1, a2⟩ := List.mem_filter.mp mi
    exact key i (List.mem_reverse.mp a1) (by have := of_decide_eq_true a2; omega)
end
theorem y_row_to {cs : List Rw} (h : Coins cs) {p q : List Int} (hp : Purse cs (10 ^ 30) p) (hq : Purse cs (10 ^ 30) q) {res : Option (List Int)} (c : IsCnt cs p q res) :
    (res = none → p_row_to (csD cs) (psD p) (psD q) = .ok .none) ∧ ∀ xs, res = some xs → ∃ F, Below cs F ∧ F.length = cs.length ∧ p_row_to (csD cs) (psD p) (psD q) = .ok (rowsD cs (rowL F (gq xs))) := by
  obtain ⟨res', e, c'⟩ := y_counted h hp.len hq.len hp.bd hq.bd
  have := c.one h c'
  subst this
  have h8 := (coins_len h).2
  constructor
  · intro z
    subst z
    unfold p_row_to
    rw [y_need_two h hp hq, Px.bind_ok, e, Px.bind_ok, oD_none, gIsN_none]
    rfl
  · intro xs z
    subst z
    obtain ⟨F, b, lF, ef⟩ := y_from_below h
    refine ⟨F, b, lF, ?_⟩
    have lx := c.len xs rfl
    have c1 := compP_filter (b := pc_row_to_1 (psD xs) (csD cs)) (fun i => decide (0 < gq xs i)) (fun j : Nat => PyData.int (j : Nat)) (fun i => chD cs (i, gq xs i)) F [] (lim1000 (by rw [List.length_nil]; omega)) (fun i m => by
      have hi := b.lt i m
      unfold pc_row_to_1
      simp only [ixq_ps (show i < xs.length by omega), Px.bind_ok, ofO_some, asB_bool, un2_eq, un3_eq, unL2_eq, gGt_int]
      by_cases w : 0 < gq xs i
      · rw [decide_eq_true w, if_pos rfl, if_pos rfl, ix_int hi, ofO_some, Px.bind_ok, ix_rw0, ofO_some, Px.bind_ok, chD_at (List.getElem?_eq_getElem hi)]
      · rw [decide_eq_false w, if_neg Bool.false_ne_true, if_neg Bool.false_ne_true])
    have c2 := compP_filter (b := pc_row_to_2 (psD xs) (csD cs)) (fun i => decide (gq xs i < 0)) (fun j : Nat => PyData.int (j : Nat)) (fun i => chD cs (i, gq xs i)) F.reverse [] (lim1000 (by rw [List.length_nil, List.length_reverse]; omega)) (fun i m => by
      have hi := b.lt i (List.mem_reverse.mp m)
      unfold pc_row_to_2
      simp only [ixq_ps (show i < xs.length by omega), Px.bind_ok, ofO_some, asB_bool, un2_eq, un3_eq, unL2_eq, gLt_int]
      by_cases w : gq xs i < 0
      · rw [decide_eq_true w, if_pos rfl, if_pos rfl, ix_int hi, ofO_some, Px.bind_ok, ix_rw0, ofO_some, Px.bind_ok, chD_at (List.getElem?_eq_getElem hi)]
      · rw [decide_eq_false w, if_neg Bool.false_ne_true, if_neg Bool.false_ne_true])
    rw [show F.map (fun j : Nat => PyData.int (j : Nat)) = natsD F from rfl] at c1
    rw [show F.reverse.map (fun j : Nat => PyData.int (j : Nat)) = natsD F.reverse from rfl] at c2
    have rv : revO (.list (natsD F)) = some (.list (natsD F.reverse)) := by
      show some (PyData.list (natsD F).reverse) = _
      unfold natsD
      rw [List.map_reverse]
    have l1 : (F.filter fun i => decide (0 < gq xs i)).length ≤ F.length := List.length_filter_le _ _
    have l2 : (F.reverse.filter fun i => decide (gq xs i < 0)).length ≤ F.reverse.length := List.length_filter_le _ _
    rw [List.length_reverse] at l2
    have ga := gAdd_lists (xs := [] ++ (F.filter fun i => decide (0 < gq xs i)).map fun i => chD cs (i, gq xs i)) (ys := [] ++ (F.reverse.filter fun i => decide (gq xs i < 0)).map fun i => chD cs (i, gq xs i)) (by
      rw [List.nil_append, List.nil_append, List.length_map, List.length_map]; omega)
    unfold p_row_to
    rw [y_need_two h hp hq, Px.bind_ok, e, Px.bind_ok, oD_some, gIsN_ps, ofO_some, Px.bind_ok, asB_bool, Px.bind_ok, if_neg Bool.false_ne_true, ef, Px.bind_ok, items_nats, ofO_some, Px.bind_ok, c1, Px.bind_ok, rv, ofO_some, Px.bind_ok, items_nats, ofO_some, Px.bind_ok, c2, Px.bind_ok, ga, ofO_some, Px.bind_ok]
    unfold rowsD rowL
    rw [List.map_append, List.map_map, List.map_map]
    rfl
end DV

set_option Elab.async false
set_option linter.all false
set_option maxRecDepth 100000
set_option maxHeartbeats 4000000
set_option autoImplicit false
/-! MyL09: the law of great purses. -/
namespace DV
open PySem L2
theorem gMax_ps {p : List Int} (h : p ≠ []) : ∃ M, gMax [psD p] = some (.int M) ∧ M ∈ p ∧ ∀ x ∈ p, x ≤ M := by
  have : ∃ M, maxL p = some M := by
    cases p with
    | nil => exact absurd rfl h
    | cons x r => exact ⟨_, rfl⟩
  obtain ⟨M, e⟩ := this
  refine ⟨M, ?_, maxL_spec e⟩
  show (do let ns ← intsD (p.map PyData.int); let m ← maxL ns; pure (PyData.int m) : Option D) = _
  rw [intsD_map]
  show (maxL p).bind _ = _
  rw [e]; rfl
theorem gMin_ps {p : List Int} (h : p ≠ []) : ∃ M, gMin [psD p] = some (.int M) ∧ M ∈ p ∧ ∀ x ∈ p, M ≤ x := by
  have : ∃ M, minL p = some M := by
    cases p with
    | nil => exact absurd rfl h
    | cons x r => exact ⟨_, rfl⟩
  obtain ⟨M, e⟩ := this
  refine ⟨M, ?_, minL_spec e⟩
  show (do let ns ← intsD (p.map PyData.int); let m ← minL ns; pure (PyData.int m) : Option D) = _
  rw [intsD_map]
  show (minL p).bind _ = _
  rw [e]; rfl
theorem gSum_ps (p : List Int) : gSum [psD p] = some (.int p.sum) := by
  show (intsD (p.map PyData.int)).map (fun ns => PyData.int ns.sum) = _
  rw [intsD_map]; rfl
theorem ne_nil {cs : List Rw} (h : Coins cs) {p : List Int} (l : p.length = cs.length) : p ≠ [] := fun e => by
  have := (coins_len h).1
  rw [e] at l
  simp at l
  omega
theorem pow9 : gPow (.int 10) (.int 9) = some (.int 1000000000) := by
  show (if cPow 10 9 = true then some (PyData.int (10 ^ (9 : Int).toNat)) else none) = _
  rw [cPow_of (by decide) (by decide) (by decide) (by decide)]
  rfl
theorem pow28' : gPow (.int 10) (.int 28) = some (.int (10 ^ 28)) := by
  show (if cPow 10 28 = true then some (PyData.int (10 ^ (28 : Int).toNat)) else none) = _
  rw [cPow_of (by decide) (by decide) (by decide) (by decide)]
  rfl
theorem pow30' : gPow (.int 10) (.int 30) = some (.int (10 ^ 30)) := by
  show (if cPow 10 30 = true then some (PyData.int (10 ^ (30 : Int).toNat)) else none) = _
  rw [cPow_of (by decide) (by decide) (by decide) (by decide)]
  rfl
/-- a kind of the fewest purse -/
theorem l9_kind {cs : List Rw} (h : Coins cs) {g : List Int} (lg : g.length = cs.length) (nf : NF cs g) {i : Nat} (hi : i < cs.length) (d : D) (he : d = .tuple [.int ((i : Nat) : Int), rwD cs[i]]) : pb_law_2 (psD g) () d = .ok (.nx ()) := by
  subst he
  have mi : cs[i] ∈ cs := List.getElem_mem hi
  have tx := coins_texts h mi
  have ne : gNe (.str cs[i].up) (.str "") = some (.bool (!decide (cs[i].up = ""))) := gNe_str tx.2 strOk_nil
  have ix2 := ix_rw2 cs[i]
  have ixm := ix_mn hi
  have ixg := ixq_ps (p := g) (i := i) (by omega)
  have q := coins_mn h mi
  rw [mn_get hi] at q
  unfold pb_law_2
  simp only [Px.bind_ok, ofO_some, asB_bool, un2_eq, un3_eq, unL2_eq, ix2, ne]
  by_cases u : cs[i].up = ""
  · simp only [u, decide_true, Bool.not_true, Bool.false_eq_true, if_false, Px.bind_ok]
  · have m2 := q.2.2.1 u
    have b := nf i hi (by omega)
    simp only [u, decide_false, Bool.not_false, if_true, ixg, ofO_some, Px.bind_ok, ixm, gGe_int, asB_bool, decide_eq_false (show ¬ mnAt cs i ≤ gq g i by omega), Bool.false_eq_true, if_false]
/-- what is carried from turn to turn -/
structure Here (cs : List Rw) (p : List Int) (k : Nat) (s : List D × D) : Prop where
  ex : ∃ (q : List Int) (x : Nat → Int), s.2 = psD q ∧ Purse cs (10 ^ 28 * 2 ^ k) q ∧ Sol cs p q x ∧ DkL (1000 + 200 * k) s.1
theorem l9_turn {cs : List Rw} (h : Coins cs) {p : List Int} (l1 : List D) {k : Nat} (hk : k < 4) {s : List D × D} (H : Here cs p k s) (d : D) : ∃ s', pb_law_3 (csD cs, l1) (psD (gat cs p)) (.int (mostV cs (gat cs p))) s d = .ok (.nx s') ∧ Here cs p (k + 1) s' := by
  obtain ⟨dk, dh⟩ := s
  obtain ⟨q, x, e, hq, sx, hd⟩ := H.ex
  have e : dh = psD q := e
  subst e
  have hd : DkL (1000 + 200 * k) dk := hd
  obtain ⟨M, eM, mM, _⟩ := gMax_ps (ne_nil h hq.len)
  have M0 := hq.low M mM
  have M1 := hq.high M mM
  have kb : (10 : Int) ^ 28 * 2 ^ k ≤ 10 ^ 28 * 8 := by
    have q4 : k = 0 ∨ k = 1 ∨ k = 2 ∨ k = 3 := by omega
    rcases q4 with e | e | e | e <;> (rw [e]; omega)
  have k0 : (10 : Int) ^ 28 ≤ 10 ^ 28 * 2 ^ k := by
    have q4 : k = 0 ∨ k = 1 ∨ k = 2 ∨ k = 3 := by omega
    rcases q4 with e | e | e | e <;> (rw [e]; omega)
  have dv : gDiv (.int M) (.int 500) = some (.int (M / 500)) := gDiv_int (by decide) (by decide)
  have f0 : 0 ≤ M / 500 := Int.ediv_nonneg M0 (by decide)
  have f1 : M / 500 * 500 ≤ M := Int.ediv_mul_le M (by decide)
  generalize hf : M / 500 = f at dv f0 f1
  generalize hB : (10 : Int) ^ 28 * 2 ^ k = B at hq M1 kb k0
  obtain ⟨L, r, l2, y, e1, d1, e2, hr, sy, _⟩ := row_there h hd (by omega) hq (am := 8) (far := 1 + f) (by decide) (by decide) (by omega) (by omega)
  have hB2 : (10 : Int) ^ 28 * 2 ^ (k + 1) = B * 2 := by rw [← hB, Int.pow_succ 2 k, ← Int.mul_assoc]
  have hr2 : Purse cs (B * 2) r := hr.mono (by omega)
  have r30 : Purse cs (10 ^ 30) r := hr2.mono (by omega)
  obtain ⟨N, eN, mN, _⟩ := gMax_ps (ne_nil h hr.len)
  have N1 := r30.high N mN
  have sr : Sol cs p r _ := sx.add sy
  have same : gat cs r = gat cs p := ((gat_iff h).mpr ⟨_, sr⟩).symm
  have y1 := y_fewest h r30
  have y2 := y_most h r30
  rw [same] at y1 y2
  have fl := few_le h r30
  have mg := most_ge h r30
  rw [same] at fl mg
  have ng : gNe (psD (gat cs p)) (psD (gat cs p)) = some (.bool false) := by rw [gNe_ps, decide_eq_true rfl]; rfl
  have nm : gNe (.int (mostV cs (gat cs p))) (.int (mostV cs (gat cs p))) = some (.bool false) := by rw [gNe_int, decide_eq_true rfl]; rfl
  refine ⟨(l2, psD r), ?_, ⟨r, _, rfl, by rw [hB2]; exact hr2, sr, d1.mono (by push_cast; omega)⟩⟩
  unfold pb_law_3
  simp only [eM, ofO_some, Px.bind_ok, dv, gAdd_int, e1, e2, eN, pow30', gLe_int, decide_eq_true N1, asB_bool, if_true, y1, ng, Bool.false_eq_true, if_false, y2, nm, gSum_ps, decide_eq_true fl.1, decide_eq_true mg, Bool.not_true, gEq_int]
  by_cases eq : r.sum = (gat cs p).sum
  · have nr : gNe (psD r) (psD (gat cs p)) = some (.bool false) := by rw [gNe_ps, decide_eq_true (fl.2 eq)]; rfl
    simp only [decide_eq_true eq, if_true, nr, ofO_some, Px.bind_ok, asB_bool, Bool.false_eq_true, if_false]
  · simp only [decide_eq_false eq, Bool.false_eq_true, if_false, Px.bind_ok]
theorem l9_cell (cell : Int) : pb_law_1 () (.int cell) = .ok (.nx ()) := by
  obtain ⟨l0, d0, e0⟩ := y_deck cell 9 (by decide)
  obtain ⟨cs, l1, h, _, d1, e1⟩ := y_coins d0 (by decide) (m := 8) (by decide) (by decide)
  have h8 := (coins_len h).2
  obtain ⟨hg, l2, g0, g1, d2, e2⟩ := draw3 d1 (by decide) 40 1000000000 (10 ^ 28) 40 (10 ^ 28) (by decide) (by decide) (by decide)
  obtain ⟨p, l3, pu1, d3, e3⟩ := y_purse h d2 (by decide) (h := hg) (by omega) (by
    have : (10 : Int) ^ 28 < 2 ^ 150 := by decide
    omega)
  have hp : Purse cs (10 ^ 28) p := pu1.mono (by omega)
  have hp30 : Purse cs (10 ^ 30) p := hp.mono (by decide)
  have yf := y_fewest h hp30
  have ym := y_most h hp30
  have sg := gat_sol h p
  have gb := gat_bd h hp30
  have fl := few_le h hp30
  -- the fewest purse is a purse
  have gp30 : Purse cs (10 ^ 30) (gat cs p) := by
    refine ⟨gat_len cs p, fun x m => ?_, fun x m => ?_⟩
    · obtain ⟨i, _, rfl⟩ := mem_gq m; exact (gb i).1
    · obtain ⟨i, hi, rfl⟩ := mem_gq m
      have hi' : i < cs.length := by rw [gat_len] at hi; exact hi
      have s1 := sum_range (gat cs p)
      have ps : p.sum ≤ 8 * 10 ^ 28 := by
        rw [sum_range p, hp.len]
        have := (sum_bd (x := gq p) (B := 10 ^ 28) (l := List.range cs.length) fun j m => ⟨gq_nonneg hp j, by
          have hj : j < p.length := by rw [hp.len]; exact List.mem_range.mp m
          exact hp.high _ (gp_mem hj)⟩).2
        rw [List.length_range] at this
        have k2 : ((cs.length : Nat) : Int) * 10 ^ 28 ≤ 8 * 10 ^ 28 := Int.mul_le_mul_of_nonneg_right (by omega) (by decide)
        omega
      have one := sum_one i (gq (gat cs p) i) (List.nodup_range (n := cs.length))
      rw [if_pos (List.mem_range.mpr hi')] at one
      have le := sum_le (x := fun j => if j = i then gq (gat cs p) i else 0) (y := gq (gat cs p)) (l := List.range cs.length) fun j _ => by
        show (if j = i then gq (gat cs p) i else 0) ≤ gq (gat cs p) j
        split
        · rename_i e; rw [e]; exact Int.le_refl _
        · exact (gb j).1
      rw [gat_len] at s1
      omega
  obtain ⟨xs, ex, lx, fx, cx⟩ := cnt_of h hp30 gp30 sg
  obtain ⟨m, em, mm, _⟩ := gMin_ps (ne_nil h lx)
  have m0 : 0 ≤ m := by
    obtain ⟨i, hi, rfl⟩ := mem_gq mm
    rw [fx i (by omega)]
    exact upsV_nonneg h (gq_nonneg hp) (by omega)
  obtain ⟨F, b, lF, er⟩ := (y_row_to h hp30 gp30 cx).2 xs rfl
  have sxs := cx.sol xs rfl
  have rd := rowL_done h hp.len gp30.len (gq_nonneg hp) (gq_nonneg gp30) sxs b lF
  have ro := rowL_ok h sxs b (cx.bd xs rfl)
  have ld := y_ldone h (o := some p) ro (fun p' e => by cases e; exact ⟨hp.len, hp.low⟩)
  rw [rd, oD_some, oD_some] at ld
  have nl : gNe (psD (gat cs p)) (psD (gat cs p)) = some (.bool false) := by rw [gNe_ps, decide_eq_true rfl]; rfl
  have en : enumO [csD cs] = some (enumD 0 (cs.map rwD)) := rfl
  have lp2 : loopE (pb_law_2 (psD (gat cs p))) (enumD 0 (cs.map rwD)) () = .ok (.inl ()) := by
    rcases loopE_run (b := pb_law_2 (psD (gat cs p))) (fun _ _ => True) (fun _ => False) (enumD 0 (cs.map rwD)) 0 () trivial (fun i d s hd _ => by
      obtain ⟨y, hy, ed⟩ := enum_get hd
      rw [List.getElem?_map] at hy
      cases hc : cs[i]? with
      | none => rw [hc] at hy; cases hy
      | some r =>
        rw [hc] at hy
        have hy : rwD r = y := Option.some.inj hy
        obtain ⟨hi, er⟩ := List.getElem?_eq_some_iff.mp hc
        subst hy
        refine .inl ⟨(), l9_kind h (gat_len cs p) (gat_nf h p) hi d ?_, trivial⟩
        rw [ed, ← er, Nat.zero_add]) with ⟨s', e, _⟩ | ⟨w, _, hw⟩
    · exact e
    · exact hw.elim
  have r4 : rng1 [.int 4] = some ((List.range 4).map fun i : Nat => PyData.int (i : Nat)) := rng_eq (n := 4) (by decide)
  obtain ⟨s', lp3, _⟩ : ∃ s', loopE (pb_law_3 (csD cs, l1) (psD (gat cs p)) (.int (mostV cs (gat cs p)))) ((List.range 4).map fun i : Nat => PyData.int (i : Nat)) (l3, psD p) = .ok (.inl s') ∧ True := by
    rcases loopE_run (b := pb_law_3 (csD cs, l1) (psD (gat cs p)) (.int (mostV cs (gat cs p)))) (fun k s => Here cs p k s) (fun _ => False) ((List.range 4).map fun i : Nat => PyData.int (i : Nat)) 0 (l3, psD p) ⟨p, _, rfl, by simpa using hp, Sol.refl cs p, d3.mono (by decide)⟩ (fun i d s hd H => by
      have hi := (List.getElem?_eq_some_iff.mp hd).1
      rw [List.length_map, List.length_range] at hi
      rw [Nat.zero_add] at H ⊢
      obtain ⟨s', e, H'⟩ := l9_turn h l1 hi H d
      exact .inl ⟨s', e, H'⟩) with ⟨s', e, _⟩ | ⟨w, _, hw⟩
    · exact ⟨s', e, trivial⟩
    · exact hw.elim
  unfold pb_law_1
  simp only [Px.bind_ok, ofO_some, asB_bool, un2_eq, un3_eq, unL2_eq, e0, e1, pow9, pow28', e2, e3, yf, ym, ex, gIsN_ps, Bool.false_eq_true, if_false, em, gLt_int, decide_eq_false (show ¬ m < 0 by omega), er, ld, nl, en, lp2, r4, lp3]
theorem e_law (ns : List Int) (hn : ns.length ≤ 1000) : ∃ ρ, m_law [.imm (.list (ns.map .int))] = .ok (.imm (.bool true)) ρ := by
  refine out_of (fx_law _) ?_
  obtain ⟨s', e, _⟩ := loopE_all (b := pb_law_1) (fun _ => True) (fun c : Int => PyData.int c) ((0 :: ns).take 10) () trivial (fun s c _ _ => ⟨(), l9_cell c, trivial⟩)
  have sc := script_cut (0 :: ns) 10
  have it : items (.list (((0 :: ns).take 10).map PyData.int)) = some (((0 :: ns).take 10).map .int) := rfl
  have io : intO (.int 10) = some 10 := rfl
  unfold p_law
  rw [script_add ns hn, ofO_some, Px.bind_ok, io, ofO_some, Px.bind_ok]
  have sc' : gSl (.list ((0 :: ns).map .int)) none (some (10 : Int)) = some (.list (((0 :: ns).take 10).map .int)) := sc
  rw [sc', ofO_some, Px.bind_ok, it, ofO_some, Px.bind_ok, e, Px.bind_ok]
end DV

namespace DV
open PySem PySem.Spec PyProof.Rows L2
/-! what the top has written -/
theorem all_mk {l : PySem.W.OpenLaw} {w : World} {K : PySem.W.Frag} {h : Heap} {mg : Str → Option Value} {fa f1 f2 f3 f4 f5 f6 f7 f8 f9 f10 f11 f12 f13 f14 f15 f16 f17 f18 f19 f20 f21 f22 f23 f24 f25 f26 f27 f28 f29 f30 : Addr} (X : K.In h) (G : h.Ns mainGlobals mg) (hfa : mg "law" = some (.ref fa))
    {od1 od2 od3 od4 od5 od6 od7 od8 od9 od10 od11 od12 od13 od14 od15 od16 od17 od18 od19 od20 od21 od22 od23 od24 od25 od26 od27 od28 od29 od30 an1 an2 an3 an4 an5 an6 an7 an8 an9 an10 an11 an12 an13 an14 an15 an16 an17 an18 an19 an20 an21 an22 an23 an24 an25 an26 an27 an28 an29 an30 : Option Addr} {sl1 sl2 sl3 sl4 sl5 sl6 sl7 sl8 sl9 sl10 sl11 sl12 sl13 sl14 sl15 sl16 sl17 sl18 sl19 sl20 sl21 sl22 sl23 sl24 sl25 sl26 sl27 sl28 sl29 sl30 : Array (Option Value)} {oc1 oc2 oc3 oc4 oc5 oc6 oc7 oc8 oc9 oc10 oc11 oc12 oc13 oc14 oc15 oc16 oc17 oc18 oc19 oc20 oc21 oc22 oc23 oc24 oc25 oc26 oc27 oc28 oc29 oc30 kV1 kV2 kV3 kV4 kV5 kV6 kV7 kV8 kV9 kV10 kV11 kV12 kV13 kV14 kV15 kV16 kV17 kV18 kV19 kV20 kV21 kV22 kV23 kV24 kV25 kV26 kV27 kV28 kV29 kV30 dc1 dc2 dc3 dc4 dc5 dc6 dc7 dc8 dc9 dc10 dc11 dc12 dc13 dc14 dc15 dc16 dc17 dc18 dc19 dc20 dc21 dc22 dc23 dc24 dc25 dc26 dc27 dc28 dc29 dc30 pm1 pm2 pm3 pm4 pm5 pm6 pm7 pm8 pm9 pm10 pm11 pm12 pm13 pm14 pm15 pm16 pm17 pm18 pm19 pm20 pm21 pm22 pm23 pm24 pm25 pm26 pm27 pm28 pm29 pm30 cd1 cd2 cd3 cd4 cd5 cd6 cd7 cd8 cd9 cd10 cd11 cd12 cd13 cd14 cd15 cd16 cd17 cd18 cd19 cd20 cd21 cd22 cd23 cd24 cd25 cd26 cd27 cd28 cd29 cd30 ct1 ct2 ct3 ct4 ct5 ct6 ct7 ct8 ct9 ct10 ct11 ct12 ct13 ct14 ct15 ct16 ct17 ct18 ct19 ct20 ct21 ct22 ct23 ct24 ct25 ct26 ct27 ct28 ct29 ct30 : Value} {t_LETTERS t_MOST_KINDS t_MOST_COINS : Tok}
    (a1 : PySem.W.nsIn K mainGlobals "is_from" = some (some (.ref f1))) (l1 : K.lookup f1 = some ⟨oc1, od1, .func (PySem.W.fnOf "is_from" "is_from" (defArgs (topS 8)) (defBody (topS 8)) (defScope (topS 8)) .none kV1 dc1 pm1 an1 cd1 ct1), sl1⟩) (c1 : PySem.W.codeIn K cd1 "is_from" = true) (k1 : PySem.W.keepIn K (.ref f1) = true)
    (a2 : PySem.W.nsIn K mainGlobals "is_name" = some (some (.ref f2))) (l2 : K.lookup f2 = some ⟨oc2, od2, .func (PySem.W.fnOf "is_name" "is_name" (defArgs (topS 9)) (defBody (topS 9)) (defScope (topS 9)) .none kV2 dc2 pm2 an2 cd2 ct2), sl2⟩) (c2 : PySem.W.codeIn K cd2 "is_name" = true) (k2 : PySem.W.keepIn K (.ref f2) = true)
    (a3 : PySem.W.nsIn K mainGlobals "is_rising" = some (some (.ref f3))) (l3 : K.lookup f3 = some ⟨oc3, od3, .func (PySem.W.fnOf "is_rising" "is_rising" (defArgs (topS 10)) (defBody (topS 10)) (defScope (topS 10)) .none kV3 dc3 pm3 an3 cd3 ct3), sl3⟩) (c3 : PySem.W.codeIn K cd3 "is_rising" = true) (k3 : PySem.W.keepIn K (.ref f3) = true)
    (a4 : PySem.W.nsIn K mainGlobals "is_coin" = some (some (.ref f4))) (l4 : K.lookup f4 = some ⟨oc4, od4, .func (PySem.W.fnOf "is_coin" "is_coin" (defArgs (topS 11)) (defBody (topS 11)) (defScope (topS 11)) .none kV4 dc4 pm4 an4 cd4 ct4), sl4⟩) (c4 : PySem.W.codeIn K cd4 "is_coin" = true) (k4 : PySem.W.keepIn K (.ref f4) = true)
    (a5 : PySem.W.nsIn K mainGlobals "are_coins" = some (some (.ref f5))) (l5 : K.lookup f5 = some ⟨oc5, od5, .func (PySem.W.fnOf "are_coins" "are_coins" (defArgs (topS 12)) (defBody (topS 12)) (defScope (topS 12)) .none kV5 dc5 pm5 an5 cd5 ct5), sl5⟩) (c5 : PySem.W.codeIn K cd5 "are_coins" = true) (k5 : PySem.W.keepIn K (.ref f5) = true)
    (a6 : PySem.W.nsIn K mainGlobals "need_coins" = some (some (.ref f6))) (l6 : K.lookup f6 = some ⟨oc6, od6, .func (PySem.W.fnOf "need_coins" "need_coins" (defArgs (topS 13)) (defBody (topS 13)) (defScope (topS 13)) .none kV6 dc6 pm6 an6 cd6 ct6), sl6⟩) (c6 : PySem.W.codeIn K cd6 "need_coins" = true) (k6 : PySem.W.keepIn K (.ref f6) = true)
    (a7 : PySem.W.nsIn K mainGlobals "is_stock" = some (some (.ref f7))) (l7 : K.lookup f7 = some ⟨oc7, od7, .func (PySem.W.fnOf "is_stock" "is_stock" (defArgs (topS 14)) (defBody (topS 14)) (defScope (topS 14)) .none kV7 dc7 pm7 an7 cd7 ct7), sl7⟩) (c7 : PySem.W.codeIn K cd7 "is_stock" = true) (k7 : PySem.W.keepIn K (.ref f7) = true)
    (a8 : PySem.W.nsIn K mainGlobals "need_purse" = some (some (.ref f8))) (l8 : K.lookup f8 = some ⟨oc8, od8, .func (PySem.W.fnOf "need_purse" "need_purse" (defArgs (topS 15)) (defBody (topS 15)) (defScope (topS 15)) .none kV8 dc8 pm8 an8 cd8 ct8), sl8⟩) (c8 : PySem.W.codeIn K cd8 "need_purse" = true) (k8 : PySem.W.keepIn K (.ref f8) = true)
    (a9 : PySem.W.nsIn K mainGlobals "lesser" = some (some (.ref f9))) (l9 : K.lookup f9 = some ⟨oc9, od9, .func (PySem.W.fnOf "lesser" "lesser" (defArgs (topS 16)) (defBody (topS 16)) (defScope (topS 16)) .none kV9 dc9 pm9 an9 cd9 ct9), sl9⟩) (c9 : PySem.W.codeIn K cd9 "lesser" = true) (k9 : PySem.W.keepIn K (.ref f9) = true)
    (a10 : PySem.W.nsIn K mainGlobals "from_below" = some (some (.ref f10))) (l10 : K.lookup f10 = some ⟨oc10, od10, .func (PySem.W.fnOf "from_below" "from_below" (defArgs (topS 17)) (defBody (topS 17)) (defScope (topS 17)) .none kV10 dc10 pm10 an10 cd10 ct10), sl10⟩) (c10 : PySem.W.codeIn K cd10 "from_below" = true) (k10 : PySem.W.keepIn K (.ref f10) = true)
    (a11 : PySem.W.nsIn K mainGlobals "gathered" = some (some (.ref f11))) (l11 : K.lookup f11 = some ⟨oc11, od11, .func (PySem.W.fnOf "gathered" "gathered" (defArgs (topS 19)) (defBody (topS 19)) (defScope (topS 19)) .none kV11 dc11 pm11 an11 cd11 ct11), sl11⟩) (c11 : PySem.W.codeIn K cd11 "gathered" = true) (k11 : PySem.W.keepIn K (.ref f11) = true)
    (a12 : PySem.W.nsIn K mainGlobals "fewest" = some (some (.ref f12))) (l12 : K.lookup f12 = some ⟨oc12, od12, .func (PySem.W.fnOf "fewest" "fewest" (defArgs (topS 20)) (defBody (topS 20)) (defScope (topS 20)) .none kV12 dc12 pm12 an12 cd12 ct12), sl12⟩) (c12 : PySem.W.codeIn K cd12 "fewest" = true) (k12 : PySem.W.keepIn K (.ref f12) = true)
    (a13 : PySem.W.nsIn K mainGlobals "most_of" = some (some (.ref f13))) (l13 : K.lookup f13 = some ⟨oc13, od13, .func (PySem.W.fnOf "most_of" "most_of" (defArgs (topS 21)) (defBody (topS 21)) (defScope (topS 21)) .none kV13 dc13 pm13 an13 cd13 ct13), sl13⟩) (c13 : PySem.W.codeIn K cd13 "most_of" = true) (k13 : PySem.W.keepIn K (.ref f13) = true)
    (a14 : PySem.W.nsIn K mainGlobals "most" = some (some (.ref f14))) (l14 : K.lookup f14 = some ⟨oc14, od14, .func (PySem.W.fnOf "most" "most" (defArgs (topS 22)) (defBody (topS 22)) (defScope (topS 22)) .none kV14 dc14 pm14 an14 cd14 ct14), sl14⟩) (c14 : PySem.W.codeIn K cd14 "most" = true) (k14 : PySem.W.keepIn K (.ref f14) = true)
    (a15 : PySem.W.nsIn K mainGlobals "need_two" = some (some (.ref f15))) (l15 : K.lookup f15 = some ⟨oc15, od15, .func (PySem.W.fnOf "need_two" "need_two" (defArgs (topS 24)) (defBody (topS 24)) (defScope (topS 24)) .none kV15 dc15 pm15 an15 cd15 ct15), sl15⟩) (c15 : PySem.W.codeIn K cd15 "need_two" = true) (k15 : PySem.W.keepIn K (.ref f15) = true)
    (a16 : PySem.W.nsIn K mainGlobals "reckoned" = some (some (.ref f16))) (l16 : K.lookup f16 = some ⟨oc16, od16, .func (PySem.W.fnOf "reckoned" "reckoned" (defArgs (topS 25)) (defBody (topS 25)) (defScope (topS 25)) .none kV16 dc16 pm16 an16 cd16 ct16), sl16⟩) (c16 : PySem.W.codeIn K cd16 "reckoned" = true) (k16 : PySem.W.keepIn K (.ref f16) = true)
    (a17 : PySem.W.nsIn K mainGlobals "counted" = some (some (.ref f17))) (l17 : K.lookup f17 = some ⟨oc17, od17, .func (PySem.W.fnOf "counted" "counted" (defArgs (topS 26)) (defBody (topS 26)) (defScope (topS 26)) .none kV17 dc17 pm17 an17 cd17 ct17), sl17⟩) (c17 : PySem.W.codeIn K cd17 "counted" = true) (k17 : PySem.W.keepIn K (.ref f17) = true)
    (a18 : PySem.W.nsIn K mainGlobals "count" = some (some (.ref f18))) (l18 : K.lookup f18 = some ⟨oc18, od18, .func (PySem.W.fnOf "count" "count" (defArgs (topS 27)) (defBody (topS 27)) (defScope (topS 27)) .none kV18 dc18 pm18 an18 cd18 ct18), sl18⟩) (c18 : PySem.W.codeIn K cd18 "count" = true) (k18 : PySem.W.keepIn K (.ref f18) = true)
    (a19 : PySem.W.nsIn K mainGlobals "row_to" = some (some (.ref f19))) (l19 : K.lookup f19 = some ⟨oc19, od19, .func (PySem.W.fnOf "row_to" "row_to" (defArgs (topS 29)) (defBody (topS 29)) (defScope (topS 29)) .none kV19 dc19 pm19 an19 cd19 ct19), sl19⟩) (c19 : PySem.W.codeIn K cd19 "row_to" = true) (k19 : PySem.W.keepIn K (.ref f19) = true)
    (a20 : PySem.W.nsIn K mainGlobals "_law_deck" = some (some (.ref f20))) (l20 : K.lookup f20 = some ⟨oc20, od20, .func (PySem.W.fnOf "_law_deck" "_law_deck" (defArgs (topS 31)) (defBody (topS 31)) (defScope (topS 31)) .none kV20 dc20 pm20 an20 cd20 ct20), sl20⟩) (c20 : PySem.W.codeIn K cd20 "_law_deck" = true) (k20 : PySem.W.keepIn K (.ref f20) = true)
    (a21 : PySem.W.nsIn K mainGlobals "_law_pick" = some (some (.ref f21))) (l21 : K.lookup f21 = some ⟨oc21, od21, .func (PySem.W.fnOf "_law_pick" "_law_pick" (defArgs (topS 32)) (defBody (topS 32)) (defScope (topS 32)) .none kV21 dc21 pm21 an21 cd21 ct21), sl21⟩) (c21 : PySem.W.codeIn K cd21 "_law_pick" = true) (k21 : PySem.W.keepIn K (.ref f21) = true)
    (a22 : PySem.W.nsIn K mainGlobals "_law_one" = some (some (.ref f22))) (l22 : K.lookup f22 = some ⟨oc22, od22, .func (PySem.W.fnOf "_law_one" "_law_one" (defArgs (topS 33)) (defBody (topS 33)) (defScope (topS 33)) .none kV22 dc22 pm22 an22 cd22 ct22), sl22⟩) (c22 : PySem.W.codeIn K cd22 "_law_one" = true) (k22 : PySem.W.keepIn K (.ref f22) = true)
    (a23 : PySem.W.nsIn K mainGlobals "_law_coins" = some (some (.ref f23))) (l23 : K.lookup f23 = some ⟨oc23, od23, .func (PySem.W.fnOf "_law_coins" "_law_coins" (defArgs (topS 34)) (defBody (topS 34)) (defScope (topS 34)) .none kV23 dc23 pm23 an23 cd23 ct23), sl23⟩) (c23 : PySem.W.codeIn K cd23 "_law_coins" = true) (k23 : PySem.W.keepIn K (.ref f23) = true)
    (a24 : PySem.W.nsIn K mainGlobals "_law_purse" = some (some (.ref f24))) (l24 : K.lookup f24 = some ⟨oc24, od24, .func (PySem.W.fnOf "_law_purse" "_law_purse" (defArgs (topS 35)) (defBody (topS 35)) (defScope (topS 35)) .none kV24 dc24 pm24 an24 cd24 ct24), sl24⟩) (c24 : PySem.W.codeIn K cd24 "_law_purse" = true) (k24 : PySem.W.keepIn K (.ref f24) = true)
    (a25 : PySem.W.nsIn K mainGlobals "_law_at" = some (some (.ref f25))) (l25 : K.lookup f25 = some ⟨oc25, od25, .func (PySem.W.fnOf "_law_at" "_law_at" (defArgs (topS 36)) (defBody (topS 36)) (defScope (topS 36)) .none kV25 dc25 pm25 an25 cd25 ct25), sl25⟩) (c25 : PySem.W.codeIn K cd25 "_law_at" = true) (k25 : PySem.W.keepIn K (.ref f25) = true)
    (a26 : PySem.W.nsIn K mainGlobals "_law_changed" = some (some (.ref f26))) (l26 : K.lookup f26 = some ⟨oc26, od26, .func (PySem.W.fnOf "_law_changed" "_law_changed" (defArgs (topS 37)) (defBody (topS 37)) (defScope (topS 37)) .none kV26 dc26 pm26 an26 cd26 ct26), sl26⟩) (c26 : PySem.W.codeIn K cd26 "_law_changed" = true) (k26 : PySem.W.keepIn K (.ref f26) = true)
    (a27 : PySem.W.nsIn K mainGlobals "_law_done" = some (some (.ref f27))) (l27 : K.lookup f27 = some ⟨oc27, od27, .func (PySem.W.fnOf "_law_done" "_law_done" (defArgs (topS 38)) (defBody (topS 38)) (defScope (topS 38)) .none kV27 dc27 pm27 an27 cd27 ct27), sl27⟩) (c27 : PySem.W.codeIn K cd27 "_law_done" = true) (k27 : PySem.W.keepIn K (.ref f27) = true)
    (a28 : PySem.W.nsIn K mainGlobals "_law_singles" = some (some (.ref f28))) (l28 : K.lookup f28 = some ⟨oc28, od28, .func (PySem.W.fnOf "_law_singles" "_law_singles" (defArgs (topS 39)) (defBody (topS 39)) (defScope (topS 39)) .none kV28 dc28 pm28 an28 cd28 ct28), sl28⟩) (c28 : PySem.W.codeIn K cd28 "_law_singles" = true) (k28 : PySem.W.keepIn K (.ref f28) = true)
    (a29 : PySem.W.nsIn K mainGlobals "_law_row" = some (some (.ref f29))) (l29 : K.lookup f29 = some ⟨oc29, od29, .func (PySem.W.fnOf "_law_row" "_law_row" (defArgs (topS 40)) (defBody (topS 40)) (defScope (topS 40)) .none kV29 dc29 pm29 an29 cd29 ct29), sl29⟩) (c29 : PySem.W.codeIn K cd29 "_law_row" = true) (k29 : PySem.W.keepIn K (.ref f29) = true)
    (a30 : PySem.W.nsIn K mainGlobals "law" = some (some (.ref f30))) (l30 : K.lookup f30 = some ⟨oc30, od30, .func (PySem.W.fnOf "law" "law" (defArgs (topS 41)) (defBody (topS 41)) (defScope (topS 41)) .none kV30 dc30 pm30 an30 cd30 ct30), sl30⟩) (c30 : PySem.W.codeIn K cd30 "law" = true) (k30 : PySem.W.keepIn K (.ref f30) = true)
    (z_isinstance : PySem.W.nsIn K mainGlobals "isinstance" = some none)
    (z_int : PySem.W.nsIn K mainGlobals "int" = some none)
    (z_bool : PySem.W.nsIn K mainGlobals "bool" = some none)
    (z_str : PySem.W.nsIn K mainGlobals "str" = some none)
    (z_len : PySem.W.nsIn K mainGlobals "len" = some none)
    (q_LETTERS : PySem.W.nsIn K mainGlobals "LETTERS" = some (some (.str ("abcdefghijklmnopqrstuvwxyz" : Str) t_LETTERS)))
    (z_all : PySem.W.nsIn K mainGlobals "all" = some none)
    (z_zip : PySem.W.nsIn K mainGlobals "zip" = some none)
    (z_tuple : PySem.W.nsIn K mainGlobals "tuple" = some none)
    (q_MOST_KINDS : PySem.W.nsIn K mainGlobals "MOST_KINDS" = some (some (.int 8 t_MOST_KINDS)))
    (z_range : PySem.W.nsIn K mainGlobals "range" = some none)
    (q_MOST_COINS : PySem.W.nsIn K mainGlobals "MOST_COINS" = some (some (.int 1000000000000000000000000000000 t_MOST_COINS)))
    (z_enumerate : PySem.W.nsIn K mainGlobals "enumerate" = some none)
    (z_list : PySem.W.nsIn K mainGlobals "list" = some none)
    (z_sum : PySem.W.nsIn K mainGlobals "sum" = some none)
    (z_max : PySem.W.nsIn K mainGlobals "max" = some none)
    (z_sorted : PySem.W.nsIn K mainGlobals "sorted" = some none)
    (z_min : PySem.W.nsIn K mainGlobals "min" = some none) :
    ∃ fd : FuncData, (∀ (s : Shared) (v : Value), BindsTo s fd ⟨[v], []⟩ [("script", v)]) ∧ ∀ base : Heap, K.In base → base.Ns mainGlobals mg → FnOk l.prog w K mg base CX0 8 fa fd ["script"] (spOf K 1 12 m_law) := by
  have e := hfa.symm.trans (PySem.W.mg_of X G a30)
  cases e
  have T : Txt K mg := ⟨PySem.W.mg_none_of X G z_isinstance, PySem.W.mg_none_of X G z_int, PySem.W.mg_none_of X G z_bool, PySem.W.mg_none_of X G z_str, PySem.W.mg_none_of X G z_len, ⟨_, PySem.W.mg_of X G q_LETTERS, ⟨t_LETTERS, rfl⟩⟩, PySem.W.mg_none_of X G z_all, PySem.W.mg_none_of X G z_zip, PySem.W.mg_none_of X G z_tuple, ⟨_, PySem.W.mg_of X G q_MOST_KINDS, ⟨t_MOST_KINDS, rfl⟩⟩, PySem.W.mg_none_of X G z_range, ⟨_, PySem.W.mg_of X G q_MOST_COINS, ⟨t_MOST_COINS, rfl⟩⟩, PySem.W.mg_none_of X G z_enumerate, PySem.W.mg_none_of X G z_list, PySem.W.mg_none_of X G z_sum, PySem.W.mg_none_of X G z_max, PySem.W.mg_none_of X G z_sorted, PySem.W.mg_none_of X G z_min⟩
  have F1 := fun_mk (st := topS 8) l1 c1 k1
  have b1 := F1.binds (ps := [("thing" : Str), ("low" : Str), ("high" : Str)]) fun _ _ _ _ _ _ us hl => match us, hl with | [_, _, _], _ => rfl
  have m1 := PySem.W.mg_of X G a1
  have F2 := fun_mk (st := topS 9) l2 c2 k2
  have b2 := F2.binds (ps := [("thing" : Str)]) fun _ _ _ _ _ _ us hl => match us, hl with | [_], _ => rfl
  have m2 := PySem.W.mg_of X G a2
  have F3 := fun_mk (st := topS 10) l3 c3 k3
  have b3 := F3.binds (ps := [("things" : Str)]) fun _ _ _ _ _ _ us hl => match us, hl with | [_], _ => rfl
  have m3 := PySem.W.mg_of X G a3
  have F4 := fun_mk (st := topS 11) l4 c4 k4
  have b4 := F4.binds (ps := [("thing" : Str)]) fun _ _ _ _ _ _ us hl => match us, hl with | [_], _ => rfl
  have m4 := PySem.W.mg_of X G a4
  have F5 := fun_mk (st := topS 12) l5 c5 k5
  have b5 := F5.binds (ps := [("thing" : Str)]) fun _ _ _ _ _ _ us hl => match us, hl with | [_], _ => rfl
  have m5 := PySem.W.mg_of X G a5
  have F6 := fun_mk (st := topS 13) l6 c6 k6
  have b6 := F6.binds (ps := [("coins" : Str)]) fun _ _ _ _ _ _ us hl => match us, hl with | [_], _ => rfl
  have m6 := PySem.W.mg_of X G a6
  have F7 := fun_mk (st := topS 14) l7 c7 k7
  have b7 := F7.binds (ps := [("coins" : Str), ("thing" : Str)]) fun _ _ _ _ _ _ us hl => match us, hl with | [_, _], _ => rfl
  have m7 := PySem.W.mg_of X G a7
  have F8 := fun_mk (st := topS 15) l8 c8 k8
  have b8 := F8.binds (ps := [("coins" : Str), ("purse" : Str)]) fun _ _ _ _ _ _ us hl => match us, hl with | [_, _], _ => rfl
  have m8 := PySem.W.mg_of X G a8
  have F9 := fun_mk (st := topS 16) l9 c9 k9
  have b9 := F9.binds (ps := [("coins" : Str), ("at" : Str)]) fun _ _ _ _ _ _ us hl => match us, hl with | [_, _], _ => rfl
  have m9 := PySem.W.mg_of X G a9
  have F10 := fun_mk (st := topS 17) l10 c10 k10
  have b10 := F10.binds (ps := [("coins" : Str)]) fun _ _ _ _ _ _ us hl => match us, hl with | [_], _ => rfl
  have m10 := PySem.W.mg_of X G a10
  have F11 := fun_mk (st := topS 19) l11 c11 k11
  have b11 := F11.binds (ps := [("coins" : Str), ("purse" : Str)]) fun _ _ _ _ _ _ us hl => match us, hl with | [_, _], _ => rfl
  have m11 := PySem.W.mg_of X G a11
  have F12 := fun_mk (st := topS 20) l12 c12 k12
  have b12 := F12.binds (ps := [("coins" : Str), ("purse" : Str)]) fun _ _ _ _ _ _ us hl => match us, hl with | [_, _], _ => rfl
  have m12 := PySem.W.mg_of X G a12
  have F13 := fun_mk (st := topS 21) l13 c13 k13
  have b13 := F13.binds (ps := [("coins" : Str), ("purse" : Str)]) fun _ _ _ _ _ _ us hl => match us, hl with | [_, _], _ => rfl
  have m13 := PySem.W.mg_of X G a13
  have F14 := fun_mk (st := topS 22) l14 c14 k14
  have b14 := F14.binds (ps := [("coins" : Str), ("purse" : Str)]) fun _ _ _ _ _ _ us hl => match us, hl with | [_, _], _ => rfl
  have m14 := PySem.W.mg_of X G a14
  have F15 := fun_mk (st := topS 24) l15 c15 k15
  have b15 := F15.binds (ps := [("coins" : Str), ("one" : Str), ("other" : Str)]) fun _ _ _ _ _ _ us hl => match us, hl with | [_, _, _], _ => rfl
  have m15 := PySem.W.mg_of X G a15
  have F16 := fun_mk (st := topS 25) l16 c16 k16
  have b16 := F16.binds (ps := [("coins" : Str), ("one" : Str), ("other" : Str)]) fun _ _ _ _ _ _ us hl => match us, hl with | [_, _, _], _ => rfl
  have m16 := PySem.W.mg_of X G a16
  have F17 := fun_mk (st := topS 26) l17 c17 k17
  have b17 := F17.binds (ps := [("coins" : Str), ("one" : Str), ("other" : Str)]) fun _ _ _ _ _ _ us hl => match us, hl with | [_, _, _], _ => rfl
  have m17 := PySem.W.mg_of X G a17
  have F18 := fun_mk (st := topS 27) l18 c18 k18
  have b18 := F18.binds (ps := [("coins" : Str), ("one" : Str), ("other" : Str)]) fun _ _ _ _ _ _ us hl => match us, hl with | [_, _, _], _ => rfl
  have m18 := PySem.W.mg_of X G a18
  have F19 := fun_mk (st := topS 29) l19 c19 k19
  have b19 := F19.binds (ps := [("coins" : Str), ("one" : Str), ("other" : Str)]) fun _ _ _ _ _ _ us hl => match us, hl with | [_, _, _], _ => rfl
  have m19 := PySem.W.mg_of X G a19
  have F20 := fun_mk (st := topS 31) l20 c20 k20
  have b20 := F20.binds (ps := [("cell" : Str), ("turn" : Str)]) fun _ _ _ _ _ _ us hl => match us, hl with | [_, _], _ => rfl
  have m20 := PySem.W.mg_of X G a20
  have F21 := fun_mk (st := topS 32) l21 c21 k21
  have b21 := F21.binds (ps := [("deck" : Str), ("size" : Str)]) fun _ _ _ _ _ _ us hl => match us, hl with | [_, _], _ => rfl
  have m21 := PySem.W.mg_of X G a21
  have F22 := fun_mk (st := topS 33) l22 c22 k22
  have b22 := F22.binds (ps := [("deck" : Str), ("some" : Str)]) fun _ _ _ _ _ _ us hl => match us, hl with | [_, _], _ => rfl
  have m22 := PySem.W.mg_of X G a22
  have F23 := fun_mk (st := topS 34) l23 c23 k23
  have b23 := F23.binds (ps := [("deck" : Str), ("at_most" : Str)]) fun _ _ _ _ _ _ us hl => match us, hl with | [_, _], _ => rfl
  have m23 := PySem.W.mg_of X G a23
  have F24 := fun_mk (st := topS 35) l24 c24 k24
  have b24 := F24.binds (ps := [("deck" : Str), ("coins_so" : Str), ("at_most" : Str)]) fun _ _ _ _ _ _ us hl => match us, hl with | [_, _, _], _ => rfl
  have m24 := PySem.W.mg_of X G a24
  have F25 := fun_mk (st := topS 36) l25 c25 k25
  have b25 := F25.binds (ps := [("coins_so" : Str), ("kind" : Str)]) fun _ _ _ _ _ _ us hl => match us, hl with | [_, _], _ => rfl
  have m25 := PySem.W.mg_of X G a25
  have F26 := fun_mk (st := topS 37) l26 c26 k26
  have b26 := F26.binds (ps := [("coins_so" : Str), ("purse" : Str), ("kind" : Str), ("times" : Str)]) fun _ _ _ _ _ _ us hl => match us, hl with | [_, _, _, _], _ => rfl
  have m26 := PySem.W.mg_of X G a26
  have F27 := fun_mk (st := topS 38) l27 c27 k27
  have b27 := F27.binds (ps := [("coins_so" : Str), ("purse" : Str), ("row" : Str)]) fun _ _ _ _ _ _ us hl => match us, hl with | [_, _, _], _ => rfl
  have m27 := PySem.W.mg_of X G a27
  have F28 := fun_mk (st := topS 39) l28 c28 k28
  have b28 := F28.binds (ps := [("coins_so" : Str), ("purse" : Str)]) fun _ _ _ _ _ _ us hl => match us, hl with | [_, _], _ => rfl
  have m28 := PySem.W.mg_of X G a28
  have F29 := fun_mk (st := topS 40) l29 c29 k29
  have b29 := F29.binds (ps := [("deck" : Str), ("coins_so" : Str), ("purse" : Str), ("at_most" : Str), ("far" : Str)]) fun _ _ _ _ _ _ us hl => match us, hl with | [_, _, _, _, _], _ => rfl
  have m29 := PySem.W.mg_of X G a29
  have F30 := fun_mk (st := topS 41) l30 c30 k30
  refine ⟨PySem.W.fnOf "law" "law" (defArgs (topS 41)) (defBody (topS 41)) (defScope (topS 41)) .none kV30 dc30 pm30 an30 cd30 ct30, fun s v => .of_eq rfl, fun base _ _ => ?_⟩
  have g_is_from : Cal l.prog w K mg base 1 "is_from" (spOf K 3 3 m_is_from) := cal_mk (ok_is_from F1 T ) m1 F1.kp b1
  have g_is_name : Cal l.prog w K mg base 1 "is_name" (spOf K 1 2 m_is_name) := cal_mk (ok_is_name F2 T ) m2 F2.kp b2
  have g_is_rising : Cal l.prog w K mg base 1 "is_rising" (spOf K 1 3 m_is_rising) := cal_mk (ok_is_rising F3 T ) m3 F3.kp b3
  have g_is_coin : Cal l.prog w K mg base 2 "is_coin" (spOf K 1 1 m_is_coin) := cal_mk (ok_is_coin F4 T g_is_name g_is_from) m4 F4.kp b4
  have g_are_coins : Cal l.prog w K mg base 3 "are_coins" (spOf K 1 8 m_are_coins) := cal_mk (ok_are_coins F5 T g_is_coin g_is_rising) m5 F5.kp b5
  have g_need_coins : Cal l.prog w K mg base 4 "need_coins" (spOf K 1 1 m_need_coins) := cal_mk (ok_need_coins F6 T g_are_coins) m6 F6.kp b6
  have g_is_stock : Cal l.prog w K mg base 2 "is_stock" (spOf K 2 3 m_is_stock) := cal_mk (ok_is_stock F7 T g_is_from) m7 F7.kp b7
  have g_need_purse : Cal l.prog w K mg base 5 "need_purse" (spOf K 2 2 m_need_purse) := cal_mk (ok_need_purse F8 T g_need_coins g_is_stock) m8 F8.kp b8
  have g_lesser : Cal l.prog w K mg base 1 "lesser" (spOf K 2 4 m_lesser) := cal_mk (ok_lesser F9 T ) m9 F9.kp b9
  have g_from_below : Cal l.prog w K mg base 2 "from_below" (spOf K 1 4 m_from_below) := cal_mk (ok_from_below F10 T g_lesser) m10 F10.kp b10
  have g_gathered : Cal l.prog w K mg base 3 "gathered" (spOf K 2 5 m_gathered) := cal_mk (ok_gathered F11 T g_from_below g_lesser) m11 F11.kp b11
  have g_fewest : Cal l.prog w K mg base 6 "fewest" (spOf K 2 2 m_fewest) := cal_mk (ok_fewest F12 T g_need_purse g_gathered) m12 F12.kp b12
  have g_most_of : Cal l.prog w K mg base 4 "most_of" (spOf K 2 6 m_most_of) := cal_mk (ok_most_of F13 T g_from_below g_lesser g_gathered) m13 F13.kp b13
  have g_most : Cal l.prog w K mg base 6 "most" (spOf K 2 2 m_most) := cal_mk (ok_most F14 T g_need_purse g_most_of) m14 F14.kp b14
  have g_need_two : Cal l.prog w K mg base 6 "need_two" (spOf K 3 3 m_need_two) := cal_mk (ok_need_two F15 T g_need_purse g_is_stock) m15 F15.kp b15
  have g_reckoned : Cal l.prog w K mg base 3 "reckoned" (spOf K 3 10 m_reckoned) := cal_mk (ok_reckoned F16 T g_from_below g_lesser) m16 F16.kp b16
  have g_counted : Cal l.prog w K mg base 4 "counted" (spOf K 3 6 m_counted) := cal_mk (ok_counted F17 T g_reckoned) m17 F17.kp b17
  have g_count : Cal l.prog w K mg base 7 "count" (spOf K 3 3 m_count) := cal_mk (ok_count F18 T g_need_two g_counted) m18 F18.kp b18
  have g_row_to : Cal l.prog w K mg base 7 "row_to" (spOf K 3 7 m_row_to) := cal_mk (ok_row_to F19 T g_need_two g_counted g_from_below) m19 F19.kp b19
  have g__law_deck : Cal l.prog w K mg base 1 "_law_deck" (spOf K 2 2 m__law_deck) := cal_mk (ok__law_deck F20 T ) m20 F20.kp b20
  have g__law_pick : Cal l.prog w K mg base 1 "_law_pick" (spOf K 2 4 m__law_pick) := cal_mk (ok__law_pick F21 T ) m21 F21.kp b21
  have g__law_one : Cal l.prog w K mg base 2 "_law_one" (spOf K 2 2 m__law_one) := cal_mk (ok__law_one F22 T g__law_pick) m22 F22.kp b22
  have g__law_coins : Cal l.prog w K mg base 3 "_law_coins" (spOf K 2 8 m__law_coins) := cal_mk (ok__law_coins F23 T g__law_pick g__law_one) m23 F23.kp b23
  have g__law_purse : Cal l.prog w K mg base 3 "_law_purse" (spOf K 3 5 m__law_purse) := cal_mk (ok__law_purse F24 T g__law_one g__law_pick) m24 F24.kp b24
  have g__law_at : Cal l.prog w K mg base 1 "_law_at" (spOf K 2 3 m__law_at) := cal_mk (ok__law_at F25 T ) m25 F25.kp b25
  have g__law_changed : Cal l.prog w K mg base 2 "_law_changed" (spOf K 4 8 m__law_changed) := cal_mk (ok__law_changed F26 T g__law_at) m26 F26.kp b26
  have g__law_done : Cal l.prog w K mg base 3 "_law_done" (spOf K 3 5 m__law_done) := cal_mk (ok__law_done F27 T g__law_changed) m27 F27.kp b27
  have g__law_singles : Cal l.prog w K mg base 3 "_law_singles" (spOf K 2 5 m__law_singles) := cal_mk (ok__law_singles F28 T g__law_changed) m28 F28.kp b28
  have g__law_row : Cal l.prog w K mg base 4 "_law_row" (spOf K 5 12 m__law_row) := cal_mk (ok__law_row F29 T g__law_pick g__law_singles g__law_one g__law_changed) m29 F29.kp b29
  exact ok_law F30 T g__law_deck g__law_coins g__law_purse g__law_one g_most g_fewest g_count g__law_done g_row_to g__law_row
end DV

open PySem PySem.W PyProof.Rows in
set_option maxRecDepth 100000 in
set_option maxHeartbeats 0 in
theorem PySem.Challenge.cw_coinsteps_k09_whole_great_purses_holds : PySem.Challenge.rw_coinsteps_k09_whole_great_purses.Holds := by
  w_on; o_law; k_head; (case hw => w_witness2)
  k_fill
  refine L2.walk_ofB (l := PySem.Challenge.rw_coinsteps_k09_whole_great_purses) (n := 63) (k := 8) (x := "script") (CX := fun _ => L2.CX0) (sp := fun w => DV.spOf _ 1 12 DV.m_law) rfl (by decide) rfl ⟨rfl, by decide, by decide⟩ (fun w h Y => PySem.W.kIn_of Y) ?F (fun _ _ a ns hl hb _ hS => DV.law_start hS ((DV.e_law ns (Nat.le_trans hl (by decide))).choose_spec) (by decide)) (fun _ _ _ _ _ h => h)
  case F =>
    intro w mg fa h KX G hmg
    refine' DV.all_mk KX G hmg ?a1 ?l1 ?c1 ?k1 ?a2 ?l2 ?c2 ?k2 ?a3 ?l3 ?c3 ?k3 ?a4 ?l4 ?c4 ?k4 ?a5 ?l5 ?c5 ?k5 ?a6 ?l6 ?c6 ?k6 ?a7 ?l7 ?c7 ?k7 ?a8 ?l8 ?c8 ?k8 ?a9 ?l9 ?c9 ?k9 ?a10 ?l10 ?c10 ?k10 ?a11 ?l11 ?c11 ?k11 ?a12 ?l12 ?c12 ?k12 ?a13 ?l13 ?c13 ?k13 ?a14 ?l14 ?c14 ?k14 ?a15 ?l15 ?c15 ?k15 ?a16 ?l16 ?c16 ?k16 ?a17 ?l17 ?c17 ?k17 ?a18 ?l18 ?c18 ?k18 ?a19 ?l19 ?c19 ?k19 ?a20 ?l20 ?c20 ?k20 ?a21 ?l21 ?c21 ?k21 ?a22 ?l22 ?c22 ?k22 ?a23 ?l23 ?c23 ?k23 ?a24 ?l24 ?c24 ?k24 ?a25 ?l25 ?c25 ?k25 ?a26 ?l26 ?c26 ?k26 ?a27 ?l27 ?c27 ?k27 ?a28 ?l28 ?c28 ?k28 ?a29 ?l29 ?c29 ?k29 ?a30 ?l30 ?c30 ?k30 ?z_isinstance ?z_int ?z_bool ?z_str ?z_len ?q_LETTERS ?z_all ?z_zip ?z_tuple ?q_MOST_KINDS ?z_range ?q_MOST_COINS ?z_enumerate ?z_list ?z_sum ?z_max ?z_sorted ?z_min
    (case a1 => k_is)
    (case l1 => k_is)
    (case c1 => k_is)
    (case k1 => k_is)
    (case a2 => k_is)
    (case l2 => k_is)
    (case c2 => k_is)
    (case k2 => k_is)
    (case a3 => k_is)
    (case l3 => k_is)
    (case c3 => k_is)
    (case k3 => k_is)
    (case a4 => k_is)
    (case l4 => k_is)
    (case c4 => k_is)
    (case k4 => k_is)
    (case a5 => k_is)
    (case l5 => k_is)
    (case c5 => k_is)
    (case k5 => k_is)
    (case a6 => k_is)
    (case l6 => k_is)
    (case c6 => k_is)
    (case k6 => k_is)
    (case a7 => k_is)
    (case l7 => k_is)
    (case c7 => k_is)
    (case k7 => k_is)
    (case a8 => k_is)
    (case l8 => k_is)
    (case c8 => k_is)
    (case k8 => k_is)
    (case a9 => k_is)
    (case l9 => k_is)
    (case c9 => k_is)
    (case k9 => k_is)
    (case a10 => k_is)
    (case l10 => k_is)
    (case c10 => k_is)
    (case k10 => k_is)
    (case a11 => k_is)
    (case l11 => k_is)
    (case c11 => k_is)
    (case k11 => k_is)
    (case a12 => k_is)
    (case l12 => k_is)
    (case c12 => k_is)
    (case k12 => k_is)
    (case a13 => k_is)
    (case l13 => k_is)
    (case c13 => k_is)
    (case k13 => k_is)
    (case a14 => k_is)
    (case l14 => k_is)
    (case c14 => k_is)
    (case k14 => k_is)
    (case a15 => k_is)
    (case l15 => k_is)
    (case c15 => k_is)
    (case k15 => k_is)
    (case a16 => k_is)
    (case l16 => k_is)
    (case c16 => k_is)
    (case k16 => k_is)
    (case a17 => k_is)
    (case l17 => k_is)
    (case c17 => k_is)
    (case k17 => k_is)
    (case a18 => k_is)
    (case l18 => k_is)
    (case c18 => k_is)
    (case k18 => k_is)
    (case a19 => k_is)
    (case l19 => k_is)
    (case c19 => k_is)
    (case k19 => k_is)
    (case a20 => k_is)
    (case l20 => k_is)
    (case c20 => k_is)
    (case k20 => k_is)
    (case a21 => k_is)
    (case l21 => k_is)
    (case c21 => k_is)
    (case k21 => k_is)
    (case a22 => k_is)
    (case l22 => k_is)
    (case c22 => k_is)
    (case k22 => k_is)
    (case a23 => k_is)
    (case l23 => k_is)
    (case c23 => k_is)
    (case k23 => k_is)
    (case a24 => k_is)
    (case l24 => k_is)
    (case c24 => k_is)
    (case k24 => k_is)
    (case a25 => k_is)
    (case l25 => k_is)
    (case c25 => k_is)
    (case k25 => k_is)
    (case a26 => k_is)
    (case l26 => k_is)
    (case c26 => k_is)
    (case k26 => k_is)
    (case a27 => k_is)
    (case l27 => k_is)
    (case c27 => k_is)
    (case k27 => k_is)
    (case a28 => k_is)
    (case l28 => k_is)
    (case c28 => k_is)
    (case k28 => k_is)
    (case a29 => k_is)
    (case l29 => k_is)
    (case c29 => k_is)
    (case k29 => k_is)
    (case a30 => k_is)
    (case l30 => k_is)
    (case c30 => k_is)
    (case k30 => k_is)
    (case z_isinstance => k_is)
    (case z_int => k_is)
    (case z_bool => k_is)
    (case z_str => k_is)
    (case z_len => k_is)
    (case q_LETTERS => k_is)
    (case z_all => k_is)
    (case z_zip => k_is)
    (case z_tuple => k_is)
    (case q_MOST_KINDS => k_is)
    (case z_range => k_is)
    (case q_MOST_COINS => k_is)
    (case z_enumerate => k_is)
    (case z_list => k_is)
    (case z_sum => k_is)
    (case z_max => k_is)
    (case z_sorted => k_is)
    (case z_min => k_is)
